import PyProof.Rows.All
import Wide.All
import OpenK.AllK
import Wide.FinOn
import PyProof.EqAt
import PyProof.EqKinds
import PyProof.TupleCall
import HandS.ForMost
import HandS.Wide
import HandS.IsInst
import HandS.Walk
import HandS.Style
import HandS.More
import HandS.TupAny
import HandS.TupMul
import HandS.Set
import HandS.SetTxt0
import HandS.SetTxtIn
import HandS.SetFor
import HandS.DictComp
import HandS.ListItems
import HandS.Property
import KE.KDictCopyH
import HandS.Codes
import HandS.DictTup
import KE.KSortTup
import PyProof.Rows.SortKeyStr
import HandS.OwnEq
import HandS.Deep
import KE.KOpsOwn
import PyProof.TupleKey
import PyProof.DictRoadsH
import PyProof.DictStraight
import HandS.Base
import HandS.Dict
import KE.KDictDisplayH
import KE.SortData
import KE.OsSortAny
import KE.KCallOwn
import PyProof.NeKinds
import HandS.List
import HandS.Small
import HandS.Star
import PySem.Challenge.RW_cutbehind_k45_besides
set_option Elab.async false
set_option linter.all false
set_option maxRecDepth 100000
set_option maxHeartbeats 4000000
/-! The part that every claim shares: defs that are run where no repr is under way (FnG), and rules for what the hand layer lacks. -/
namespace G
open PySem PySem.Spec PyProof.Rows L2
/-! ### a def's promise where no guarded builtin is running -/
structure FnG (P : Program) (w : World) (K : PySem.W.Frag) (mg : Str → Option Value) (base : Heap) (CX : CXT) (k : Nat) (f : Addr) (fd : FuncData) (ps : List Str) (sp : Sp) : Prop where
  cnt : ∀ {vs H Q E}, sp vs H Q E → vs.length = ps.length
  go : ∀ {A : Around} {outer : List Env} {s : Shared} {H : Hp} {args : Args} {us : List Value} {vs : List V} {Q : VK} {E : XK}, A.guards = some [] → Room k A → Env0 P w K mg base A outer s H →
    BindsTo s fd args (ps.zip us) → Vals vs us → sp vs H Q E → codeAny (model P w) A (.call (.ref f) args) (CR CX outer P w H s Q E) s
section
variable {P : Program} {w : World} {K : PySem.W.Frag} {mg : Str → Option Value} {base : Heap} {CX : CXT} {k : Nat} {f : Addr} {fd : FuncData} {ps : List Str} {sp : Sp}
theorem FnG.of (F : FnOk P w K mg base CX k f fd ps sp) : FnG P w K mg base CX k f fd ps sp :=
  ⟨fun h => F.len _ _ _ _ h, fun {A outer s H args us vs Q E} _ hr e0 hb hv hs => F.run A outer s H args us vs Q E hr e0 hb hv hs⟩
theorem FnG.mono {j : Nat} (F : FnG P w K mg base CX j f fd ps sp) (h : j ≤ k) : FnG P w K mg base CX k f fd ps sp :=
  ⟨F.cnt, fun hg hr => F.go hg (hr.mono h)⟩
end
/-- the rule for a def of the text, by its body; the body's reader is told that nothing guarded runs -/
theorem fn_gK {CX : CXT} {P : Program} {w : World} {K : PySem.W.Frag} {mg : Str → Option Value} {base : Heap} {k : Nat} {f : Addr} {x qual : Str} {st : Stmt} {fd : FuncData} {N ps : List Str} {sp : Sp}
    (F : Fun K x qual st f fd) (S : FnScope N ps (defScope st)) (cnt : ∀ vs H Q E, sp vs H Q E → vs.length = ps.length)
    (body : ∀ (cdv : Value), fd.code = cdv → ∀ (A : Around) (outer : List Env) (s : Shared) (H : Hp) (vs : List V) (Q : VK) (E : XK), (A.deeper (envOfC qual (defScope st) s.heap.objs.size f cdv)).guards = some [] →
      Room k (A.deeper (envOfC qual (defScope st) s.heap.objs.size f cdv)) → sp vs H Q E →
      ∃ t, PSs (cxOf CX P w K mg base N qual (defScope st) f cdv A outer s H E) (defBody st) t ∧ t { nx := fun _ H' => Q .non H', rt := Q } (start N vs) H) :
    FnG P w K mg base CX (k + 1) f fd ps sp := by
  obtain ⟨oc, od, kV, doc, pm, an, cdv, ct, osl, hfd, look, code⟩ := F.ex
  subst hfd
  refine ⟨fun h => cnt _ _ _ _ h, ?_⟩
  intro A outer s H args us vs Q E hg room env0 hbind hvals want
  have kin : K.In s.heap := env0.mod.kin.keeps fun b o q => (env0.bs b o q).1
  have nolim : s.heap.NoLimit := env0.mod.nolimit.keeps fun b o q => (env0.bs b o q).1
  have kinds : ∀ y ∈ ps.zip us, (defScope st).names.lookup y.1 = some .local ∨ ((defScope st).names.lookup y.1 = some .cell ∧ ((cellsFrom (s.heap.objs.size + 1) (defScope st).names []).lookup y.1).isSome = true) := by
    rintro ⟨n, v⟩ hy
    cases S.par n (List.of_mem_zip hy).1 with
    | inl q => exact Or.inl q
    | inr q => exact Or.inr ⟨q, PySem.W.cellsFrom_some _ _ _ (Or.inl q)⟩
  refine codeAny_call_function room.depth (kin _ _ look) rfl S.co S.gen rfl (PySem.W.codeRec_of kin code) (hbind _ _ _ _ ?_)
  refine wpAny_newFunctionEnv_cells S.kind kinds ?_
  intro env he s1 z
  subst he
  refine ⟨nolim.keeps z.toInCall.keep, codeAny_func ?_⟩
  obtain ⟨t, ht, hq⟩ := body cdv rfl A outer s H vs Q E hg (room.deeper _) want
  have I0 := inv_start (CX := CX) (P := P) (w := w) (mg := mg) (base := base) (qual := qual) (E := E) S room.hd env0 (cnt _ _ _ _ want) hvals z
  refine wpAny_mono (ht.run [] s1 (start N vs) H _ I0 hq) ?_ (fun _ _ q => q)
  intro fl s' hs
  cases fl with
  | ret u =>
    obtain ⟨v, σ', H', J, rv, q⟩ := hs
    exact ⟨v, H', J.os, J.bare, J.base, J.hok, rv, q⟩
  | next =>
    obtain ⟨σ', H', J, q⟩ := hs
    exact ⟨V.non, H', J.os, J.bare, J.base, J.hok, rfl, q⟩
  | brk => exact hs.elim fun _ z => z.elim fun _ z => False.elim z.2
  | cont => exact hs.elim fun _ z => z.elim fun _ z => False.elim z.2
theorem fn_g {CX : CXT} {P : Program} {w : World} {K : PySem.W.Frag} {mg : Str → Option Value} {base : Heap} {k : Nat} {f : Addr} {x qual : Str} {st : Stmt} {fd : FuncData} {N ps : List Str} {sp : Sp}
    (F : Fun K x qual st f fd) (S : FnScope N ps (defScope st)) (cnt : ∀ vs H Q E, sp vs H Q E → vs.length = ps.length)
    (body : ∀ (cdv : Value) (A : Around) (outer : List Env) (s : Shared) (H : Hp) (vs : List V) (Q : VK) (E : XK), (A.deeper (envOfC qual (defScope st) s.heap.objs.size f cdv)).guards = some [] →
      Room k (A.deeper (envOfC qual (defScope st) s.heap.objs.size f cdv)) → sp vs H Q E →
      ∃ t, PSs (cxOf CX P w K mg base N qual (defScope st) f cdv A outer s H E) (defBody st) t ∧ t { nx := fun _ H' => Q .non H', rt := Q } (start N vs) H) :
    FnG P w K mg base CX (k + 1) f fd ps sp := fn_gK F S cnt fun cdv _ => body cdv
/-- a def that lets nothing out, its code object known -/
theorem fn_gC {P : Program} {w : World} {K : PySem.W.Frag} {mg : Str → Option Value} {base : Heap} {k : Nat} {f c : Addr} {x qual : Str} {st : Stmt} {fd : FuncData} {N ps : List Str} {sp : Sp}
    (F : Fun K x qual st f fd) (hc : fd.code = .ref c) (S : FnScope N ps (defScope st)) (cnt : ∀ vs H Q E, sp vs H Q E → vs.length = ps.length)
    (body : ∀ (A : Around) (outer : List Env) (s : Shared) (H : Hp) (vs : List V) (Q : VK) (E : XK), (A.deeper (envOfC qual (defScope st) s.heap.objs.size f (.ref c))).guards = some [] →
      Room k (A.deeper (envOfC qual (defScope st) s.heap.objs.size f (.ref c))) → sp vs H Q E →
      ∃ t, PSs (cxOf CX0 P w K mg base N qual (defScope st) f (.ref c) A outer s H E).nox (defBody st) t ∧ t { nx := fun _ H' => Q .non H', rt := Q } (start N vs) H) :
    FnG P w K mg base CX0 (k + 1) f fd ps sp := fn_gK F S cnt fun cdv e A outer s H vs Q E hg hr h => by
  rw [hc] at e
  subst e
  obtain ⟨t, ht, hq⟩ := body A outer s H vs Q E hg hr h
  exact ⟨t, ht.nox, hq⟩
/-- a def that lets nothing out -/
theorem fn_g0 {P : Program} {w : World} {K : PySem.W.Frag} {mg : Str → Option Value} {base : Heap} {k : Nat} {f : Addr} {x qual : Str} {st : Stmt} {fd : FuncData} {N ps : List Str} {sp : Sp}
    (F : Fun K x qual st f fd) (S : FnScope N ps (defScope st)) (cnt : ∀ vs H Q E, sp vs H Q E → vs.length = ps.length)
    (body : ∀ (cdv : Value) (A : Around) (outer : List Env) (s : Shared) (H : Hp) (vs : List V) (Q : VK) (E : XK), (A.deeper (envOfC qual (defScope st) s.heap.objs.size f cdv)).guards = some [] →
      Room k (A.deeper (envOfC qual (defScope st) s.heap.objs.size f cdv)) → sp vs H Q E →
      ∃ t, PSs (cxOf CX0 P w K mg base N qual (defScope st) f cdv A outer s H E).nox (defBody st) t ∧ t { nx := fun _ H' => Q .non H', rt := Q } (start N vs) H) :
    FnG P w K mg base CX0 (k + 1) f fd ps sp := fn_g F S cnt fun cdv A outer s H vs Q E hg hr h => by
  obtain ⟨t, ht, hq⟩ := body cdv A outer s H vs Q E hg hr h
  exact ⟨t, ht.nox, hq⟩

/-! ### a def as its callers use it -/
structure Has (P : Program) (w : World) (K : PySem.W.Frag) (mg : Str → Option Value) (base : Heap) (CX : CXT) (k : Nat) (x : Str) (ps : List Str) (sp : Sp) : Prop where
  ex : ∃ f fd, FnG P w K mg base CX k f fd ps sp ∧ mg x = some (.ref f) ∧ PySem.W.keepIn K (.ref f) = true ∧ Binds K fd ps []
theorem Has.mono {P : Program} {w : World} {K : PySem.W.Frag} {mg : Str → Option Value} {base : Heap} {CX : CXT} {j k : Nat} {x : Str} {ps : List Str} {sp : Sp} (F : Has P w K mg base CX j x ps sp) (h : j ≤ k) : Has P w K mg base CX k x ps sp := by
  obtain ⟨f, fd, G, r⟩ := F.ex
  exact ⟨f, fd, G.mono h, r⟩
theorem Has.mk' {P : Program} {w : World} {K : PySem.W.Frag} {mg : Str → Option Value} {base : Heap} {CX : CXT} {k : Nat} {x qual : Str} {ps : List Str} {sp : Sp} {f : Addr} {fd : FuncData} {st : Stmt} (F : Fun K x qual st f fd) (hm : mg x = some (.ref f)) (hb : Binds K fd ps [])
    (G : FnG P w K mg base CX k f fd ps sp) : Has P w K mg base CX k x ps sp := ⟨f, fd, G, hm, F.kp, hb⟩
section
variable {X : Cx} {CX : CXT} {k : Nat} {x : Str} {ps : List Str} {sp : Sp} {E : XK} {p pos : Pos} {e : Expr} {es : List Expr} {t : TA}
theorem run_g {f : Addr} {fd : FuncData} {pins : List (Addr × Obj)} {σ : L2.St} {H : Hp} {s : Shared} {Q : VK} {us : List Value} {vs : List V} (F : FnG X.prog X.w X.K X.mg X.base CX k f fd ps sp) (hg : X.A.guards = some []) (hr : Room k X.A) (hb : Binds X.K fd ps []) (hx : Passes CX X E)
    (I : Inv X pins σ H s) (r : Vals vs us) (h : sp vs H Q E) : wpAny (model X.prog X.w) X.A (call (.ref f) us) (EP X pins σ Q) X.xe s := by
  have hl : (us ++ []).length = ps.length := by
    rw [List.append_nil, ← r.length]
    exact F.cnt h
  have hb' := hb s us I.kIn hl
  rw [List.append_nil] at hb'
  refine wpAny_call (codeAny_mono (F.go hg hr I.env0 hb' r h) ?_)
  intro res s' q
  cases res with
  | error err => exact hx pins σ H s err s' I q
  | ok fl =>
    cases fl with
    | ret u => exact I.after q
    | next => exact q.elim
    | brk => exact q.elim
    | cont => exact q.elim
theorem pe_has (F : Has X.prog X.w X.K X.mg X.base CX k x ps sp) (hg : X.A.guards = some []) (hr : Room k X.A) (hx : Passes CX X E) (ha : PA X (e :: es) t) (hl : Gl X x := by rfl)
    (hdb : (x == ("__debug__" : Str)) = false := by decide) (he : starEach (e :: es) X.env = (false, eval e X.env) :: starEach es X.env := by rfl) (hpl : (backTo pos (starEach es X.env)).any (·.1) = false := by rfl) :
    PE X (.Call (.Name x p) (e :: es) [] pos) (tCall sp [] E t) := by
  obtain ⟨f, fd, G, hm, hk, hb⟩ := F.ex
  constructor
  intro pins s σ H Q I h
  refine wpAny_Call_Name_kw (ld_glob I hl hm ?_ hdb)
  refine PySem.W.callWith_K (h₀ := X.base) I.ok.mod.kin hk (thn (ha.run pos pins s σ H _ I h) ?_) he hpl
  rintro us s1 ⟨vs, H1, I1, r, q⟩
  refine ⟨I1.kIn, run_g G hg hr hb hx I1 r ?_⟩
  have q' : sp (vs ++ []) H1 Q E := q
  rw [List.append_nil] at q'
  exact q'
theorem pe_has0 (F : Has X.prog X.w X.K X.mg X.base CX k x ps sp) (hg : X.A.guards = some []) (hr : Room k X.A) (hx : Passes CX X E) (hl : Gl X x := by rfl) (hdb : (x == ("__debug__" : Str)) = false := by decide) :
    PE X (.Call (.Name x p) [] [] pos) (tCall sp [] E tNil) := by
  obtain ⟨f, fd, G, hm, hk, hb⟩ := F.ex
  constructor
  intro pins s σ H Q I h
  refine wpAny_Call_Name_kw (ld_glob I hl hm ?_ hdb)
  exact PySem.W.callWith_K0 I.kIn hk (run_g (us := []) (vs := []) G hg hr hb hx I .nil h)
end

/-! ### rules for ints of any size, texts, lists, repr -/
section
variable {X : Cx}
def CPowW (i j : Int) : Prop := 0 ≤ j ∧ (Builtin.Int.intBits i : Int) * j ≤ 2 ^ 27
theorem op_powW : OpR X (binaryOp .Pow) (rI CPowW fun i j => .int (i ^ j.toNat)) := by
  intro pins s σ H x y v u Q I rx ry h
  obtain ⟨i, j, rfl, rfl, ⟨h1, h2⟩, q⟩ := h
  obtain ⟨t1, rfl⟩ := rx
  obtain ⟨t2, rfl⟩ := ry
  exact pow_int h1 h2 ⟨V.int _, H, I.tok _, ⟨_, rfl⟩, q⟩
/-- a text said n times, n at least 2 -/
def sRep (z : Str) (n : Nat) : Str := ⟨(List.replicate n z.cps).foldl (· ++ ·) #[]⟩
def rMulS : R2 := fun x y H Q => ∃ (z : Str) (n : Int), x = .str z ∧ y = .int n ∧ 1 < n ∧ n < 2 ^ 40 ∧ 0 < z.length ∧ z.length * n.toNat ≤ sizeLine ∧ Q (.str (sRep z n.toNat)) H
theorem op_mulS : OpR X (binaryOp .Mult) rMulS := by
  intro pins s σ H x y v u Q I rx ry h
  obtain ⟨z, n, rfl, rfl, h1, h2, h3, h4, q⟩ := h
  obtain ⟨t1, rfl⟩ := rx
  obtain ⟨t2, rfl⟩ := ry
  have hz : sizeLine = 16777216 := sizeLine_eq
  have c0 : ¬ n < 1 := by omega
  have c1 : (n == 1 || z.length == 0) = false := by
    have a : (n == 1) = false := beq_eq_false_iff_ne.mpr (by omega)
    have b : (z.length == 0) = false := beq_eq_false_iff_ne.mpr (by omega)
    rw [a, b]
    rfl
  have h5 : (z.length * n.toNat : Nat) ≤ 16777216 := by rw [← hz]; exact h4
  refine PySem.P.mul_str ?_ ?_ ?_ ?_
  · have a : ¬ n < -(2 ^ 63 : Int) := by omega
    have b : ¬ n ≥ 2 ^ 63 := by omega
    rw [decide_eq_false a, decide_eq_false b]
    rfl
  · intro _ _ hgt
    have hn0 : (0 : Int) < n := by omega
    have e1 : (z.length : Int) ≤ 16777216 := by
      have : z.length * 1 ≤ z.length * n.toNat := Nat.mul_le_mul_left _ (by omega)
      omega
    have e2 : (8388608 : Int) ≤ (2 ^ 63 - 1) / n := by
      rw [Int.le_ediv_iff_mul_le hn0]
      have : 8388608 * n < 8388608 * 2 ^ 40 := by omega
      have e3 : (8388608 : Int) * 2 ^ 40 = 2 ^ 63 := by decide
      omega
    have e4 : (z.length : Int) ≤ 8388608 := by
      have : z.length * 2 ≤ z.length * n.toNat := Nat.mul_le_mul_left _ (by omega)
      omega
    omega
  · intro _ _
    unfold Builtin.Str.tooLong
    have : ¬ (z.length * n.toNat) > sizeLine := by omega
    simpa using this
  · rw [if_neg c0, c1]
    exact ⟨by
      show (sRep z n.toNat).length ≤ sizeLine
      exact fits_reps (by unfold Builtin.Str.tooLong; simpa using (show ¬ (z.length * n.toNat) > sizeLine by omega)), ⟨V.str _, H, I.tok _, ⟨_, rfl⟩, q⟩⟩

/-- the signs of a text, each a text -/
def signsV (z : Str) : List V := z.cps.toList.map fun c => V.str ⟨#[c]⟩
def rListS : List V → Hp → VK → Prop := fun xs H Q => ∃ z : Str, xs = [.str z] ∧ z.length ≤ sizeLine ∧ ∀ p, H p = none → Q (.ref p) (upd H p (.lst (signsV z)))
theorem vals_at : ∀ (xs : List V) (us : List Value), us.length = xs.length → (∀ (j : Nat) (u : Value), us[j]? = some u → ∃ x, xs[j]? = some x ∧ RelV x u) → Vals xs us
  | [], [], _, _ => .nil
  | [], _ :: _, n, _ => by cases n
  | _ :: _, [], n, _ => by cases n
  | x :: xs, u :: us, n, at' => by
    obtain ⟨y, ey, ry⟩ := at' 0 u rfl
    cases ey
    refine .cons ry (vals_at xs us (Nat.succ.inj n) ?_)
    intro j v hv
    exact at' (j + 1) v hv
theorem call_list_str (hc : X.calm = true) : CallR X (.type "list") rListS := by
  intro pins s σ H xs us Q I r h
  obtain ⟨z, rfl, hz, q⟩ := h
  obtain ⟨u, rfl, t, rfl⟩ := vals1 r
  refine PySem.call_list_str (I.ok.hd hc) z t ?_ hz
  intro h' tk acc c' keeps at' items
  have lenA : acc.toList.length = (signsV z).length := by
    unfold signsV
    rw [List.length_map, Array.length_toList, Array.length_toList]
    exact items.1
  have va : Vals (signsV z) acc.toList := vals_at _ _ lenA fun j u hu => by
    have hj : acc[j]? = some u := by simpa using hu
    obtain ⟨c, tk2, e1, rfl⟩ := items.2 j u hj
    refine ⟨V.str ⟨#[c]⟩, ?_, ⟨tk2, rfl⟩⟩
    unfold signsV
    have e2 : z.cps.toList[j]? = some c := by simpa using e1
    rw [List.getElem?_map, e2]
    rfl
  have lz : (signsV z).length ≤ sizeLine := by
    unfold signsV
    rw [List.length_map, Array.length_toList]
    exact hz
  refine ⟨.ref s.heap.objs.size, _, I.laid (t' := tk) (o := .lst (signsV z)) keeps (Nat.le_refl _) ?_, rfl, q _ (I.hok.fresh (Nat.le_refl _))⟩
  exact ⟨lz, acc.toList, c', va, by simpa using at'⟩

/-- repr of data of any depth (no dict within) -/
def rRepr (K : PySem.W.Frag) : List V → Hp → VK → Prop := fun xs H Q => ∃ x d, xs = [x] ∧ Dp K H x d ∧ d.showable = true ∧ d.hasDict = false ∧ d.depth ≤ 60 ∧ d.shown.length ≤ sizeLine ∧ Q (.str d.shown) H
theorem call_repr (hg : X.A.guards = some []) (hu : X.A.units + 64 < cLine) : CallR X (.builtin "repr") (rRepr X.K) := by
  intro pins s σ H xs us Q I r h
  obtain ⟨x, d, rfl, hd, hs, hD, hdep, hz, q⟩ := h
  obtain ⟨u, rfl, rx⟩ := vals1 r
  obtain ⟨as, rd⟩ := Dp.reads I d x u hd rx
  have fin : ∀ h' t tk, (∀ b o, s.heap.get? b = some o → h'.get? b = some o) → EP X pins σ Q (.str d.shown t) { s with heap := h', toks := tk } := fun h' t tk keeps =>
    ⟨V.str d.shown, H, I.kept keeps, ⟨t, rfl⟩, q⟩
  cases rd with
  | none =>
    simp only [PyData.shown] at fin
    exact PySem.P.repr_of_none (fin _ _ _ fun _ _ e => e)
  | bool b =>
    simp only [PyData.shown] at fin
    exact PySem.P.repr_of_bool (fin _ _ _ fun _ _ e => e)
  | int i t =>
    simp only [PyData.shown] at fin
    exact PySem.P.repr_of_int (by simpa [PyData.showable] using hs) (fin _ _ _ fun _ _ e => e)
  | str z t =>
    simp only [PyData.shown] at fin hz
    exact PySem.P.repr_of_str (fin _ _ _ fun _ _ e => e) hz
  | list a b c e => exact repr_of_reads' (.list a b c e) hs (PyData.noDict_hsm hD) hg (by omega) (fun _ _ e => e) fin hz
  | tuple a b c e => exact repr_of_reads' (.tuple a b c e) hs (PyData.noDict_hsm hD) hg (by omega) (fun _ _ e => e) fin hz
  | dict a b c e f => cases hD
end

/-! ### the end of a law row, for a law that is run where nothing guarded runs -/
theorem end_g {P : Program} {w : World} {K : PySem.W.Frag} {mg mb : Str → Option Value} {k : Nat} {fa a : Addr} {fd : FuncData} {x : Str} {sp : Sp} {s₁ : Shared} {vs : List Value} {ns : List Int}
    (kin : K.In s₁.heap) (nsM : s₁.heap.Ns mainGlobals mg) (nsB : s₁.heap.Ns builtinsNs mb) (plainB : ∀ x : Str, x ≠ "__name__" → mb x = bootBuiltins x) (nolim : s₁.heap.NoLimit) (gens : s₁.gens = #[])
    (at' : s₁.heap.get? a = some { cls := .type "list", data := .seq vs.toArray }) (areI : IntsAre vs ns) (short : ns.length ≤ sizeLine) (room : Room k callerA)
    (F : ∀ base : Heap, K.In base → base.Ns mainGlobals mg → FnG P w K mg base CX0 k fa fd [x] sp) (bind : ∀ (s : Shared) (u : Value), BindsTo s fd ⟨[u], []⟩ [(x, u)])
    (prom : ∀ H : Hp, Only H → SqL K H a (ns.map V.int) → sp [.ref a] H (fun v _ => v = .bl true) fun _ _ _ => False) :
    codeAny (model P w) callerA (.call (.ref fa) ⟨[.ref a], []⟩) (fun r s' => r = .ok (.ret (.bool true)) ∧ OldK s₁.heap s'.heap ∧ s'.os = s₁.os ∧ AllBare s'.gens) s₁ := by
  have hv := vals_ints areI
  have hlen := areI.length
  have go : ∀ H : Hp, Only H → SqL K H a (ns.map V.int) → HOk P w H s₁.heap → (∀ b, H b ≠ none → b = a) → (H a ≠ none → K.lookup a = none) →
      codeAny (model P w) callerA (.call (.ref fa) ⟨[.ref a], []⟩) (fun r s' => r = .ok (.ret (.bool true)) ∧ OldK s₁.heap s'.heap ∧ s'.os = s₁.os ∧ AllBare s'.gens) s₁ := by
    intro H only sq hok one notK
    have dictFree : ∀ {b : Addr} {o : Obj} {es : Array DictEntry} {ep : Nat}, s₁.heap.get? b = some o → o.data = .dict es ep → H b = none := by
      intro b o es ep e d
      match hb : H b with
      | none => rfl
      | some u =>
        have eb := one b (by rw [hb]; exact fun z => by cases z)
        rw [eb, at'] at e
        cases e
        exact absurd d (fun z => by cases z)
    have nsT : ∀ {b : Addr} {m : Str → Option Value}, s₁.heap.Ns b m → (hidT s₁.heap H).Ns b m := by
      rintro b m ⟨o, es, ep, e, d, rest⟩
      exact ⟨o, es, ep, hidT_get e (dictFree e d), d, rest⟩
    have kinT : K.In (hidT s₁.heap H) := by
      intro b o e
      refine hidT_get (kin b o e) ?_
      match hb : H b with
      | none => rfl
      | some u =>
        have nz : H b ≠ none := by rw [hb]; exact fun z => by cases z
        have eb := one b nz
        rw [eb] at nz e
        rw [notK nz] at e
        cases e
    have modT : Mod K mg (hidT s₁.heap H) := by
      refine ⟨kinT, nsT nsM, ⟨mb, nsT nsB, plainB⟩, ?_⟩
      obtain ⟨mc, l1, l2⟩ := nolim
      exact ⟨mc, nsT l1, l2⟩
    have start0 : Env0 P w K mg (hidT s₁.heap H) callerA [] s₁ H :=
      ⟨rfl, modT, fun _ _ e => of_hidT e, Nat.le_of_eq (hidT_size _ _), trivial, fun _ z => (List.not_mem_nil z).elim, hok, .of_eq gens⟩
    have ran := (F _ kinT (nsT nsM)).go (args := ⟨[.ref a], []⟩) (us := [.ref a]) (vs := [.ref a]) rfl room start0 (bind s₁ (.ref a)) (.cons rfl .nil) (prom H only sq)
    refine codeAny_mono ran ?_
    intro r s' h
    match r, h with
    | .ok (.ret u), ⟨v, H', os, bare, un, hok', rel, val⟩ =>
      have val' : v = .bl true := val
      subst val'
      have eu : u = Value.bool true := rel
      subst eu
      refine ⟨rfl, OldK.of_keep ?_, os, bare⟩
      intro b o e
      match hb : H b with
      | none => exact un.keep b o e hb (fun z => (List.not_mem_nil z).elim) (fun z => (List.not_mem_nil z).elim)
      | some _ =>
        rcases only b with z | ⟨ob, xs, z⟩
        · rw [hb] at z
          cases z
        · have old := (hok b _ z).1
          have new := (hok' b _ (un.frzs b ob _ z)).1
          rw [e] at old
          cases old
          exact new
    | .ok .next, z => exact False.elim z
    | .ok .brk, z => exact False.elim z
    | .ok .cont, z => exact False.elim z
    | .error _, z => exact False.elim z
  match hk : K.lookup a with
  | some o =>
    have e := kin a o hk
    rw [at'] at e
    cases e
    refine go (fun _ => none) (fun _ => Or.inl rfl) (Or.inr ⟨_, vs.toArray, _, hk, rfl, rfl, rfl, ?_, by simpa using hv⟩) (fun _ _ z => by cases z) (fun _ z => absurd rfl z) fun z => absurd rfl z
    rw [List.size_toArray, hlen]
    exact short
  | none =>
    let H1 : Hp := fun b => if b = a then some (.frz { cls := .type "list", data := .seq vs.toArray } (.lst (ns.map V.int))) else none
    have here : H1 a = some (.frz { cls := .type "list", data := .seq vs.toArray } (.lst (ns.map V.int))) := if_pos rfl
    have away : ∀ {b}, b ≠ a → H1 b = none := fun hb => if_neg hb
    refine go H1 (fun b => ?_) (Or.inl (Or.inr ⟨_, here⟩)) (fun b u z => ?_) (fun b z => ?_) fun _ => hk
    · by_cases hb : b = a
      · rw [hb]
        exact Or.inr ⟨_, _, here⟩
      · exact Or.inl (away hb)
    · by_cases hb : b = a
      · rw [hb] at z ⊢
        rw [here] at z
        cases z
        exact ⟨at', by rw [List.length_map]; exact short, vs, _, hv, at'⟩
      · rw [away hb] at z
        cases z
    · by_cases hb : b = a
      · exact hb
      · exact absurd (away hb) z
theorem walk_g {l : PySem.W.OpenLaw} {n k : Nat} {q : Program} {loose : List Str} {XP : (Str → Option Value) → Heap → Prop} {YP : World → Heap → Prop} {d : DefRec} {K : Params → PySem.W.Frag} {sp : PySem.W.Frag → Sp} {x : Str}
    (many : l.most = some n) (fits : n ≤ sizeLine) (plain : d.params.defaults = []) (room : Room k callerA) (hY : ∀ (w : World) (h : Heap), YP w h → (K w.params).In h)
    (F : ∀ (w : World) (mg : Str → Option Value) (fa : Addr) (h : Heap), (K w.params).In h → h.Ns mainGlobals mg → mg d.name = some (.ref fa) →
      ∃ fd : FuncData, (∀ (s : Shared) (u : Value), BindsTo s fd ⟨[u], []⟩ [(x, u)]) ∧ ∀ base : Heap, (K w.params).In base → base.Ns mainGlobals mg → FnG l.prog w (K w.params) mg base CX0 k fa fd [x] (sp (K w.params)))
    (prom : ∀ (K : PySem.W.Frag) (H : Hp) (a : Addr) (ns : List Int), ns.length ≤ n → Only H → SqL K H a (ns.map V.int) → sp K [.ref a] H (fun v _ => v = .bl true) fun _ _ _ => False) :
    PySem.W.WalkO q loose XP YP l.row.toRowW d [] (fun f vs => PySem.call f vs) := by
  refine Att.attach_call many plain ?_
  intro w s₀ s₁ mg mb fa o pm cd doc a vs ns G Y ho hd hcd hmg hobj hints hlen hgens
  obtain ⟨fd, bind, hF⟩ := F w mg fa _ (hY w _ Y) G.T.g hmg
  exact end_g (hY w _ Y) G.T.g G.T.b G.T.builtins G.T.nolimit hgens hobj hints (Nat.le_trans hlen fits) room hF bind fun H only sq => prom _ H a ns hlen only sq
end G
/-! The layer's rules with the written part K named, so that they serve within a comprehension. -/
namespace G
open PySem PySem.Spec PyProof.Rows L2
section
variable {X : Cx} (K : PySem.W.Frag)
theorem g_ix_list (e : X.K = K := by rfl) : IxR X (rIxL K) := by
  subst e
  exact ix_list
theorem g_ix_tup (e : X.K = K := by rfl) : IxR X (rIxT K) := by
  subst e
  exact ix_tup
theorem g_ix_seq (e : X.K = K := by rfl) : IxR X (rIx K) := by
  subst e
  exact ix_seq
def rLenQ : List V → Hp → VK → Prop := fun xs H Q => ∃ p ys, xs = [.ref p] ∧ (SqL K H p ys ∨ SqT K H p ys) ∧ Q (.int (ys.length : Int)) H
theorem g_len_seq (e : X.K = K := by rfl) : CallR X (.builtin "len") (rLenQ K) := by
  subst e
  exact call_len_seq
def rLenG : List V → Hp → VK → Prop := fun xs H Q => ∃ x n, xs = [x] ∧ LenV K x H n ∧ Q (.int (n : Int)) H
theorem g_len (e : X.K = K := by rfl) : CallR X (.builtin "len") (rLenG K) := by
  subst e
  exact call_len
def rListQ : List V → Hp → VK → Prop := fun xs H Q => ∃ p ys, xs = [.ref p] ∧ (SqL K H p ys ∨ SqT K H p ys) ∧ ∀ l, H l = none → Q (.ref l) (upd H l (.lst ys))
theorem g_list_of (e : X.K = K := by rfl) : CallR X (.type "list") (rListQ K) := by
  subst e
  exact call_list_of
def rListAny : List V → Hp → VK → Prop := fun xs H Q => rListS xs H Q ∨ rListQ K xs H Q
theorem g_list_any (hc : X.calm = true) (e : X.K = K := by rfl) : CallR X (.type "list") (rListAny K) := fun pins s σ H xs us Q I r h => by
  rcases h with h | h
  · exact call_list_str hc pins s σ H xs us Q I r h
  · exact g_list_of K e pins s σ H xs us Q I r h
def rDictP : List V → Hp → VK → Prop := fun xs H Q => ∃ (a : Addr) (ps : List Addr) (kvs : List (Key × V)), xs = [.ref a] ∧ SqL K H a (ps.map V.ref) ∧ Paired (fun p kv => SqT K H p [kV kv.1, kv.2]) ps kvs ∧ ∀ p, H p = none → Q (.ref p) (upd H p (.dK (mergeK [] kvs)))
theorem g_dictP (hc : X.calm = true) (e : X.K = K := by rfl) : CallR X (.type "dict") (rDictP K) := by
  subst e
  exact call_dictP hc
def rTupQ : List V → Hp → VK → Prop := fun xs H Q => ∃ p ys, xs = [.ref p] ∧ ((SqL K H p ys ∧ ∀ l, H l = none → Q (.ref l) (upd H l (.tup ys))) ∨ (SqT K H p ys ∧ Q (.ref p) H))
theorem g_tuple_of (e : X.K = K := by rfl) : CallR X (.type "tuple") (rTupQ K) := by
  subst e
  exact call_tuple_of
theorem g_isi (e : X.K = K := by rfl) : CallR X (.builtin "isinstance") (rIsi K) := by
  subst e
  exact call_isi
theorem g_isiT (e : X.K = K := by rfl) : CallR X (.builtin "isinstance") (rIsiT K) := by
  subst e
  exact call_isiT
theorem g_all (hc : X.calm = true) (e : X.K = K := by rfl) : CallR X (.builtin "all") (rAll K) := by
  subst e
  exact cr_all hc
theorem g_any (hc : X.calm = true) (e : X.K = K := by rfl) : CallR X (.builtin "any") (rAny K) := by
  subst e
  exact cr_any hc
theorem g_sum (hc : X.calm = true) (e : X.K = K := by rfl) : CallR X (.builtin "sum") (rSum K) := by
  subst e
  exact cr_sum hc
theorem g_max (hc : X.calm = true) (e : X.K = K := by rfl) : CallR X (.builtin "max") (rMax K) := by
  subst e
  exact cr_max hc
theorem g_min (hc : X.calm = true) (e : X.K = K := by rfl) : CallR X (.builtin "min") (rMin K) := by
  subst e
  exact cr_min hc
theorem g_sortedS (e : X.K = K := by rfl) : CallR X (.builtin "sorted") (rSortedS K) := by
  subst e
  exact cr_sortedS
theorem g_in_seq (e : X.K = K := by rfl) : OpR X (compareOp .In) (rIn K false) := by
  subst e
  exact op_in_seq
theorem g_notIn_seq (e : X.K = K := by rfl) : OpR X (compareOp .NotIn) (rIn K true) := by
  subst e
  exact op_notIn_seq
theorem g_eqD (hu : X.A.units + 64 < cLine) (e : X.K = K := by rfl) : OpR X (compareOp .Eq) (rEqD K) := by
  subst e
  exact op_eqD hu
theorem g_neD (hu : X.A.units + 64 < cLine) (e : X.K = K := by rfl) : OpR X (compareOp .NotEq) (rNeD K) := by
  subst e
  exact op_neD hu
theorem g_sl_list (e : X.K = K := by rfl) : SlR X (rSlL K) := by
  subst e
  exact sl_list
theorem g_sl_tup (e : X.K = K := by rfl) : SlR X (rSlA K) := by
  subst e
  exact sl_tupA
theorem g_repr (hg : X.A.guards = some []) (hu : X.A.units + 64 < cLine) (e : X.K = K := by rfl) : CallR X (.builtin "repr") (rRepr K) := by
  subst e
  exact call_repr hg hu
theorem g_fld {x : Expr} {f : Str} {pos : Pos} {ta : TE} (he : PE X x ta) (hb : attributeBase x f X.env (eval x X.env) = eval x X.env := by rfl) (e : X.K = K := by rfl) : PE X (.Attribute x f pos) (tFld K ta f) := by
  subst e
  exact pe_fld he hb
theorem g_list {tg l : Expr} {tl : TE} (hl : PE X l tl) (e : X.K = K := by rfl) : PI X tg l (iList K tl) := by
  subst e
  exact pi_list hl
theorem g_tuple {tg l : Expr} {tl : TE} (hl : PE X l tl) (e : X.K = K := by rfl) : PI X tg l (iTup K tl) := by
  subst e
  exact pi_tup hl
theorem g_tup {es : List Expr} {k : Nat} {t : TGs} {n : Nat} {pos : Pos} (hc : X.calm = true) (h : PGs X es t) (hn : (assignEach es X.env).length = n := by rfl) (hst : (assignEach es X.env).findIdx? (·.1) = none := by rfl) (e : X.K = K := by rfl) :
    PG X (.Tuple es k pos) (gTup K n t) := by
  subst e
  exact pg_tup hc h hn hst
/-- sep.join(a list or a tuple of texts) -/
def rJoin : V → List V → Hp → VK → Prop := fun x xs H Q => ∃ a p, ∃ ys : List Str, x = .str a ∧ xs = [.ref p] ∧ (SqL K H p (ys.map V.str) ∨ SqT K H p (ys.map V.str)) ∧ (ys.map (·.length)).sum + ys.length * a.length ≤ 16777216 ∧ Q (.str (Txt.join a ys)) H
theorem g_join {o x : Expr} {to te : TE} {apos pos : Pos} (ho : PE X o to) (he : PE X x te) (hs : starEach [x] X.env = [(false, eval x X.env)] := by rfl) (hbase : attributeBase o "join" X.env (eval o X.env) = eval o X.env := by rfl) (hline : (apos.endLine == pos.line) = true := by rfl) (e : X.K = K := by rfl) :
    PE X (.Call (.Attribute o "join" apos) [x] [] pos) (tM1 (rJoin K) to te) := by
  subst e
  exact pe_join ho he hs hbase hline
theorem g_bm0 {T name id : String} {o : Expr} {to : TE} {r : V → List V → Hp → VK → Prop} {apos cpos : Pos} (pa : PlainAttrs T) (slot : Slot T name id) (hty : typeOf (.builtin id) = pure (.type "method_descriptor")) (hm : MtR X id r) (ho : PE X o to)
    (hb : attributeBase o name X.env (eval o X.env) = eval o X.env := by rfl) (hl : (apos.endLine == cpos.line) = true := by rfl) (e : X.K = K := by rfl) : PE X (.Call (.Attribute o name apos) [] [] cpos) (tBM0 K T r to) := by
  subst e
  exact pe_bm0 pa slot hty hm ho hb hl
theorem g_bm {T name id : String} {o x : Expr} {xs : List Expr} {to : TE} {t : TA} {r : V → List V → Hp → VK → Prop} {apos cpos : Pos} (pa : PlainAttrs T) (slot : Slot T name id) (hty : typeOf (.builtin id) = pure (.type "method_descriptor")) (hm : MtR X id r) (ho : PE X o to) (ha : PA X (x :: xs) t)
    (hb : attributeBase o name X.env (eval o X.env) = eval o X.env := by rfl) (hf : ((backTo cpos (starEach (x :: xs) X.env)).all (fun y => !y.1) && (backToKw cpos (keywordEach [] X.env)).all (fun y => y.1.isSome) &&
      decide ((x :: xs).length + ([] : List Keyword).length + (if ([] : List Keyword).isEmpty then 0 else 1) < 30)) = true := by rfl)
    (hl : (apos.endLine == cpos.line) = true := by rfl) (hs : starEach (x :: xs) X.env = (false, eval x X.env) :: starEach xs X.env := by rfl) (hp : (backTo cpos (starEach xs X.env)).any (·.1) = false := by rfl) (e : X.K = K := by rfl) :
    PE X (.Call (.Attribute o name apos) (x :: xs) [] cpos) (tBM K T r to t) := by
  subst e
  exact pe_bm pa slot hty hm ho ha hb hf hl hs hp
end
end G
namespace G
open PySem PySem.Spec PyProof.Rows L2
theorem itT {c : Bool} {A B : Prop} (hc : c = true) (h : A) : if c = true then A else B := by
  rw [if_pos hc]
  exact h
theorem itF {c : Bool} {A B : Prop} (hc : c = false) (h : B) : if c = true then A else B := by
  rw [hc, if_neg Bool.false_ne_true]
  exact h
/-- an if on a Bool that is not known -/
theorem itB {c : Bool} {A B : Prop} (h1 : c = true → A) (h2 : c = false → B) : if c = true then A else B := by
  cases c
  · exact itF rfl (h2 rfl)
  · exact itT rfl (h1 rfl)
/-! ### kinds of values -/
def isStr : V → Bool | .str _ => true | _ => false
def isBl : V → Bool | .bl _ => true | _ => false
def isIntB : V → Bool | .int _ => true | .bl _ => true | _ => false
def Tyd (K : PySem.W.Frag) (H : Hp) (x : V) : Prop := ∃ t, TyX K H x t ∧ PySem.W.kitOne K t (.type "str") = some (isStr x) ∧ PySem.W.kitOne K t (.type "int") = some (isIntB x) ∧ PySem.W.kitOne K t (.type "bool") = some (isBl x)
section
variable {K : PySem.W.Frag} {H : Hp} {x : V}
theorem tyd_of {T : String} {a b c : Bool} (h : TyX K H x (.type T)) (ha : kitB T "str" = some a) (hb : kitB T "int" = some b) (hc : kitB T "bool" = some c) (ea : isStr x = a) (eb : isIntB x = b) (ec : isBl x = c) : Tyd K H x :=
  ⟨_, h, by rw [ea]; exact kit_ty ha, by rw [eb]; exact kit_ty hb, by rw [ec]; exact kit_ty hc⟩
theorem tyd_non  : Tyd K H .non := tyd_of (a := false) (b := false) (c := false) (.base .non) (by decide +kernel) (by decide +kernel) (by decide +kernel) rfl rfl rfl
theorem tyd_bl (b : Bool) : Tyd K H (.bl b) := tyd_of (a := false) (b := true) (c := true) (.base (.bl b)) (by decide +kernel) (by decide +kernel) (by decide +kernel) rfl rfl rfl
theorem tyd_int (i : Int) : Tyd K H (.int i) := tyd_of (a := false) (b := true) (c := false) (.base (.int i)) (by decide +kernel) (by decide +kernel) (by decide +kernel) rfl rfl rfl
theorem tyd_str (z : Str) : Tyd K H (.str z) := tyd_of (a := true) (b := false) (c := false) (.base (.str z)) (by decide +kernel) (by decide +kernel) (by decide +kernel) rfl rfl rfl
theorem tyd_lst {a : Addr} {xs : List V} (h : H a = some (.lst xs)) : Tyd K H (.ref a) := tyd_of (a := false) (b := false) (c := false) (.base (.lst h)) (by decide +kernel) (by decide +kernel) (by decide +kernel) rfl rfl rfl
theorem tyd_tup {a : Addr} {xs : List V} (h : H a = some (.tup xs)) : Tyd K H (.ref a) := tyd_of (a := false) (b := false) (c := false) (.base (.tup h)) (by decide +kernel) (by decide +kernel) (by decide +kernel) rfl rfl rfl
theorem tyd_dK {a : Addr} {kvs : List (Key × V)} (h : H a = some (.dK kvs)) : Tyd K H (.ref a) := tyd_of (a := false) (b := false) (c := false) (.base (.dK h)) (by decide +kernel) (by decide +kernel) (by decide +kernel) rfl rfl rfl
end
/-! ### texts as lists of codes -/
abbrev cs (z : Str) : List Nat := z.cps.toList
theorem cs_len (z : Str) : (cs z).length = z.length := by
  show z.cps.toList.length = z.cps.size
  simp
theorem str_ext {x y : Str} (h : cs x = cs y) : x = y := by
  obtain ⟨a⟩ := x
  obtain ⟨b⟩ := y
  have : a = b := Array.toList_inj.mp h
  rw [this]
theorem cs_app (x y : Str) : cs (x ++ y) = cs x ++ cs y := by
  show (x.cps ++ y.cps).toList = _
  simp
def lett (c : Nat) : Bool := decide (97 ≤ c) && decide (c ≤ 122)
def isWord : V → Bool | .str z => !(cs z).isEmpty && (cs z).all lett | _ => false
def isSign : V → Bool | .str z => decide ((cs z).length = 1) && (cs z).all lett | _ => false
def isText : V → Bool | .str z => decide ((cs z).length ≤ 8000) && (cs z).all lett | _ => false
def isPiece : V → Bool | .str z => decide (1 ≤ (cs z).length) && decide ((cs z).length ≤ 5) && (cs z).all lett | _ => false
def isInteger : V → Bool | .int i => decide (i.natAbs < 10 ^ 60) | _ => false
theorem lt_one {a b : Nat} : decide (([a] : List Nat) < [b]) = decide (a < b) := by
  by_cases h : a < b
  · rw [decide_eq_true h, decide_eq_true (List.cons_lt_cons_iff.mpr (Or.inl h))]
  · rw [decide_eq_false h, decide_eq_false (fun z => ?_)]
    rcases List.cons_lt_cons_iff.mp z with z | ⟨_, z⟩
    · exact h z
    · cases z
theorem lett_eq (c : Nat) : (!decide (([c] : List Nat) < [97])) = decide (97 ≤ c) ∧ (!decide (([122] : List Nat) < [c])) = decide (c ≤ 122) := by
  rw [lt_one, lt_one]
  constructor
  · by_cases h : c < 97
    · rw [decide_eq_true h, decide_eq_false (by omega)]
      rfl
    · rw [decide_eq_false h, decide_eq_true (by omega)]
      rfl
  · by_cases h : 122 < c
    · rw [decide_eq_true h, decide_eq_false (by omega)]
      rfl
    · rw [decide_eq_false h, decide_eq_true (by omega)]
      rfl
theorem abs_lt (i : Int) : decide ((if i < 0 then -i else i) < (10 : Int) ^ (60 : Int).toNat) = isInteger (.int i) := by
  show _ = decide (i.natAbs < 10 ^ 60)
  have e : (10 : Int) ^ (60 : Int).toNat = ((10 ^ 60 : Nat) : Int) := by decide +kernel
  rw [e]
  generalize (10 ^ 60 : Nat) = m
  by_cases h : i.natAbs < m
  · rw [decide_eq_true h, decide_eq_true]
    split <;> omega
  · rw [decide_eq_false h, decide_eq_false]
    split <;> omega
def szV : V → Prop | .str z => z.length ≤ 100000 | _ => True
theorem fits_sz {n : Nat} (h : n ≤ 100000) : n ≤ sizeLine := Nat.le_trans h (by decide)
theorem same_new {H : Hp} {p : Addr} {o : HO} (h : H p = none) : Same H (upd H p o) := fun b u e => by
  rw [upd_ne (ne_of_none e h)]
  exact e
/-- is_integer, is_word and the like: any value, told by a function on values -/
def spIs (K : PySem.W.Frag) (p : V → Bool) : Sp := fun vs H Q _ => ∃ x, vs = [x] ∧ Tyd K H x ∧ szV x ∧ ∀ H', Same H H' → Q (.bl (p x)) H'
theorem v_str_ne {z : Str} : (!decide (V.str z = V.str "")) = !(cs z).isEmpty := by
  by_cases h : cs z = []
  · have e : z = "" := str_ext (by rw [h]; rfl)
    rw [e]
    rfl
  · have e : V.str z ≠ V.str "" := fun q => h (by rw [V.str.inj q]; rfl)
    rw [decide_eq_false e]
    cases hz : cs z with
    | nil => exact absurd hz h
    | cons a l => rfl
theorem v_str_eq {z : Str} : decide (V.str z = V.str "") = (cs z).isEmpty := by
  have := v_str_ne (z := z)
  cases h1 : decide (V.str z = V.str "") <;> cases h2 : (cs z).isEmpty <;> rw [h1, h2] at this <;> first | rfl | cases this
theorem lett_of {c : Nat} (h : decide (97 ≤ c) = true) : lett c = decide (c ≤ 122) := by
  unfold lett
  rw [h]
  rfl
theorem lett_no {c : Nat} (h : decide (97 ≤ c) = false) : lett c = false := by
  unfold lett
  rw [h]
  rfl
theorem one_sign {z : Str} (h : (cs z).length = 1) : ∃ c, z = ⟨#[c]⟩ := by
  match hz : cs z, h with
  | [c], _ => exact ⟨c, str_ext (by rw [hz])⟩
theorem v_len_eq {z : Str} {n : Nat} : decide (V.int (z.length : Int) = V.int (n : Int)) = decide ((cs z).length = n) := by
  rw [cs_len]
  by_cases h : z.length = n
  · rw [decide_eq_true h, decide_eq_true (by rw [h])]
  · rw [decide_eq_false h, decide_eq_false (fun q => h (by have := V.int.inj q; omega))]
theorem v_len_eq1 {z : Str} : decide (V.int (z.length : Int) = V.int 1) = decide ((cs z).length = 1) := v_len_eq (n := 1)
theorem sign_one (c : Nat) : isSign (.str ⟨#[c]⟩) = lett c := by
  show (decide (([c] : List Nat).length = 1) && ([c] : List Nat).all lett) = lett c
  simp
/-! ### a comprehension whose element changes nothing -/
theorem wipe_set {σ : L2.St} {j : Nat} {v : V} : wipe ((wipe σ [j]).set j (some v)) [j] = wipe σ [j] := by
  show ((σ.set j none).set j (some v)).set j none = σ.set j none
  rw [List.set_set, List.set_set]
theorem lcp_str {z : Str} {te : TE} {j : Nat} {σ : L2.St} {H1 : Hp} {D : Addr} {Qd : Hp → Prop} (f : Nat → V) (hz : z.length ≤ sizeLine)
    (hs : ∀ (c : Nat) (acc : List V) (N : VK), c ∈ cs z → N (f c) (upd H1 D (.lst acc)) → te ((wipe σ [j]).set j (some (.str ⟨#[c]⟩))) (upd H1 D (.lst acc)) N) (hd : Qd (upd H1 D (.lst ((cs z).map f)))) :
    ∃ W : Nat → Nat → Hp → Prop, (∃ m, W 0 m (upd H1 D (.lst []))) ∧ ∀ i m H, W i m H →
      ((Its z).stop i H ∧ Qd H) ∨ ((Its z).go i H ∧ ∃ Nx : Hp → Prop, (∀ H', Nx H' → ∃ m', m' < m ∧ W (i + 1) m' H') ∧ ∀ x H', (Its z).yld i H x H' → gName j x (wipe σ [j]) H' fun σ2 H2 => wipe σ2 [j] = wipe σ [j] ∧ tYes σ2 H2 fun b H3 =>
        if b = true then te σ2 H3 fun y H4 => ∃ acc, H4 D = some (.lst acc) ∧ acc.length < sizeLine ∧ Nx (upd H4 D (.lst (acc ++ [y]))) else Nx H3) := by
  have hl := cs_len z
  refine ⟨fun i m H => m = (cs z).length - i ∧ i ≤ (cs z).length ∧ H = upd H1 D (.lst (((cs z).take i).map f)), ⟨_, rfl, Nat.zero_le _, rfl⟩, ?_⟩
  rintro i m H ⟨rfl, hi, rfl⟩
  by_cases hlt : i < (cs z).length
  · have hlt' : i < z.cps.size := by rw [hl] at hlt; exact hlt
    refine .inr ⟨hlt', fun H' => H' = upd H1 D (.lst (((cs z).take (i + 1)).map f)), fun H' e => ⟨(cs z).length - (i + 1), by omega, rfl, hlt, e⟩, ?_⟩
    rintro x H' ⟨rfl, c, hc, rfl⟩
    have hc' : (cs z)[i]? = some c := by simpa [cs] using hc
    refine ⟨wipe_set, hs c _ _ (List.mem_of_getElem? hc') ⟨_, upd_same, ?_, ?_⟩⟩
    · rw [List.length_map, List.length_take]
      omega
    · rw [upd_upd]
      have : (cs z).take (i + 1) = (cs z).take i ++ [c] := by
        rw [List.take_add_one, hc']
        rfl
      rw [this, List.map_append]
      rfl
  · have e : i = (cs z).length := by omega
    refine .inl ⟨by show z.cps.size ≤ i; rw [e, hl]; exact Nat.le_refl _, ?_⟩
    rw [e, List.take_length]
    exact hd

/-! ### the dice of the laws: a list of three ints -/
def Big (i : Int) : Prop := 0 ≤ i ∧ i.natAbs < 2 ^ 2500
/-- dice at l, good for n further rolls -/
def Dice (H : Hp) (l : Addr) (n : Nat) : Prop := ∃ d0 d1 d2 : Int, H l = some (.lst [.int d0, .int d1, .int d2]) ∧ Big d0 ∧ Big d1 ∧ 0 ≤ d2 ∧ d2 + n ≤ 2 ^ 62
/-- all but l is as it was -/
def Kp (l : Addr) (H H' : Hp) : Prop := ∀ b o, H b = some o → b ≠ l → H' b = some o
theorem Kp.refl (l : Addr) (H : Hp) : Kp l H H := fun _ _ e _ => e
theorem Kp.trans {l : Addr} {H H1 H2 : Hp} (a : Kp l H H1) (b : Kp l H1 H2) : Kp l H H2 := fun c o e n => b c o (a c o e n) n
theorem Kp.of {l : Addr} {H H' : Hp} (a : Same H H') : Kp l H H' := fun c o e _ => a c o e
theorem Kp.upd {l : Addr} {H : Hp} {o : HO} : Kp l H (upd H l o) := fun b u e n => by
  rw [upd_ne n]
  exact e
theorem Kp.new {l p : Addr} {H H' : Hp} {o : HO} (a : Kp l H H') (h : H' p = none) : Kp l H (L2.upd H' p o) := a.trans (.of (same_new h))
/-- what was not there ahead may change -/
theorem Kp.mut {l p : Addr} {H H' : Hp} {o : HO} (a : Kp l H H') (h : H p = none) : Kp l H (L2.upd H' p o) := fun b u e n => by
  rw [upd_ne (ne_of_none e h)]
  exact a b u e n
theorem Kp.seq {K : PySem.W.Frag} {l a : Addr} {H H' : Hp} {xs : List V} (k : Kp l H H') (n : a ≠ l) (h : SqL K H a xs) : SqL K H' a xs := by
  rcases h with (h | ⟨o, h⟩) | h
  · exact Or.inl (Or.inl (k _ _ h n))
  · exact Or.inl (Or.inr ⟨o, k _ _ h n⟩)
  · exact Or.inr h
theorem Kp.tup {K : PySem.W.Frag} {l a : Addr} {H H' : Hp} {xs : List V} (k : Kp l H H') (n : a ≠ l) (h : SqT K H a xs) : SqT K H' a xs := by
  rcases h with (h | ⟨o, h⟩) | h
  · exact Or.inl (Or.inl (k _ _ h n))
  · exact Or.inl (Or.inr ⟨o, k _ _ h n⟩)
  · exact Or.inr h
theorem Dice.ne {H : Hp} {l p : Addr} {n : Nat} (d : Dice H l n) (h : H p = none) : p ≠ l := by
  obtain ⟨_, _, _, e, _⟩ := d
  exact (ne_of_none e h).symm
theorem Dice.le {H : Hp} {l : Addr} {n m : Nat} (d : Dice H l n) (h : m ≤ n) : Dice H l m := by
  obtain ⟨d0, d1, d2, e, h0, h1, h2, h3⟩ := d
  exact ⟨d0, d1, d2, e, h0, h1, h2, by omega⟩
theorem Dice.same {H H' : Hp} {l : Addr} {n : Nat} (d : Dice H l n) (s : Same H H') : Dice H' l n := by
  obtain ⟨d0, d1, d2, e, r⟩ := d
  exact ⟨d0, d1, d2, s _ _ e, r⟩
theorem Dice.upd {H : Hp} {l p : Addr} {o : HO} {n : Nat} (d : Dice H l n) (h : p ≠ l) : Dice (L2.upd H p o) l n := by
  obtain ⟨d0, d1, d2, e, r⟩ := d
  exact ⟨d0, d1, d2, by rw [upd_ne h.symm]; exact e, r⟩
theorem big_mod {x : Int} {m : Int} (h : 0 < m) (hm : m.natAbs ≤ 2 ^ 2420) : 0 ≤ x % m ∧ (x % m).natAbs < 2 ^ 2420 := by
  have h1 := Int.emod_nonneg x (by omega : m ≠ 0)
  have h2 := Int.emod_lt_of_pos x h
  refine ⟨h1, ?_⟩
  generalize (2 ^ 2420 : Nat) = M at hm
  omega
theorem pow_mono2 : (2 : Nat) ^ 2420 * 4 + 2 ^ 2420 ≤ 2 ^ 2500 := by decide +kernel
theorem big_of {x : Int} (h0 : 0 ≤ x) (h : x.natAbs < 2 ^ 2420) : Big x := ⟨h0, by
  have := pow_mono2
  generalize (2 ^ 2420 : Nat) = M at *
  generalize (2 ^ 2500 : Nat) = N at *
  omega⟩
theorem big_zero : Big 0 := ⟨Int.le_refl _, by decide +kernel⟩
theorem one_small : (131071 * 64 + 5 : Nat) ≤ 2 ^ 2420 := by decide +kernel
theorem big_seed {x b s : Int} (h0 : 0 ≤ x) (h : x.natAbs < 2 ^ 2420) (hb : 0 ≤ b ∧ b ≤ 1) (hs : 0 ≤ s ∧ s ≤ 64) : Big (2 * x + b + 131071 * s + 3) := by
  have h1 := pow_mono2
  have h2 := one_small
  refine ⟨by omega, ?_⟩
  generalize (2 ^ 2420 : Nat) = M at *
  generalize (2 ^ 2500 : Nat) = N at *
  omega
theorem big_div {x u : Int} (h : Big x) (hu : 1 ≤ u) : Big (x / u) := by
  obtain ⟨h0, h1⟩ := h
  have a := Int.ediv_nonneg h0 (by omega : (0 : Int) ≤ u)
  have b : x / u ≤ x := Int.ediv_le_self u h0
  refine ⟨a, ?_⟩
  generalize (2 ^ 2500 : Nat) = N at *
  omega
/-- an expression with two ways, joined: an int under p on both -/
theorem tif_int {t : TT} {ta tb : TE} {σ : L2.St} {H : Hp} {Q : VK} {c : Bool} (p : Int → Prop) (ht : ∀ N : Bool → Hp → Prop, N c H → t σ H N)
    (ha : c = true → ∀ N : VK, (∀ i, p i → N (.int i) H) → ta σ H N) (hb : c = false → ∀ N : VK, (∀ i, p i → N (.int i) H) → tb σ H N) (hq : ∀ i, p i → Q (.int i) H) : tIf t ta tb σ H Q := by
  refine ht _ ?_
  exact itB (fun e => ha e _ hq) (fun e => hb e _ hq)
/-- _law_dice -/
def spDice (K : PySem.W.Frag) : Sp := fun vs H Q _ => ∃ (a : Addr) (ns : List Int) (s : Int), vs = [.ref a, .int s] ∧ SqL K H a (ns.map V.int) ∧ ns.length ≤ 63 ∧ 0 ≤ s ∧ s ≤ 64 ∧ ∀ l H', H l = none → Same H H' → Dice H' l (2 ^ 60) → Q (.ref l) H'
/-- _law_roll -/
def spRoll : Sp := fun vs H Q _ => ∃ (l : Addr) (u : Int) (n : Nat), vs = [.ref l, .int u] ∧ 1 ≤ u ∧ u ≤ 2 ^ 40 ∧ Dice H l (n + 1) ∧ ∀ r H', 0 ≤ r → r < u → Kp l H H' → Dice H' l n → Q (.int r) H'
/-- what the laws pick from: a list, a tuple, a text -/
inductive Seq (K : PySem.W.Frag) (H : Hp) (l : Addr) : V → List V → Prop
  | lst {a : Addr} {ys : List V} (n : a ≠ l) (h : SqL K H a ys) : Seq K H l (.ref a) ys
  | tup {a : Addr} {ys : List V} (n : a ≠ l) (h : SqT K H a ys) : Seq K H l (.ref a) ys
  | str {z : Str} {ys : List V} (h : z.length ≤ 1000) (e : ys = signsV z) : Seq K H l (.str z) ys
theorem Seq.kp {K : PySem.W.Frag} {H H' : Hp} {l : Addr} {x : V} {ys : List V} (s : Seq K H l x ys) (k : Kp l H H') : Seq K H' l x ys := by
  cases s with
  | lst n h => exact .lst n (k.seq n h)
  | tup n h => exact .tup n (k.tup n h)
  | str h e => exact .str h e
/-- _law_pick -/
def spPick (K : PySem.W.Frag) : Sp := fun vs H Q _ => ∃ (l : Addr) (x : V) (ys : List V) (n : Nat), vs = [.ref l, x] ∧ Seq K H l x ys ∧ ys ≠ [] ∧ ys.length ≤ 1000 ∧ Dice H l (n + 1) ∧ ∀ y H', y ∈ ys → Kp l H H' → Dice H' l n → Q y H'
theorem signsV_len (z : Str) : (signsV z).length = z.length := by
  unfold signsV
  rw [List.length_map, cs_len]

abbrev ch (c : Nat) : Str := ⟨#[c]⟩
abbrev chV (c : Nat) : V := .str (ch c)
def sOf (l : List Nat) : Str := ⟨l.toArray⟩
theorem cs_sOf (l : List Nat) : cs (sOf l) = l := by simp [sOf]
theorem sOf_cs (z : Str) : sOf (cs z) = z := str_ext (cs_sOf _)
theorem sOf_len (l : List Nat) : (sOf l).length = l.length := by rw [← cs_len, cs_sOf]
theorem signsV_eq (z : Str) : signsV z = (cs z).map chV := rfl
theorem joinL_one : ∀ l : List Nat, TL.joinL [] (l.map fun c => [c]) = l
  | [] => rfl
  | [a] => rfl
  | a :: b :: r => by
    show [a] ++ ([] ++ TL.joinL [] ((b :: r).map fun c => [c])) = a :: b :: r
    rw [joinL_one (b :: r)]
    rfl
theorem join_ch (l : List Nat) : Txt.join "" (l.map ch) = sOf l := by
  refine str_ext ?_
  rw [cs_sOf, TL.join_eq]
  have h := TL.tl_join "" (l.map ch)
  rw [List.map_map] at h
  exact h.trans (joinL_one l)
theorem sum_ch (l : List Nat) : ((l.map ch).map (·.length)).sum = l.length := by
  induction l with
  | nil => rfl
  | cons a r ih =>
    rw [List.map_cons, List.map_cons, List.sum_cons, ih]
    show 1 + r.length = r.length + 1
    omega
/-- _law_letters -/
def spLetters (K : PySem.W.Frag) : Sp := fun vs H Q _ => ∃ (l : Addr) (x : V) (cl : List Nat) (m n : Nat), vs = [.ref l, x, .int (m : Int)] ∧ Seq K H l x (cl.map chV) ∧ cl ≠ [] ∧ cl.length ≤ 1000 ∧ m ≤ 10000 ∧ Dice H l (n + m) ∧
  ∀ (zs : List Nat) H', zs.length = m → (∀ c ∈ zs, c ∈ cl) → Kp l H H' → Dice H' l n → Q (.str (sOf zs)) H'

/-! ### what repr shows -/
structure Shw (d : PyData) (k n : Nat) : Prop where
  s : d.showable = true
  h : d.hasDict = false
  dp : d.depth ≤ k
  len : d.shown.length ≤ n
theorem shw_bool (b : Bool) : Shw (.bool b) 0 5 := ⟨by simp [PyData.showable], by simp [PyData.hasDict], by simp [PyData.depth], by cases b <;> simp only [PyData.shown] <;> decide +kernel⟩
theorem shw_none : Shw .none 0 4 := ⟨by simp [PyData.showable], by simp [PyData.hasDict], by simp [PyData.depth], by simp only [PyData.shown]; decide +kernel⟩
theorem shw_int {i : Int} (h : i.natAbs.log2 < 1920) : Shw (.int i) 0 1921 := ⟨by simpa [PyData.showable] using h, by simp [PyData.hasDict], by simp [PyData.depth], by simp only [PyData.shown]; exact int_text_len_1921 h⟩
theorem Shw.le {d : PyData} {k n k' n' : Nat} (a : Shw d k n) (hk : k ≤ k') (hn : n ≤ n') : Shw d k' n' := ⟨a.s, a.h, Nat.le_trans a.dp hk, Nat.le_trans a.len hn⟩
theorem shownAll_map : ∀ ds : List PyData, PyData.shownAll ds = ds.map PyData.shown
  | [] => by simp [PyData.shownAll]
  | d :: r => by simp [PyData.shownAll, shownAll_map r]
theorem textFrom_le : ∀ (ts : List Str) (k : Nat) (acc : Str) (n : Nat), (∀ t ∈ ts, t.length ≤ n) → (textFrom k acc ts).length ≤ acc.length + ts.length * (n + 2)
  | [], k, acc, n, _ => by
    show acc.length ≤ acc.length + 0 * (n + 2)
    omega
  | t :: r, k, acc, n, h => by
    have h1 := textFrom_le r (k + 1) (acc ++ (if k > 0 then ", " else "" : String) ++ t) n fun x hx => h x (List.mem_cons_of_mem _ hx)
    have h2 := h t List.mem_cons_self
    rw [strLen_append, strLen_append] at h1
    have h3 : ((if k > 0 then ", " else "" : String) : Str).length ≤ 2 := by split <;> decide +kernel
    show (textFrom (k + 1) _ r).length ≤ acc.length + (r.length + 1) * (n + 2)
    rw [Nat.add_mul]
    omega
theorem shwAll {ds : List PyData} {k n : Nat} (h : ∀ d ∈ ds, Shw d k n) : PyData.showableAll ds = true ∧ PyData.hasDictAll ds = false ∧ PyData.depthAll ds ≤ k ∧ ∀ t ∈ PyData.shownAll ds, t.length ≤ n := by
  induction ds with
  | nil => exact ⟨by simp [PyData.showableAll], by simp [PyData.hasDictAll], by simp [PyData.depthAll], by simp [PyData.shownAll]⟩
  | cons d r ih =>
    obtain ⟨a1, a2, a3, a4⟩ := h d List.mem_cons_self
    obtain ⟨b1, b2, b3, b4⟩ := ih fun x hx => h x (List.mem_cons_of_mem _ hx)
    refine ⟨by simp [PyData.showableAll, a1, b1], by simp [PyData.hasDictAll, a2, b2], ?_, ?_⟩
    · simp only [PyData.depthAll]
      omega
    · intro t ht
      simp only [PyData.shownAll] at ht
      rcases List.mem_cons.mp ht with rfl | ht
      · exact a4
      · exact b4 t ht
theorem shw_list {ds : List PyData} {k n : Nat} (h : ∀ d ∈ ds, Shw d k n) : Shw (.list ds) (k + 1) (ds.length * (n + 2) + 2) := by
  obtain ⟨b1, b2, b3, b4⟩ := shwAll h
  refine ⟨by simpa [PyData.showable] using b1, by simpa [PyData.hasDict] using b2, by simp only [PyData.depth]; omega, ?_⟩
  simp only [PyData.shown]
  unfold listText
  rw [strLen_append]
  have h1 := textFrom_le _ 0 "[" n b4
  rw [shownAll_map, List.length_map] at h1
  rw [shownAll_map]
  have h2 : ((("[" : String) : Str)).length = 1 := by decide +kernel
  have h3 : ((("]" : String) : Str)).length = 1 := by decide +kernel
  omega
/-- a list of truths as data -/
def dBools (bs : List Bool) : PyData := .list (bs.map PyData.bool)
theorem shw_bools (bs : List Bool) : Shw (dBools bs) 1 (bs.length * 7 + 2) := by
  have h := shw_list (ds := bs.map PyData.bool) (k := 0) (n := 5) fun d hd => by
    obtain ⟨b, _, rfl⟩ := List.mem_map.mp hd
    exact shw_bool b
  rw [List.length_map] at h
  exact h
theorem dpAll_bools {K : PySem.W.Frag} {H : Hp} : ∀ bs : List Bool, DpAll K H (bs.map V.bl) (bs.map PyData.bool)
  | [] => .nil
  | b :: r => .cons (.bl b) (dpAll_bools r)
theorem dp_bools {K : PySem.W.Frag} {H : Hp} {a : Addr} {bs : List Bool} (h : SqL K H a (bs.map V.bl)) : Dp K H (.ref a) (dBools bs) := .lst h (dpAll_bools bs)
/-- repr(a list of truths), as rRepr asks -/
theorem repr_bools {K : PySem.W.Frag} {H : Hp} {a : Addr} {bs : List Bool} {Q : VK} (h : H a = some (.lst (bs.map V.bl))) (hn : bs.length ≤ 1000) (q : Q (.str (dBools bs).shown) H) : rRepr K [.ref a] H Q := by
  obtain ⟨s, hd, dp, len⟩ := shw_bools bs
  exact ⟨_, dBools bs, rfl, dp_bools (SqL.of h), s, hd, by omega, Nat.le_trans len (fits_sz (by omega)), q⟩
theorem mem_all {p : V → Bool} {ys : List V} {y : V} (h : ys.all p = true) (hy : y ∈ ys) : p y = true := List.all_eq_true.mp h y hy
def vIn (lo hi : Int) : V → Bool | .int i => decide (lo ≤ i) && decide (i ≤ hi) | _ => false
theorem vIn_of {lo hi : Int} {y : V} (h : vIn lo hi y = true) : ∃ i, y = .int i ∧ lo ≤ i ∧ i ≤ hi := by
  cases y with
  | int i =>
    have h' : (decide (lo ≤ i) && decide (i ≤ hi)) = true := h
    rw [Bool.and_eq_true] at h'
    exact ⟨i, rfl, of_decide_eq_true h'.1, of_decide_eq_true h'.2⟩
  | _ => cases h
theorem pick_int {lo hi : Int} {ys : List V} {y : V} (h : ys.all (vIn lo hi) = true) (hy : y ∈ ys) : ∃ i, y = .int i ∧ lo ≤ i ∧ i ≤ hi := vIn_of (mem_all h hy)
/-- a promise of a part of a law: it is right, c rolls are made -/
def spRight (c : Nat) : Sp := fun vs H Q _ => ∃ (l : Addr) (n : Nat), vs = [.ref l] ∧ Dice H l (n + c) ∧ ∀ H', Kp l H H' → Dice H' l n → Q (.bl true) H'
/-- is_integer: of any value, no size asked -/
def spIsI (K : PySem.W.Frag) (p : V → Bool) : Sp := fun vs H Q _ => ∃ x, vs = [x] ∧ Tyd K H x ∧ ∀ H', Same H H' → Q (.bl (p x)) H'
theorem Dice.new {H : Hp} {l p : Addr} {o : HO} {n : Nat} (d : Dice H l n) (h : H p = none) : Dice (L2.upd H p o) l n := d.upd (d.ne h)
/-- what a drawn odd value is: of a known kind, as long as it stands, and no integer -/
def OddI (K : PySem.W.Frag) (l : Addr) (H : Hp) (y : V) : Prop := (∀ H', Kp l H H' → Tyd K H' y) ∧ isInteger y = false
theorem isI_near {near r : Int} (h0 : 0 ≤ near + r) (s : Int) (hs : s = 1 ∨ s = -1) : isInteger (.int ((near + r) * s)) = decide (near + r < (10 : Int) ^ (60 : Int).toNat) := by
  show decide (((near + r) * s).natAbs < 10 ^ 60) = _
  have e : (10 : Int) ^ (60 : Int).toNat = ((10 ^ 60 : Nat) : Int) := by decide +kernel
  have e2 : ((near + r) * s).natAbs = (near + r).natAbs := by
    rcases hs with rfl | rfl
    · rw [Int.mul_one]
    · rw [Int.mul_neg, Int.mul_one, Int.natAbs_neg]
  rw [e, e2]
  generalize (10 ^ 60 : Nat) = m
  by_cases h : near + r < (m : Int)
  · rw [decide_eq_true h, decide_eq_true (by omega)]
  · rw [decide_eq_false h, decide_eq_false (by omega)]
theorem log_of {i : Int} (h : i.natAbs < 2 ^ 300) : i.natAbs.log2 < 1920 := Nat.lt_of_lt_of_le (PySem.Flt.log2_lt_of (by decide) h) (by decide)
theorem reprB (bs : List Bool) (hn : bs.length ≤ 1000) : (dBools bs).showable = true ∧ (dBools bs).hasDict = false ∧ (dBools bs).depth ≤ 60 ∧ (dBools bs).shown.length ≤ sizeLine := by
  obtain ⟨s, hd, dp, len⟩ := shw_bools bs
  exact ⟨s, hd, by omega, Nat.le_trans len (fits_sz (by omega))⟩
/-! ### texts made of pieces of texts -/
theorem isText_of {z : Str} (h1 : (cs z).length ≤ 8000) (h2 : ∀ c ∈ cs z, lett c = true) : isText (.str z) = true := by
  show (decide ((cs z).length ≤ 8000) && (cs z).all lett) = true
  rw [decide_eq_true h1, List.all_eq_true.mpr h2]
  rfl
theorem isPiece_of {z : Str} (h2 : ∀ c ∈ cs z, lett c = true) : isPiece (.str z) = (decide (1 ≤ (cs z).length) && decide ((cs z).length ≤ 5)) := by
  show (decide (1 ≤ (cs z).length) && decide ((cs z).length ≤ 5) && (cs z).all lett) = _
  rw [List.all_eq_true.mpr h2, Bool.and_true]
theorem isSign_of {z : Str} (h2 : ∀ c ∈ cs z, lett c = true) : isSign (.str z) = decide ((cs z).length = 1) := by
  show (decide ((cs z).length = 1) && (cs z).all lett) = _
  rw [List.all_eq_true.mpr h2, Bool.and_true]
theorem spoilt {z : Str} {c : Nat} (hc : c ∈ cs z) (h : lett c = false) : isText (.str z) = false ∧ isPiece (.str z) = false ∧ isSign (.str z) = false ∧ isWord (.str z) = false := by
  have e : (cs z).all lett = false := by
    cases q : (cs z).all lett with
    | false => rfl
    | true =>
      rw [List.all_eq_true.mp q c hc] at h
      cases h
  refine ⟨?_, ?_, ?_, ?_⟩
  · show (_ && (cs z).all lett) = false
    rw [e, Bool.and_false]
  · show (_ && (cs z).all lett) = false
    rw [e, Bool.and_false]
  · show (_ && (cs z).all lett) = false
    rw [e, Bool.and_false]
  · show (_ && (cs z).all lett) = false
    rw [e, Bool.and_false]
theorem cs_cut (z : Str) (lo hi : Option Int) : cs (cutS z lo hi) = ((cs z).drop (HT.sIx z.length 0 lo)).take (HT.sIx z.length z.length hi - HT.sIx z.length 0 lo) := by
  unfold cutS
  simp
theorem cut_sub {z : Str} {lo hi : Option Int} {c : Nat} (h : c ∈ cs (cutS z lo hi)) : c ∈ cs z := by
  rw [cs_cut] at h
  exact List.mem_of_mem_drop (List.mem_of_mem_take h)
theorem sIx_pos {n d : Nat} {i : Int} (h : 0 ≤ i) : HT.sIx n d (some i) = min i.toNat n := by
  show (if i < 0 then _ else _) = _
  rw [if_neg (by omega)]
theorem cut_len {z : Str} {a b : Int} (ha : 0 ≤ a) (hab : a ≤ b) (hb : b ≤ z.length) : (cs (cutS z (some a) (some b))).length = (b - a).toNat := by
  rw [cs_cut, sIx_pos ha, sIx_pos (by omega), List.length_take, List.length_drop, cs_len]
  omega
theorem cut_lenFrom {z : Str} {a : Int} (ha : 0 ≤ a) (hb : a ≤ z.length) : (cs (cutS z (some a) none)).length = z.length - a.toNat := by
  rw [cs_cut, sIx_pos ha, List.length_take, List.length_drop, cs_len]
  show min (z.length - _) _ = _
  omega
theorem cut_lenTo {z : Str} {b : Int} (h0 : 0 ≤ b) (hb : b ≤ z.length) : (cs (cutS z none (some b))).length = b.toNat := by
  rw [cs_cut, sIx_pos h0, List.length_take, List.length_drop, cs_len]
  show min (min b.toNat z.length - 0) (z.length - 0) = _
  omega
theorem str_app_len (x y : Str) : (x ++ y).length = x.length + y.length := strLen_append x y
/-- two ways joined, whatever the test and the ways do -/
theorem tif_join {t : TT} {ta tb : TE} {σ : L2.St} {H : Hp} {Q : VK} (P : Hp → Prop) (R : V → Hp → Prop) (ht : ∀ N : Bool → Hp → Prop, (∀ c H1, P H1 → N c H1) → t σ H N)
    (ha : ∀ H1, P H1 → ∀ N : VK, (∀ v H2, R v H2 → N v H2) → ta σ H1 N) (hb : ∀ H1, P H1 → ∀ N : VK, (∀ v H2, R v H2 → N v H2) → tb σ H1 N) (hq : ∀ v H2, R v H2 → Q v H2) : tIf t ta tb σ H Q :=
  ht _ fun c H1 p => itB (fun _ => ha H1 p _ hq) (fun _ => hb H1 p _ hq)
/-- a <= b <= c of known ints, as a value -/
theorem chain_le {ta tb tc : TE} {σ : L2.St} {H : Hp} {Q : VK} {a b c : Int} (ha : ∀ N : VK, N (.int a) H → ta σ H N) (hb : ∀ N : VK, N (.int b) H → tb σ H N) (hc : ∀ N : VK, N (.int c) H → tc σ H N)
    (q : Q (.bl (decide (a ≤ b) && decide (b ≤ c))) H) : tChain (rI0 fun i j => .bl (decide (i ≤ j))) (rI0 fun i j => .bl (decide (i ≤ j))) ta tb tc σ H Q := by
  refine ha _ (hb _ ⟨a, b, rfl, rfl, _, rfl, ?_⟩)
  refine itB (fun e => ?_) (fun e => ?_)
  · refine hc _ ⟨b, c, rfl, rfl, ?_⟩
    rw [e] at q
    exact q
  · rw [e] at q
    exact q
theorem odd_of {z : Str} {o : Nat} (h : (cs z).all (fun c => !lett c) = true) (ho : o ∈ z.cps.toList) : lett o = false := by
  have := List.all_eq_true.mp h o ho
  simpa using this
theorem v_int_eq {a b : Int} : decide (V.int a = V.int b) = decide (a = b) := by
  by_cases h : a = b
  · rw [decide_eq_true h, decide_eq_true (by rw [h])]
  · rw [decide_eq_false h, decide_eq_false (fun q => h (V.int.inj q))]
theorem sz_of' {z : Str} (h : z.length ≤ 100000) : szV (.str z) := h
theorem sign_no {z : Str} (h : (cs z).length ≠ 1) : isSign (.str z) = false := by
  show (decide ((cs z).length = 1) && (cs z).all lett) = false
  rw [decide_eq_false h]
  rfl
theorem piece_no {z : Str} (h : 5 < (cs z).length) : isPiece (.str z) = false := by
  show (decide (1 ≤ (cs z).length) && decide ((cs z).length ≤ 5) && (cs z).all lett) = false
  rw [decide_eq_false (by omega : ¬ (cs z).length ≤ 5), Bool.and_false]
  rfl
theorem ne_self {z : Str} : V.bl (!decide (V.str z = V.str z)) = V.bl false := by
  rw [decide_eq_true rfl]
  rfl
theorem is_self {z : Str} : V.bl (decide (V.str z = V.str z)) = V.bl true := by rw [decide_eq_true rfl]
theorem foldl_cat : ∀ (n : Nat) (a acc : Array Nat), ((List.replicate n a).foldl (· ++ ·) acc).toList = acc.toList ++ (List.replicate n a.toList).flatten
  | 0, a, acc => by simp
  | n + 1, a, acc => by
    rw [List.replicate_succ, List.foldl_cons, foldl_cat n a (acc ++ a), List.replicate_succ, List.flatten_cons]
    simp
theorem cs_rep (z : Str) (n : Nat) : cs (sRep z n) = (List.replicate n (cs z)).flatten := by
  have h := foldl_cat n z.cps #[]
  rw [show (#[] : Array Nat).toList = [] from rfl, List.nil_append] at h
  exact h
theorem rep_mem {z : Str} {n c : Nat} (h : c ∈ cs (sRep z n)) : c ∈ cs z := by
  rw [cs_rep] at h
  obtain ⟨l, hl, hc⟩ := List.mem_flatten.mp h
  rw [List.eq_of_mem_replicate hl] at hc
  exact hc
theorem sum_rep : ∀ n k : Nat, (List.replicate n k).sum = n * k
  | 0, k => by simp
  | n + 1, k => by
    rw [List.replicate_succ, List.sum_cons, sum_rep n k, Nat.add_mul]
    omega
theorem rep_len (z : Str) (n : Nat) : (sRep z n).length = n * z.length := by
  rw [← cs_len, cs_rep, List.length_flatten, List.map_replicate, sum_rep, cs_len]
theorem Kp.sameOf {l : Addr} {H H1 H2 : Hp} (s : Same H H1) (k : Kp l H1 H2) (h : H l = none) : Same H H2 := fun b o e => k b o (s b o e) (ne_of_none e h)
def spLaw (K : PySem.W.Frag) : Sp := fun vs H Q _ => ∃ (a : Addr) (ns : List Int), vs = [.ref a] ∧ SqL K H a (ns.map V.int) ∧ ns.length ≤ 63 ∧ ∀ H', Q (.bl true) H'
/-- how many cells are looked at -/
theorem cells_bound {n : Nat} {m : Int} (hm : 1 ≤ m) : 1 ≤ (if (if (n : Int) < m then (n : Int) else m) > 1 then (if (n : Int) < m then (n : Int) else m) else 1) ∧ (if (if (n : Int) < m then (n : Int) else m) > 1 then (if (n : Int) < m then (n : Int) else m) else 1) ≤ m := by
  split <;> split <;> omega
theorem small1000' {n : Nat} (h : n ≤ 100000) : n < sizeLine := Nat.lt_of_le_of_lt h (by decide)
/-- _law_some: drawn items of a row, each at most once -/
def spSome (K : PySem.W.Frag) : Sp := fun vs H Q _ => ∃ (l : Addr) (x : V) (ys : List V) (m n : Nat), vs = [.ref l, x, .int (m : Int)] ∧ Seq K H l x ys ∧ ys.length ≤ 1000 ∧ m ≤ 1000 ∧ Dice H l (n + m) ∧
  ∀ p zs rest H', H p = none → (zs ++ rest).Perm ys → zs.length = min m ys.length → H' p = some (.lst zs) → Kp l H H' → Dice H' l n → Q (.ref p) H'
theorem ix_pos {n : Nat} {r : Int} (h0 : 0 ≤ r) (h1 : r < n) : seqIndex? r n = some r.toNat := (ixN_seq (n := n) (i := r) (j := r.toNat) (by unfold ixN; rw [if_pos h0, if_pos h1])).1
theorem erase_perm {α : Type} : ∀ {l : List α} {k : Nat} {y : α}, l[k]? = some y → (y :: l.eraseIdx k).Perm l
  | [], k, y, h => by simp at h
  | a :: r, 0, y, h => by
    have e : a = y := by simpa using h
    subst e
    exact List.Perm.refl _
  | a :: r, k + 1, y, h => by
    have ih := erase_perm (l := r) (k := k) (y := y) (by simpa using h)
    show (y :: a :: r.eraseIdx k).Perm (a :: r)
    exact (List.Perm.swap a y _).trans (ih.cons a)
theorem big_cut {x c : Int} (h0 : 0 ≤ x) (h : x.natAbs < 2 ^ 2420) (hc : 0 ≤ c) : Big (if x - c > 0 then x - c else 0) := by
  split
  · refine big_of (by omega) ?_
    generalize (2 ^ 2420 : Nat) = M at h ⊢
    omega
  · exact big_zero
theorem atI_neg {α : Type} {xs : List α} {j : Nat} (h : j < xs.length) : atI xs (-(j : Int) - 1) = xs[xs.length - 1 - j]? := by
  have e : ixN xs.length (-(j : Int) - 1) = some (xs.length - 1 - j) := by
    unfold ixN
    rw [if_neg (by omega), if_pos (by omega)]
    congr 1
    omega
  unfold atI
  rw [e]
  rfl
end G
/-! sorted(set(text)): sets of texts as tracked things. -/
namespace G
open PySem PySem.Spec PyProof.Rows L2 PySem.Froz
def txO (e : Int × Value) : Str := match e.2 with | .str k _ => k | _ => ⟨#[]⟩
/-- the payload holds the texts l, and can be gone through -/
structure SsOk (P : Program) (w : World) (D : SD) (l : List Str) : Prop where
  tx : TxOk P w D l
  pm : (D.1.toList.map txO).Perm l
  ris : Ris D.2.2.place.toList
  led : w.params.followText "set-order" = true ∨ D.2.2.led = true
section
variable {P : Program} {w : World} {A : Around} {E : Value → Shared → Prop} {s : Shared}
theorem SsOk.add {D : SD} {l : List Str} {k : Str} (u : Tok) (O : SsOk P w D l) : SsOk P w (addTx (hashStr w k) (.str k u) D) (k :: l) := by
  have F := add_ok (k := k) u O.tx
  obtain ⟨⟨_, _, _, _⟩, pm, ris, led⟩ := O
  obtain ⟨es, ep, t⟩ := D
  have p1 := layNew_perm t es (hashStr w k) (.str k u)
  have r1 := layNew_ris t es (hashStr w k) (.str k u) ris
  have d1 := layNew_led t es (hashStr w k) (.str k u)
  unfold addTx at F ⊢
  generalize layNew t es (hashStr w k) (.str k u) = Z at p1 r1 d1 F ⊢
  obtain ⟨es1, t1, wd, gv⟩ := Z
  dsimp only at p1 r1 d1 F ⊢
  have r2 : Ris (if t1.plain = true then { t1 with plain := false } else t1).place.toList := by
    split <;> exact r1
  have d2 : (if t1.plain = true then { t1 with plain := false } else t1).led = t.led := by
    split <;> exact d1
  generalize (if t1.plain = true then { t1 with plain := false } else t1) = t2 at r2 d2 F ⊢
  have q1 : (es1.toList.map txO).Perm (k :: l) := by
    refine (p1.map txO).trans ?_
    rw [Array.toList_push, List.map_append]
    exact List.perm_append_comm.trans (List.Perm.cons _ pm)
  have dl : w.params.followText "set-order" = true ∨ t2.led = true := led.imp id fun z => by rw [d2]; exact z
  refine ⟨F, ?_, ?_, ?_⟩
  · unfold tailTx
    split
    · exact ((relayAll_perm t2 es1 _).map txO).trans q1
    · exact q1
  · unfold tailTx
    split
    · exact relayAll_ris t2 es1 _
    · exact r2
  · unfold tailTx
    split
    · exact dl.imp id fun z => by
        show (relayAll t2 es1 _).2.1.led = true
        rw [relayAll_led]
        exact z
    · exact dl
/-- the set of texts at a -/
def SsAt (P : Program) (w : World) (h : Heap) (a : Addr) (l : List Str) : Prop := ∃ D, h.get? a = some (sObj "set" D) ∧ SsOk P w D l
theorem SsAt.at {h h' : Heap} {a : Addr} {l : List Str} (x : SsAt P w h a l) (k : ∀ o, h.get? a = some o → h'.get? a = some o) : SsAt P w h' a l := by
  obtain ⟨D, ho, r⟩ := x
  exact ⟨D, k _ ho, r⟩
theorem ss_hashed {a : Addr} {l : List Str} {k : Str} {u : Tok} {Q : Bool → Shared → Prop} (x : SsAt P w s.heap a l) (room : l.length + 1 < scanBound)
    (h : ∀ b h', Heap.SameBut a s.heap h' → SsAt P w h' a (if k ∈ l then l else k :: l) → Q b { s with heap := h' }) : wpAny (model P w) A (setAddHashed a (.str k u) (hashStr w k)) Q E s := by
  obtain ⟨D, ho, O⟩ := x
  by_cases hk : k ∈ l
  · rw [if_pos hk] at h
    have O' := O
    obtain ⟨⟨el, mem, sz, fit⟩, pm, ris, led⟩ := O'
    obtain ⟨es, ep, t⟩ := D
    have hd : (sObj "set" (es, ep, t)).data = .set es ep t := rfl
    have hkey : (strKind P w).is k (.str k u) = true := is_str k u
    have hs : es.size = l.length := sz
    unfold setAddHashed setAddHashedIn
    refine wpAny_holding (wpAny_bind (wpAny_setState_of ho hd fit ?_))
    dsimp only
    rw [byScan_of rfl (by omega) el]
    simp only [↓reduceIte]
    unfold setAddByScan
    refine wpAny_bind ?_
    refine wpAny_bind (wpAny_rule ?_)
    refine wpAny_bind (wpAny_setScan_of (knd := strKind P w) (k := k) hkey ho hd fit el ?_)
    obtain ⟨e, he, q⟩ := (mem k).mp hk
    cases hf : List.findIdx? (fun e => (strKind P w).is k e.2) es.toList with
    | none =>
      have c := List.findIdx?_eq_none_iff.mp hf e he
      rw [q] at c
      cases c
    | some j =>
      dsimp only
      exact wpAny_pure (wpAny_pure (h false s.heap (Heap.SameBut.refl a s.heap) ⟨_, ho, O⟩))
  · rw [if_neg hk] at h
    exact add_x ho O.tx hk room (h true _ (Heap.SameBut.update s.heap a _) ⟨_, get_upd _ ho rfl, O.add u⟩)
theorem ss_fresh {h : Heap} {a : Addr} (ho : h.get? a = some { cls := .type "set", dict := none, data := .set #[] 0 (.fresh 0 0 (!w.params.followText "set-order")) }) : SsAt P w h a [] :=
  ⟨(#[], 0, .fresh 0 0 (!w.params.followText "set-order")), ho, ⟨.nil rfl, .nil, List.Pairwise.nil, by
    show _ ∨ (!w.params.followText "set-order") = true
    cases w.params.followText "set-order" <;> simp⟩⟩
/-- one text after the other goes into the set -/
theorem ss_loop {I : Addr} {fp wr : List Addr} {G : Array GenState → Array GenState → Prop} {n : Nat} {Pv : Nat → Value → Prop} {St : Nat → Shared → Prop} {R : Result → Shared → Prop}
    (W : WalksS P w A.in1 I fp wr G n Pv St) {S : Addr} (hSf : S ∉ fp) (f : Nat → Str) (hb : n + 1 < scanBound) (hv : ∀ i v, Pv i v → ∃ u, v = .str (f i) u) :
    ∀ (k i : Nat) (s : Shared) (l : List Str), n - i = k → i ≤ n → St i s → SsAt P w s.heap S l → l.Nodup → l.length ≤ i → (∀ y, y ∈ l ↔ ∃ j, j < i ∧ y = f j) →
      (∀ s' l', Moved (S :: wr) G s s' → SsAt P w s'.heap S l' → l'.Nodup → l'.length ≤ n → (∀ y, y ∈ l' ↔ ∃ j, j < n ∧ y = f j) → R (.ok (.ret .none)) s') →
      codeAny (model P w) A (.builtin "set.update.loop" ⟨[.ref S, .ref I], []⟩) R s := by
  have hSw : S ∉ wr := fun h => hSf (W.sub _ h)
  have up : ∀ b ∈ wr, b ∈ S :: wr := fun b hb => List.mem_cons_of_mem _ hb
  intro k
  induction k with
  | zero =>
    intro i s l e hi st x nd ln mem q
    obtain rfl : i = n := by omega
    refine codeAny_builtin F.entry_set_update_loop ?_
    rw [Around.under_plainId F.plain_set_update_loop _]
    refine wpAny_bind (W.done s _ _ st fun s' hm => ?_)
    exact wpAny_pure (q s' l (hm.mono up) (x.at fun o e => hm.heap S o hSw e) nd ln mem)
  | succ k ih =>
    intro i s l e hi st x nd ln mem q
    have lt : i < n := by omega
    refine codeAny_builtin F.entry_set_update_loop ?_
    rw [Around.under_plainId F.plain_set_update_loop _]
    refine wpAny_bind (W.item i s _ _ lt st fun v s' hP st' hm => ?_)
    obtain ⟨u, rfl⟩ := hv i v hP
    have x' := x.at fun o e => hm.heap S o hSw e
    show wpAny _ A.in1 (holding [Value.str (f i) u] (setAdd S (.str (f i) u)) >>= _) _ _ s'
    refine wpAny_bind (wpAny_holding ?_)
    unfold setAdd
    refine wpAny_holding (wpAny_bind ((strKind P w).pyHash (k := f i) (is_str _ _) ?_))
    refine ss_hashed (s := { s' with toks := s'.toks + 1 }) x' (by omega) fun b h' sb x2 => ?_
    refine wpAny_pure ⟨plainId_quiet F.plain_set_update_loop _, ih (i + 1) _ (if f i ∈ l then l else f i :: l) (by omega) lt (W.frame _ s' _ _ st' (Nat.le_succ _) fun b hb o e => ?_) x2 ?_ ?_ ?_ fun s2 l2 m2 y2 n2 ln2 mm2 => ?_⟩
    · rw [sb.2 b fun h => hSf (h ▸ hb)]
      exact e
    · split
      · exact nd
      · rename_i h
        exact List.nodup_cons.mpr ⟨h, nd⟩
    · split
      · omega
      · rw [List.length_cons]
        omega
    · intro y
      have step : (∃ j, j < i + 1 ∧ y = f j) ↔ (∃ j, j < i ∧ y = f j) ∨ y = f i := ⟨fun ⟨j, h1, h2⟩ => by
        rcases Nat.lt_or_ge j i with c | c
        · exact .inl ⟨j, c, h2⟩
        · exact .inr (by rw [h2, show j = i by omega]), fun h => by
        rcases h with ⟨j, h1, h2⟩ | h
        · exact ⟨j, by omega, h2⟩
        · exact ⟨i, by omega, h⟩⟩
      rw [step, ← mem]
      split
      · rename_i h
        exact ⟨.inl, fun z => z.elim id fun e => e ▸ h⟩
      · rw [List.mem_cons]
        exact Or.comm
    · refine q s2 l2 (Moved.trans W.gtrans ((hm.mono up).then_heap (Nat.le_succ _) fun b o hb e => ?_) m2) y2 n2 ln2 mm2
      rw [sb.2 b fun h => hb (h ▸ List.mem_cons_self)]
      exact e
/-- the signs of a text, each once -/
def OnceOf (z : Str) (l : List Str) : Prop := l.Nodup ∧ l.length ≤ z.length ∧ ∀ y, y ∈ l ↔ ∃ c ∈ cs z, y = ch c
theorem once_of {z : Str} {l : List Str} (nd : l.Nodup) (ln : l.length ≤ z.cps.size) (m : ∀ y, y ∈ l ↔ ∃ j, j < z.cps.size ∧ y = ⟨#[z.cps.getD j 0]⟩) : OnceOf z l := by
  refine ⟨nd, ln, fun y => (m y).trans ⟨fun ⟨j, h1, h2⟩ => ⟨z.cps.getD j 0, ?_, h2⟩, fun ⟨c, h1, h2⟩ => ?_⟩⟩
  · have e : z.cps.getD j 0 = z.cps[j] := by simp [Array.getD, h1]
    rw [e]
    exact Array.mem_toList_iff.mpr (Array.getElem_mem h1)
  · obtain ⟨j, hj, e⟩ := List.mem_iff_getElem.mp h1
    have hj' : j < z.cps.size := by simpa [cs] using hj
    refine ⟨j, hj', ?_⟩
    rw [h2, ← e]
    unfold ch
    simp [Array.getD, hj', cs]
end
end G
namespace G
open PySem PySem.Spec PyProof.Rows L2 PySem.Froz
section
variable {P : Program} {w : World} {A : Around} {E : Value → Shared → Prop} {s : Shared}
abbrev emptySet (w : World) : Obj := { cls := .type "set", dict := none, data := .set #[] 0 (.fresh 0 0 (!w.params.followText "set-order")) }
/-- set(z), z a text -/
theorem ss_call {z : Str} {t : Tok} {Q : Value → Shared → Prop} (hh : A.handled = none) (hb : z.cps.size + 1 < scanBound)
    (h : ∀ (h' : Heap) (tk : Nat) l, SsAt P w h' s.heap.objs.size l → OnceOf z l → (∀ b o, s.heap.get? b = some o → h'.get? b = some o) → Q (.ref s.heap.objs.size) { s with heap := h', toks := tk }) :
    wpAny (model P w) A (call (.type "set") [.str z t]) Q E s := by
  obtain ⟨c, tl, hmro⟩ := F.called_set.mro
  have hmade := F.called_set.made
  have hsub := F.called_set.sub
  refine wpAny_call (codeAny_of_tree ?_)
  show wpAny _ _ (callAny (.type "set") _) _ _ _
  refine wpAny_pure ⟨Code.quiet_builtin _ (by decide +kernel), codeAny_builtin F.entry_type_call ?_⟩
  rw [Around.under_plain (weight_type_call_type "set" [.str z t] []) rfl]
  have h1 := F.called_set.notType
  have h2 := F.called_set.canCreate
  have hct := F.typeCall_set_1 (.str z t)
  repeat (any_goals (first | assumption | wp_step))
  refine codeAny_mono (code_set_led1 (.str z t) (E := E) (Q₁ := fun obj s₁ => obj = .ref s.heap.objs.size ∧ s₁ = { s with heap := s.heap.push (emptySet w) }) ⟨rfl, rfl⟩) fun r s₁ hr => ?_
  cases r with
  | error e => exact hr
  | ok fl =>
    cases fl with
    | ret obj =>
      obtain ⟨rfl, rfl⟩ := hr
      have hS : (s.heap.push (emptySet w)).get? s.heap.objs.size = some (emptySet w) := Heap.get?_push_size _ rfl
      have hT : Shared.TypeIs { s with heap := s.heap.push (emptySet w) } (.ref s.heap.objs.size) "set" := ⟨_, hS, rfl⟩
      have hli := F.called_set.init.lookup
      have hbi := F.called_set.init.bind (.ref s.heap.objs.size)
      repeat (any_goals (first | assumption | wp_step))
      refine codeAny_mono (codeAny_call_builtin (R := wants (fun r s₂ => r = .none ∧ ∃ h' tk l, s₂ = { s with heap := h', toks := tk } ∧ SsAt P w h' s.heap.objs.size l ∧ OnceOf z l ∧
          (∀ b o, s.heap.get? b = some o → h'.get? b = some o)) E) F.called_set.init.plain F.entry_set_init (check_set_init_1 hT ?_)) fun r₂ s₂ hr₂ => ?_
      · have anyS : ∀ {A' : Around} {E' : Value → Shared → Prop} {s' : Shared} {Q' : Bool → Shared → Prop}, Q' false s' → wpAny (model P w) A' (Builtin.Frozenset.isAnySet (.str z t)) Q' E' s' := fun q => by
          unfold Builtin.Frozenset.isAnySet orM
          refine wpAny_bind (wpAny_isInstance (typeIs_str _ _ _) PySem.F.sub_str_set ?_)
          exact wpAny_isInstance (typeIs_str _ _ _) PySem.F.sub_str_frozenset q
        have hne : (Value.type "str" == Value.type "dict") = false := by decide
        have hh3 : A.in1.in1.in1.handled = none := by simp [hh]
        unfold Builtin.«set.__init__» noKeywords Builtin.Frozenset.updateFrom
        generalize hPI : pyIter = PI
        generalize hAS : Builtin.Frozenset.isAnySet = AS at anyS
        wp_walk
        refine anyS ?_
        subst hAS
        wp_walk
        subst hPI
        refine wpAny_pyIter_str fun o St hW hst => ?_
        refine wpAny_bind (wpAny_runValue ?_)
        have hz : (s.heap.push (emptySet w)).objs.size = s.heap.objs.size + 1 := Heap.size_push ..
        have hnI : s.heap.objs.size ∉ [(s.heap.push (emptySet w)).objs.size] := by
          rw [hz, List.mem_singleton]
          omega
        refine ss_loop (P := P) (w := w) ((hW _ hh3).toS) hnI (fun i => ⟨#[z.cps.getD i 0]⟩) hb (fun i v hv => ?_) (z.cps.size - 0) 0 _ [] (by omega) (Nat.zero_le _) hst (ss_fresh (Heap.get?_push_of_some _ hS)) .nil (Nat.le_refl _) (fun y => ⟨fun h => (List.not_mem_nil h).elim, fun ⟨j, h, _⟩ => absurd h (Nat.not_lt_zero _)⟩) fun s' l hm x nd ln mem => ?_
        · obtain ⟨c, u, hc, rfl⟩ := hv
          refine ⟨u, ?_⟩
          congr 3
          simp [Array.getD, (Array.getElem?_eq_some_iff.mp hc).1, ← (Array.getElem?_eq_some_iff.mp hc).2]
        · obtain ⟨h', g2, d', tk', os'⟩ := s'
          have eg : g2 = s.gens := hm.gens
          have ed : d' = s.drawn := hm.drawn
          have eo : os' = s.os := hm.os
          subst eg; subst ed; subst eo
          refine wpAny_pure ?_
          show wpAny _ _ (ret Value.none) _ _ _
          refine wpAny_pure ⟨rfl, h', tk', l, rfl, x, once_of nd ln mem, fun b o' e => ?_⟩
          have b0 := Heap.lt_size e
          refine hm.heap b o' (fun hb => ?_) (Heap.get?_push_of_some _ (Heap.get?_push_of_some _ e))
          rw [hz] at hb
          rcases List.mem_cons.mp hb with z | z
          · exact absurd b0 (by rw [z]; exact Nat.lt_irrefl _)
          · exact absurd b0 (by rw [List.mem_singleton.mp z]; exact Nat.not_lt_of_le (Nat.le_succ _))
      · cases r₂ with
        | error e => exact hr₂
        | ok fl₂ =>
          cases fl₂ with
          | ret r =>
            obtain ⟨rfl, h', tk, l, rfl, x, oz, hk⟩ := hr₂
            repeat (any_goals (first | assumption | wp_step))
            exact h _ _ _ x oz hk
          | _ => exact hr₂.elim
    | _ => exact hr.elim
/-- sorted(a), a a set of texts -/
theorem ss_sorted {a : Addr} {l : List Str} {Q : Value → Shared → Prop} (x : SsAt P w s.heap a l) (hh : A.handled = none) (few : l.length < 64)
    (q : ∀ s' p (out : Array Value) (c : Nat) ys, (∀ b o, s.heap.get? b = some o → s'.heap.get? b = some o) → s'.gens = s.gens → s'.os = s.os → s.heap.objs.size ≤ p → s'.heap.get? p = some (seqObj "list" out c) →
      StrsAre out.toList ys → ys.Perm l → sortedS ys = true → Q (.ref p) s') : wpAny (model P w) A (call (.builtin "sorted") [.ref a]) Q E s := by
  obtain ⟨D, ho, O⟩ := x
  obtain ⟨es, ep, t⟩ := D
  have sz : es.size = l.length := O.tx.sz
  refine Calls.call_function_entry kind_sorted plain_sorted entry_sorted (args_sorted1 _) ?_
  unfold Builtin.«sorted»
  refine wpAny_bind (m := checkCount "sorted" 1 1 _) (wpAny_pure ?_)
  refine wpAny_bind (collect_set (A := A.in1) hh ⟨_, ho, rfl, rfl⟩ O.tx.fit (by show es.size < 4096; omega) O.ris O.led fun s1 vs k1 hz g1 o1 pm => ?_)
  have hlen : vs.length = l.length := by rw [pm.length_eq, List.length_map, Array.length_toList, sz]
  -- what the values say
  have texts : ∀ {vs : List Value}, (∀ v ∈ vs, ∃ e ∈ es.toList, v = e.2) → ∃ ws, StrsAre vs ws ∧ ws = vs.map (fun v => txO (0, v)) := by
    intro vs
    induction vs with
    | nil => exact fun _ => ⟨[], .nil, rfl⟩
    | cons v r ih =>
      intro hv
      obtain ⟨ws, h1, h2⟩ := ih fun u hu => hv u (List.mem_cons_of_mem _ hu)
      obtain ⟨e, he, rfl⟩ := hv v List.mem_cons_self
      obtain ⟨⟨k, hk, _⟩, _⟩ := O.tx.el e he
      obtain ⟨u, hu⟩ := Value.isStrOf_shape hk
      refine ⟨k :: ws, ?_, ?_⟩
      · rw [hu]
        exact .cons k u h1
      · rw [List.map_cons, ← h2, hu]
        rfl
  obtain ⟨ws, hw, ew⟩ := texts fun v hv => by
    obtain ⟨e, he, r⟩ := List.mem_map.mp (pm.mem_iff.mp hv)
    exact ⟨e, he, r.symm⟩
  have pw : ws.Perm l := by
    rw [ew]
    refine (pm.map _).trans ?_
    rw [List.map_map]
    exact O.pm
  refine wpAny_bind (wpAny_newList ?_ (by rw [hlen, sizeLine_eq]; omega))
  have hoL : (s1.heap.push (seqObj "list" vs.toArray 0)).get? s1.heap.objs.size = some (seqObj "list" vs.toArray 0) := Heap.get?_push_size _ rfl
  refine wpAny_bind (wpAny_holding (wpAny_call_entry slot_list_sort ⟨_, hoL, rfl⟩ entry_list_sort (list_sort_treeK strKind_oneLt hoL hw.keysOf (fun v₁ v₂ rest e => keyKind_strs (by rw [← e]; exact hw)) (by rw [hlen]; exact few) fun st' hp hs => ⟨_, rfl, ?_⟩) (args_list_sort _)))
  obtain ⟨ys, a1, a2, a3⟩ := sorted_out_str hw hp hs
  generalize (arrOf st').map (·.2) = out at a1 ⊢
  obtain ⟨c, hc⟩ := sortedHeap_at (vs := vs) (out := out) hoL
  refine wpAny_pure ⟨_, rfl, q _ s1.heap.objs.size out c ys (fun b u e => ?_) g1 o1 hz hc a1 (a2.trans pw) a3⟩
  have e1 := k1 b u e
  have lt := Heap.lt_size e1
  show (sortedHeap (s1.heap.push (seqObj "list" vs.toArray 0)) s1.heap.objs.size vs out).get? b = some u
  rw [sortedHeap_old (Nat.ne_of_lt lt) (by rw [Heap.size_push]; exact Nat.lt_succ_of_lt lt)]
  exact Heap.get?_push_of_some _ e1
end
/-- the set of texts at a, tracked -/
def SsO (P : Program) (w : World) (a : Addr) (l : List Str) : HO := .ext fun h => SsAt P w h a l
theorem ss_new {P : Program} {w : World} {H : Hp} {h : Heap} {a : Addr} {l : List Str} (x : SsAt P w h a l) : ObjOk P w H h a (SsO P w a l) := by
  obtain ⟨D, ho, _⟩ := id x
  exact ⟨x, ⟨_, ho⟩, fun h1 h2 p k => SsAt.at p k⟩
section
variable {X : Cx}
def rSetTx (P : Program) (w : World) : List V → Hp → VK → Prop := fun xs H Q => ∃ z : Str, xs = [.str z] ∧ z.length ≤ 4000 ∧ ∀ p l, H p = none → OnceOf z l → Q (.ref p) (upd H p (SsO P w p l))
theorem cr_setTx (hc : X.calm = true) : CallR X (.type "set") (rSetTx X.prog X.w) := by
  intro pins s σ H xs us Q I r h
  obtain ⟨z, rfl, hz, q⟩ := h
  obtain ⟨u, rfl, t, rfl⟩ := vals1 r
  have hz' : z.cps.size ≤ 4000 := hz
  refine ss_call (P := X.prog) (w := X.w) (I.ok.hd hc) (by unfold scanBound; omega) fun h' tk l x oz k => ?_
  exact ⟨.ref s.heap.objs.size, upd H s.heap.objs.size (SsO X.prog X.w s.heap.objs.size l), I.laid (t' := tk) k (Nat.le_refl _) (ss_new x), rfl, q _ l (I.hok.fresh (Nat.le_refl _)) oz⟩
def rSortTx (P : Program) (w : World) : List V → Hp → VK → Prop := fun xs H Q => ∃ a l, xs = [.ref a] ∧ H a = some (SsO P w a l) ∧ l.length < 64 ∧ ∀ p ys, H p = none → ys.Perm l → sortedS ys = true → Q (.ref p) (upd H p (.lst (ys.map V.str)))
theorem cr_sortTx (hc : X.calm = true) : CallR X (.builtin "sorted") (rSortTx X.prog X.w) := by
  intro pins s σ H vs us Q I r h
  obtain ⟨a, l, rfl, ha, few, q⟩ := h
  have x : SsAt X.prog X.w s.heap a l := (I.hok a _ ha).1
  obtain ⟨u, rfl, ru⟩ := vals1 r
  cases ru
  refine ss_sorted x (I.ok.hd hc) few fun s' p out c ys k g o hp hg hs pm so => ?_
  have hn : H p = none := I.hok.fresh hp
  have hl : (ys.map V.str).length ≤ sizeLine := by rw [List.length_map, pm.length_eq, sizeLine_eq]; omega
  have J : Inv X pins σ (upd H p (.lst (ys.map V.str))) { s with heap := s'.heap, gens := s'.gens, drawn := s'.drawn, toks := s'.toks } :=
    I.call (ch := []) (Un.laid k hp hn) (I.hok.laid k hp ⟨hl, out.toList, c, vals_of_strs hs, hg⟩) (by rw [g]; exact I.bare) (fun _ z => nomatch z)
  have e : s' = { s with heap := s'.heap, gens := s'.gens, drawn := s'.drawn, toks := s'.toks } := by
    cases s'
    cases s
    cases o
    rfl
  rw [e]
  exact ⟨.ref p, _, J, rfl, q p ys hn pm so⟩
end
end G
namespace G
open PySem PySem.Spec PyProof.Rows L2
/-! ### comprehensions over anything that is walked, whose parts leave all that was tracked -/
section
variable {α : Type} {J : It} {G : Hp → Prop} {Y : Nat → Hp → V → Hp → Prop}
theorem take_fm {its : List α} {i : Nat} {a : α} {β : Type} (h : α → Option β) (e : its[i]? = some a) : (its.take (i + 1)).filterMap h = (its.take i).filterMap h ++ (h a).toList := by
  rw [List.take_add_one, e, List.filterMap_append]
  cases hh : h a <;> simp [hh]
theorem lcs (its : List α) (w : Walk J its.length G Y) (h : α → Option V) {g : TG} {tt : TT} {te : TE} {vs : List Nat} {σ : L2.St} {H1 : Hp} {D : Addr} {Qd : Hp → Prop} (hD : H1 D = none) (hz : its.length ≤ 1000000) (hG : ∀ H, Same H1 H → G H)
    (hs : ∀ i a x H H', its[i]? = some a → Same H1 H → Y i H x H' → ∀ (N : VK) (M : Hp → Prop), (∀ v H3, h a = some v → Same H H3 → N v H3) → (∀ H3, h a = none → Same H H3 → M H3) →
      g x (wipe σ vs) H' fun σ2 H2 => wipe σ2 vs = wipe σ vs ∧ tt σ2 H2 fun b H3 => if b = true then te σ2 H3 N else M H3)
    (hd : ∀ H, Same H1 H → H D = some (.lst (its.filterMap h)) → Qd H) :
    ∃ W : Nat → Nat → Hp → Prop, (∃ m, W 0 m (upd H1 D (.lst []))) ∧ ∀ i m H, W i m H →
      (J.stop i H ∧ Qd H) ∨ (J.go i H ∧ ∃ Nx : Hp → Prop, (∀ H', Nx H' → ∃ m', m' < m ∧ W (i + 1) m' H') ∧ ∀ x H', J.yld i H x H' → g x (wipe σ vs) H' fun σ2 H2 => wipe σ2 vs = wipe σ vs ∧ tt σ2 H2 fun b H3 =>
        if b = true then te σ2 H3 fun y H4 => ∃ acc, H4 D = some (.lst acc) ∧ acc.length < sizeLine ∧ Nx (upd H4 D (.lst (acc ++ [y]))) else Nx H3) := by
  refine lc_it w (fun i H => Same H1 H ∧ H D = some (.lst ((its.take i).filterMap h))) ⟨same_new hD, upd_same⟩ (fun i H _ p => hG H p.1) ?_ (fun H p => hd H p.1 (by rw [p.2, List.take_length]))
  rintro i x H H' hi ⟨s, e⟩ y
  obtain ⟨a, ha⟩ : ∃ a, its[i]? = some a := ⟨_, List.getElem?_eq_getElem hi⟩
  have short : ((its.take i).filterMap h).length < sizeLine := by
    have h1 := List.length_filterMap_le h (its.take i)
    rw [List.length_take] at h1
    exact Nat.lt_of_le_of_lt (by omega : _ ≤ 1000000) (by decide)
  refine hs i a x H H' ha s y _ _ (fun v H3 hv s3 => ⟨_, s3 _ _ e, short, fun b o q => ?_, ?_⟩) (fun H3 hv s3 => ⟨s.trans s3, ?_⟩)
  · rw [upd_ne (ne_of_none q hD)]
    exact s3 _ _ (s _ _ q)
  · rw [upd_same, take_fm h ha, hv]
    rfl
  · rw [s3 _ _ e, take_fm h ha, hv]
    show _ = some (HO.lst (_ ++ []))
    rw [List.append_nil]
end
/-- the pairs of a dict, each a new tuple -/
def YKV (kvs : List (Key × V)) : Nat → Hp → V → Hp → Prop := fun i H x H' => ∃ T k v, kvs[i]? = some (k, v) ∧ x = .ref T ∧ H T = none ∧ H' = upd H T (.tup [kV k, v])
theorem walk_kv {d : Addr} {o : Obj} {kvs : List (Key × V)} : Walk (Iti d o kvs) kvs.length (fun H => H d = some (.frz o (.dK kvs))) (YKV kvs) :=
  ⟨fun _ _ hi q => ⟨q, hi⟩, fun _ q => ⟨q, Nat.le_refl _⟩, fun _ _ _ _ _ _ y => y⟩
/-- the end of a body: an object that is not changed any more -/
def tFrz (t : TS) : TS := fun D σ H => t { D with nx := fun σ' H' => ∃ d u, H' d = some u ∧ Mut (some u) ∧ ∀ od, D.nx σ' (upd H' d (.frz od u)) } σ H
theorem pss_frz {X : Cx} {body : List Stmt} {t : TS} (h : PSs X body t) : PSs X body (tFrz t) := by
  refine ⟨fun pins s σ H D I hw => thn (h.run pins s σ H _ I hw) fun f s1 q => ?_⟩
  cases f with
  | next =>
    obtain ⟨σ', H', I1, d, u, hd, mu, k⟩ := q
    obtain ⟨od, I2⟩ := I1.lock hd mu
    exact ⟨σ', _, I2, k od⟩
  | brk => exact q
  | cont => exact q
  | ret v => exact q
/-! ### attributes by name -/
theorem lk_at {k : Str} {v : V} {r : List (Str × V)} : List.lookup k ((k, v) :: r) = some v := by
  have e : (k == k) = true := beq_self_eq_true k
  simp only [List.lookup, e]
theorem lk_by {k g : Str} {v : V} {r : List (Str × V)} (h : (k == g) = false) : List.lookup k ((g, v) :: r) = List.lookup k r := by
  simp only [List.lookup, h]
theorem pf_by {f g : Str} {v x : V} {r : List (Str × V)} (h : ¬ g = f) : putF f v ((g, x) :: r) = (g, x) :: putF f v r := if_neg h
/-! ### books -/
abbrev Ps := List (Str × Int)
def kvOf (ps : Ps) : List (Key × V) := ps.map fun p => (Sum.inr p.1, V.int p.2)
def lens (ps : Ps) : List Int := ps.map fun p => (p.1.length : Int)
def fees (ps : Ps) : List Int := ps.map (·.2)
def sgn (ps : Ps) : List Str := (ps.map (·.1)).filter fun z => decide (z.length = 1)
def IsMax (m : Int) (l : List Int) : Prop := m ∈ l ∧ ∀ y ∈ l, y ≤ m
def bookF (d tp ta : Addr) (L M : Int) : List (Str × V) := [("own_prices", .ref d), ("own_pieces", .ref tp), ("own_alphabet", .ref ta), ("own_longest", .int L), ("own_dearest", .int M)]
structure BookAt (C : Addr) (H : Hp) (b : Addr) (ps : Ps) (L M : Int) (dx d tp ta : Addr) (od : Obj) : Prop where
  ob : H b = some (.ins C dx (bookF d tp ta L M))
  dc : H d = some (.frz od (.dK (kvOf ps)))
  pi : H tp = some (.tup (ps.map fun p => V.str p.1))
  al : H ta = some (.tup ((sgn ps).map V.str))
  lo : IsMax L (lens ps)
  de : IsMax M (fees ps)
theorem BookAt.same {C : Addr} {H H' : Hp} {b : Addr} {ps : Ps} {L M : Int} {dx d tp ta : Addr} {od : Obj} (B : BookAt C H b ps L M dx d tp ta od) (s : Same H H') : BookAt C H' b ps L M dx d tp ta od :=
  ⟨s _ _ B.ob, s _ _ B.dc, s _ _ B.pi, s _ _ B.al, B.lo, B.de⟩
section
variable {d tp ta : Addr} {L M : Int}
theorem bf_prices : (bookF d tp ta L M).lookup ("own_prices" : Str) = some (.ref d) := lk_at
theorem bf_pieces : (bookF d tp ta L M).lookup ("own_pieces" : Str) = some (.ref tp) := (lk_by (by decide +kernel)).trans lk_at
theorem bf_alphabet : (bookF d tp ta L M).lookup ("own_alphabet" : Str) = some (.ref ta) := (lk_by (by decide +kernel)).trans ((lk_by (by decide +kernel)).trans lk_at)
theorem bf_longest : (bookF d tp ta L M).lookup ("own_longest" : Str) = some (.int L) := (lk_by (by decide +kernel)).trans ((lk_by (by decide +kernel)).trans ((lk_by (by decide +kernel)).trans lk_at))
theorem bf_dearest : (bookF d tp ta L M).lookup ("own_dearest" : Str) = some (.int M) := (lk_by (by decide +kernel)).trans ((lk_by (by decide +kernel)).trans ((lk_by (by decide +kernel)).trans ((lk_by (by decide +kernel)).trans lk_at)))
theorem bf_no {m : Str} (h1 : (m == ("own_prices" : Str)) = false) (h2 : (m == ("own_pieces" : Str)) = false) (h3 : (m == ("own_alphabet" : Str)) = false) (h4 : (m == ("own_longest" : Str)) = false) (h5 : (m == ("own_dearest" : Str)) = false) :
    (bookF d tp ta L M).lookup m = none := (lk_by h1).trans ((lk_by h2).trans ((lk_by h3).trans ((lk_by h4).trans ((lk_by h5).trans rfl))))
theorem bf_made : putF "own_dearest" (.int M) (putF "own_longest" (.int L) (putF "own_alphabet" (.ref ta) (putF "own_pieces" (.ref tp) (putF "own_prices" (.ref d) [])))) = bookF d tp ta L M := by
  show putF "own_dearest" (.int M) (putF "own_longest" (.int L) (putF "own_alphabet" (.ref ta) (putF "own_pieces" (.ref tp) [(("own_prices" : Str), .ref d)]))) = _
  rw [pf_by (by decide +kernel)]
  show putF "own_dearest" (.int M) (putF "own_longest" (.int L) (putF "own_alphabet" (.ref ta) [(("own_prices" : Str), .ref d), (("own_pieces" : Str), .ref tp)])) = _
  rw [pf_by (by decide +kernel), pf_by (by decide +kernel)]
  show putF "own_dearest" (.int M) (putF "own_longest" (.int L) [(("own_prices" : Str), .ref d), (("own_pieces" : Str), .ref tp), (("own_alphabet" : Str), .ref ta)]) = _
  rw [pf_by (by decide +kernel), pf_by (by decide +kernel), pf_by (by decide +kernel)]
  show putF "own_dearest" (.int M) [(("own_prices" : Str), .ref d), (("own_pieces" : Str), .ref tp), (("own_alphabet" : Str), .ref ta), (("own_longest" : Str), .int L)] = _
  rw [pf_by (by decide +kernel), pf_by (by decide +kernel), pf_by (by decide +kernel), pf_by (by decide +kernel)]
  rfl
end
/-! ### a def of the program as its callers use it (no word of guards) -/
structure HasO (P : Program) (w : World) (K : PySem.W.Frag) (mg : Str → Option Value) (base : Heap) (CX : CXT) (k : Nat) (x : Str) (ps : List Str) (sp : Sp) : Prop where
  ex : ∃ f fd, FnOk P w K mg base CX k f fd ps sp ∧ mg x = some (.ref f) ∧ PySem.W.keepIn K (.ref f) = true ∧ Binds K fd ps []
section
variable {P : Program} {w : World} {K : PySem.W.Frag} {mg : Str → Option Value} {base : Heap} {CX : CXT} {k : Nat} {x qual : Str} {ps : List Str} {sp : Sp}
theorem HasO.toG (F : HasO P w K mg base CX k x ps sp) : Has P w K mg base CX k x ps sp := by
  obtain ⟨f, fd, G, r⟩ := F.ex
  exact ⟨f, fd, .of G, r⟩
theorem HasO.mk' {f : Addr} {fd : FuncData} {st : Stmt} (F : Fun K x qual st f fd) (hm : mg x = some (.ref f)) (hb : Binds K fd ps []) (G : FnOk P w K mg base CX k f fd ps sp) : HasO P w K mg base CX k x ps sp := ⟨f, fd, G, hm, F.kp, hb⟩
end
section
variable {X : Cx} {CX : CXT} {k : Nat} {x : Str} {ps : List Str} {sp : Sp} {E : XK} {p pos : Pos} {e : Expr} {es : List Expr} {t : TA}
theorem pe_hasO (F : HasO X.prog X.w X.K X.mg X.base CX k x ps sp) (hr : Room k X.A) (hx : Passes CX X E) (ha : PA X (e :: es) t) (hl : Gl X x := by rfl)
    (hdb : (x == ("__debug__" : Str)) = false := by decide) (he : starEach (e :: es) X.env = (false, eval e X.env) :: starEach es X.env := by rfl) (hpl : (backTo pos (starEach es X.env)).any (·.1) = false := by rfl) :
    PE X (.Call (.Name x p) (e :: es) [] pos) (tCall sp [] E t) := by
  obtain ⟨f, fd, G, hm, hk, hb⟩ := F.ex
  exact pe_call G hr hl hm hk hb .nil hx ha hdb he hpl
end
/-! ### a dict that a walk locks -/
theorem unlock {H H' : Hp} {a : Addr} {u : HO} {od : Obj} (h : H a = some u) (s : Same (upd H a (.frz od u)) H') : Same H (upd H' a u) := fun b o e => by
  by_cases hb : b = a
  · rw [hb] at e ⊢
    rw [h] at e
    cases e
    exact upd_same
  · rw [upd_ne hb]
    exact s _ _ (by rw [upd_ne hb]; exact e)
theorem lock_ne {H : Hp} {a D : Addr} {o : HO} (h : upd H a o D = none) : D ≠ a := fun e => by
  rw [e, upd_same] at h
  cases h
theorem lock_free {H : Hp} {a D : Addr} {o : HO} (h : upd H a o D = none) : H D = none := by
  rw [upd_ne (lock_ne h)] at h
  exact h
/-- [elt for piece in a dict of texts for sign in piece], elt a value of the sign alone -/
theorem lc2_ks {kvs : List (Key × V)} {zs : List Str} {te : TE} {j1 j2 : Nat} {σ : L2.St} {H1 : Hp} {D d : Addr} {od : Obj} {Qd : Hp → Prop} (hk : kvs.map (·.1) = zs.map Sum.inr) (f : Nat → V) (hd0 : H1 d = some (.frz od (.dK kvs))) (hD : H1 D = none)
    (hz : ((zs.map cs).flatten).length ≤ 100000) (hw : ∀ v, wipe ((wipe σ [j1, j2]).set j1 (some v)) [j1, j2] = wipe σ [j1, j2])
    (hw1 : ∀ v u, wipe ((wipe ((wipe σ [j1, j2]).set j1 (some v)) [j2]).set j2 (some u)) [j2] = wipe ((wipe σ [j1, j2]).set j1 (some v)) [j2])
    (hv : ∀ v, ((wipe σ [j1, j2]).set j1 (some v))[j1]? = some (some v))
    (hs : ∀ z ∈ zs, ∀ c ∈ cs z, ∀ H, Same H1 H → ∀ N : VK, (∀ H', Same H H' → N (f c) H') → te ((wipe ((wipe σ [j1, j2]).set j1 (some (.str z))) [j2]).set j2 (some (chV c))) H N)
    (hd : ∀ H, Same H1 H → H D = some (.lst ((zs.map cs).flatten.map f)) → Qd H) :
    ∃ W : Nat → Nat → Hp → Prop, (∃ m, W 0 m (upd H1 D (.lst []))) ∧ ∀ i m H, W i m H →
      ((Itk d od kvs).stop i H ∧ Qd H) ∨ ((Itk d od kvs).go i H ∧ ∃ Nx : Hp → Prop, (∀ H', Nx H' → ∃ m', m' < m ∧ W (i + 1) m' H') ∧ ∀ x H', (Itk d od kvs).yld i H x H' → gName j1 x (wipe σ [j1, j2]) H' fun σ2 H2 => wipe σ2 [j1, j2] = wipe σ [j1, j2] ∧ tYes σ2 H2 fun b H3 =>
        if b = true then iStr (tVar j1) σ2 H3 fun J1 H4 => ∃ W1 : Nat → Nat → Hp → Prop, (∃ m, W1 0 m H4) ∧ ∀ j k H, W1 j k H →
          (J1.stop j H ∧ Nx H) ∨ (J1.go j H ∧ ∃ Nx1 : Hp → Prop, (∀ H', Nx1 H' → ∃ k', k' < k ∧ W1 (j + 1) k' H') ∧ ∀ x H', J1.yld j H x H' → gName j2 x (wipe σ2 [j2]) H' fun σ3 H5 => wipe σ3 [j2] = wipe σ2 [j2] ∧ tYes σ3 H5 fun b H6 =>
            if b = true then te σ3 H6 fun y H7 => ∃ acc, H7 D = some (.lst acc) ∧ acc.length < sizeLine ∧ Nx1 (upd H7 D (.lst (acc ++ [y]))) else Nx1 H6)
        else Nx H3) := by
  have len : kvs.length = zs.length := by
    have h := congrArg List.length hk
    rwa [List.length_map, List.length_map] at h
  have keep : ∀ {H : Hp} {o : HO}, Same H1 H → Same H1 (upd H D o) := fun s b o e => by
    rw [upd_ne (ne_of_none e hD)]
    exact s _ _ e
  have part : ∀ (i : Nat) (z : Str), zs[i]? = some z → ∀ j, ((((zs.take i).map cs).flatten.map f) ++ ((cs z).take j).map f).length ≤ 100000 := by
    intro i z hi j
    have e1 : zs = zs.take i ++ z :: zs.drop (i + 1) := by
      obtain ⟨hlt, hz'⟩ := List.getElem?_eq_some_iff.mp hi
      rw [← hz', List.getElem_cons_drop, List.take_append_drop]
    have e2 := hz
    rw [e1, List.map_append, List.flatten_append, List.map_cons, List.flatten_cons, List.length_append, List.length_append] at e2
    rw [List.length_append, List.length_map, List.length_map, List.length_take]
    omega
  refine ⟨fun i m H => m = kvs.length - i ∧ i ≤ kvs.length ∧ Same H1 H ∧ H D = some (.lst (((zs.take i).map cs).flatten.map f)), ⟨_, rfl, Nat.zero_le _, same_new hD, upd_same⟩, ?_⟩
  rintro i m H ⟨rfl, hi, s, e⟩
  have fz := s _ _ hd0
  by_cases hlt : i < kvs.length
  · refine .inr ⟨⟨fz, hlt⟩, fun H' => Same H1 H' ∧ H' D = some (.lst (((zs.take (i + 1)).map cs).flatten.map f)), fun H' q => ⟨kvs.length - (i + 1), by omega, rfl, hlt, q⟩, ?_⟩
    rintro x H' ⟨rfl, k, v, ek, rfl⟩
    obtain ⟨z, hz1⟩ : ∃ z, zs[i]? = some z := ⟨_, List.getElem?_eq_getElem (by omega)⟩
    have ez : k = Sum.inr z := by
      have h1 := congrArg (fun l => l[i]?) hk
      simp only [List.getElem?_map, ek, hz1] at h1
      exact Option.some.inj h1
    subst ez
    have hzm := List.mem_of_getElem? hz1
    refine ⟨hw _, _, hv _, z, rfl, fun j k' H' => k' = (cs z).length - j ∧ j ≤ (cs z).length ∧ Same H1 H' ∧ H' D = some (.lst ((((zs.take i).map cs).flatten.map f) ++ ((cs z).take j).map f)), ⟨_, rfl, Nat.zero_le _, s, by simpa using e⟩, ?_⟩
    rintro j k' H2 ⟨rfl, hj, s2, e2⟩
    have lz := cs_len z
    by_cases hjl : j < (cs z).length
    · refine .inr ⟨by show j < z.cps.size; rw [lz] at hjl; exact hjl, fun H' => Same H1 H' ∧ H' D = some (.lst ((((zs.take i).map cs).flatten.map f) ++ ((cs z).take (j + 1)).map f)), fun H' q => ⟨(cs z).length - (j + 1), by omega, rfl, hjl, q⟩, ?_⟩
      rintro x H3 ⟨rfl, c, hc, rfl⟩
      have hc' : (cs z)[j]? = some c := by simpa [cs] using hc
      refine ⟨hw1 _ _, hs z hzm c (List.mem_of_getElem? hc') _ s2 _ fun H4 s4 => ⟨_, s4 _ _ e2, Nat.lt_of_le_of_lt (part i z hz1 j) (by decide), keep (s2.trans s4), ?_⟩⟩
      rw [upd_same, List.append_assoc]
      congr 3
      have : (cs z).take (j + 1) = (cs z).take j ++ [c] := by
        rw [List.take_add_one, hc']
        rfl
      rw [this, List.map_append]
      rfl
    · have ej : j = (cs z).length := by omega
      subst ej
      refine .inl ⟨by show z.cps.size ≤ _; rw [lz]; exact Nat.le_refl _, s2, ?_⟩
      rw [List.take_length] at e2
      rw [e2]
      have : (zs.take (i + 1)).map cs = (zs.take i).map cs ++ [cs z] := by
        rw [List.take_add_one, hz1, List.map_append]
        rfl
      rw [this, List.flatten_append, List.map_append]
      simp
  · have ei : i = kvs.length := by omega
    subst ei
    refine .inl ⟨⟨fz, Nat.le_refl _⟩, hd H s ?_⟩
    rw [len, List.take_length] at e
    exact e
/-! ### the values of a dict, as a view -/
def vwV (d r : Addr) : HO := .ext fun h => h.IsValuesView r d
section
variable {X : Cx}
theorem mt_values : MtR X "dict.values" (fun x xs H Q => ∃ d kvs, x = .ref d ∧ xs = [] ∧ Rd H d (.dK kvs) ∧ ∀ r, H r = none → Q (.ref r) (upd H r (vwV d r))) := by
  intro pins s σ H x xs v us Q I rx rs h
  obtain ⟨d, kvs, rfl, rfl, hd, q⟩ := h
  cases rx
  cases rs
  obtain ⟨_, low, vs, _, hdo⟩ := dk_rd I.hok hd
  refine call_meetsIn PySem.F.slot_dict_values hdo.typeIs PySem.F.entry_dict_values (PySem.F.args_dict_values_1 _) (meets_dict_values (mixKind X.prog X.w) d low) ⟨⟨vs, hdo⟩, ?_⟩
  have view : (s.heap.push { cls := .type "dict_values", data := .fields #[.ref d] }).IsValuesView s.heap.objs.size d := ⟨_, Heap.get?_push_size _ rfl, rfl, rfl⟩
  refine ⟨.ref s.heap.objs.size, _, I.laid (o := vwV d s.heap.objs.size) (fun _ _ e => Heap.get?_push_of_some _ e) (Nat.le_refl _) ⟨view, ⟨_, Heap.get?_push_size _ rfl⟩, ?_⟩, rfl, q _ (I.hok.fresh (Nat.le_refl _))⟩
  rintro h1 h2 ⟨o, a, b, c⟩ k
  exact ⟨o, k o a, b, c⟩
theorem call_listVw (hc : X.calm = true) : CallR X (.type "list") (fun xs H Q => ∃ r d kvs, xs = [.ref r] ∧ H r = some (vwV d r) ∧ Rd H d (.dK kvs) ∧ ∀ p, H p = none → Q (.ref p) (upd H p (.lst (kvs.map (·.2))))) := by
  intro pins s σ H xs us Q I rs h
  obtain ⟨r, d, kvs, rfl, hr, hd, q⟩ := h
  obtain ⟨u, rfl, ru⟩ := vals1 rs
  cases ru
  obtain ⟨short, low, vs, rel, hdo⟩ := dk_rd I.hok hd
  obtain ⟨ep, at'⟩ := hdo.dictAt
  have view : s.heap.IsValuesView r d := (I.hok r _ hr).1
  have nl : kvs.length = vs.length := rel.length
  refine PySem.W.kdl_call (PySem.W.kdl_values (knd := mixKind X.prog X.w) (kvs := vs) (ep := ep)) (I.ok.hd hc) ⟨view, at'⟩ (by omega) ?_
  intro h' tk acc c' keeps new items
  have va : Vals (kvs.map (·.2)) acc.toList := vals_at _ _ (by rw [Array.length_toList, List.length_map, items.1, nl]) fun j w hw => by
    obtain ⟨k, hk⟩ := items.2 j w (by simpa using hw)
    obtain ⟨p, hp, rp⟩ : ∃ p, kvs[j]? = some p ∧ RelV p.2 w := by
      have jl : j < kvs.length := by
        have := (List.getElem?_eq_some_iff.mp hk).1
        omega
      refine ⟨kvs[j], List.getElem?_eq_getElem jl, ?_⟩
      obtain ⟨y, hy, ry⟩ := LiI.paired_get rel (List.getElem?_eq_getElem jl)
      rw [hk] at hy
      cases hy
      exact ry.2
    exact ⟨p.2, by rw [List.getElem?_map, hp]; rfl, rp⟩
  refine ⟨.ref s.heap.objs.size, _, I.laid (t' := tk) (o := .lst (kvs.map (·.2))) keeps (Nat.le_refl _) ⟨by rw [List.length_map]; exact short, acc.toList, c', va, by simpa using new⟩, rfl, q _ (I.hok.fresh (Nat.le_refl _))⟩
/-- len of a dict, locked or not -/
theorem call_lenF : CallR X (.builtin "len") (fun xs H Q => ∃ a kvs, xs = [V.ref a] ∧ Rd H a (.dK kvs) ∧ Q (.int (kvs.length : Int)) H) := by
  intro pins s σ H xs us Q I rs h
  obtain ⟨a, kvs, rfl, ha, q⟩ := h
  obtain ⟨u, rfl, ru⟩ := vals1 rs
  cases ru
  exact d_len I (by first | exact ha | exact Or.inl ha) fun t s' J => ⟨.int kvs.length, H, J, ⟨t, rfl⟩, q⟩
end
/-! ### what a dict of prices is -/
def inRange (x : V) (a b : Int) : Bool := match x with | .int i => decide (i.natAbs < 10 ^ 60) && (decide (a ≤ i) && decide (i ≤ b)) | _ => false
def isPrice (x : V) : Bool := inRange x 1 99
def keyStrs (kvs : List (Key × V)) : List Str := kvs.filterMap fun kv => match kv.1 with | .inr z => some z | .inl _ => none
def arePrices (kvs : List (Key × V)) : Bool :=
  (decide (1 ≤ (kvs.length : Int)) && decide ((kvs.length : Int) ≤ 12)) && (kvs.all fun kv => isPiece (kV kv.1) && isPrice kv.2) && decide (((keyStrs kvs).filter fun z => decide ((cs z).length = 1)).length ≤ 4) &&
    ((keyStrs kvs).map cs).flatten.all fun c => (valV kvs (Sum.inr (ch c))).isSome
/-- what was tracked is so still, or locked -/
def Sim (H H' : Hp) : Prop := ∀ b o, H b = some o → H' b = some o ∨ ∃ od, H' b = some (.frz od o)
theorem Sim.of {H H' : Hp} (s : Same H H') : Sim H H' := fun b o e => Or.inl (s b o e)
theorem Sim.lock {H : Hp} {a : Addr} {u : HO} {od : Obj} (h : H a = some u) : Sim H (upd H a (.frz od u)) := fun b o e => by
  by_cases hb : b = a
  · rw [hb] at e ⊢
    rw [h] at e
    cases e
    exact Or.inr ⟨od, upd_same⟩
  · exact Or.inl (by rw [upd_ne hb]; exact e)
theorem Sim.then {H H1 H2 : Hp} (a : Sim H H1) (s : Same H1 H2) : Sim H H2 := fun b o e => by
  rcases a b o e with h | ⟨od, h⟩
  · exact Or.inl (s _ _ h)
  · exact Or.inr ⟨od, s _ _ h⟩
theorem Sim.after {H H1 H2 : Hp} (s : Same H H1) (a : Sim H1 H2) : Sim H H2 := fun b o e => a b o (s b o e)
/-- of a known kind, as long as it stands, locked or not -/
def TydS (K : PySem.W.Frag) (H : Hp) (x : V) : Prop := ∀ H', Sim H H' → Tyd K H' x
section
variable {K : PySem.W.Frag} {H : Hp}
theorem TydS.now {x : V} (t : TydS K H x) : Tyd K H x := t H (.of (Same.refl H))
theorem TydS.same {H' : Hp} {x : V} (t : TydS K H x) (s : Same H H') : TydS K H' x := fun H2 z => t H2 (Sim.after s z)
theorem tydS_non : TydS K H .non := fun _ _ => tyd_non
theorem tydS_bl (b : Bool) : TydS K H (.bl b) := fun _ _ => tyd_bl b
theorem tydS_int (i : Int) : TydS K H (.int i) := fun _ _ => tyd_int i
theorem tydS_str (z : Str) : TydS K H (.str z) := fun _ _ => tyd_str z
theorem tydS_lst {a : Addr} {xs : List V} (h : H a = some (.lst xs)) : TydS K H (.ref a) := fun H' z => by
  rcases z a _ h with h | ⟨od, h⟩
  · exact tyd_lst h
  · exact tyd_of (a := false) (b := false) (c := false) (.base (.frz h)) (by decide +kernel) (by decide +kernel) (by decide +kernel) rfl rfl rfl
theorem tydS_tup {a : Addr} {xs : List V} (h : H a = some (.tup xs)) : TydS K H (.ref a) := fun H' z => by
  rcases z a _ h with h | ⟨od, h⟩
  · exact tyd_tup h
  · exact tyd_of (a := false) (b := false) (c := false) (.fTuple h) (by decide +kernel) (by decide +kernel) (by decide +kernel) rfl rfl rfl
theorem tydS_dK {a : Addr} {kvs : List (Key × V)} (h : H a = some (.dK kvs)) : TydS K H (.ref a) := fun H' z => by
  rcases z a _ h with h | ⟨od, h⟩
  · exact tyd_dK h
  · exact tyd_of (a := false) (b := false) (c := false) (.fDict h) (by decide +kernel) (by decide +kernel) (by decide +kernel) rfl rfl rfl
end
def KvOk (K : PySem.W.Frag) (H : Hp) (kvs : List (Key × V)) : Prop := ∀ kv ∈ kvs, szV (kV kv.1) ∧ TydS K H kv.2
theorem tyd_key {K : PySem.W.Frag} {H : Hp} (k : Key) : Tyd K H (kV k) := by
  cases k with
  | inl i => exact tyd_int i
  | inr z => exact tyd_str z
def spWithin (K : PySem.W.Frag) : Sp := fun vs H Q _ => ∃ x a b, vs = [x, .int a, .int b] ∧ Tyd K H x ∧ ∀ H', Same H H' → Q (.bl (inRange x a b)) H'
def spArePrices (K : PySem.W.Frag) : Sp := fun vs H Q _ => ∃ x, vs = [x] ∧
  ((∃ t, TyX K H x t ∧ PySem.W.kitOne K t (.type "dict") = some false ∧ ∀ H', Same H H' → Q (.bl false) H') ∨
   ∃ a kvs, x = .ref a ∧ H a = some (.dK kvs) ∧ kvs.length ≤ 1000 ∧ KvOk K H kvs ∧ ∀ H', Same H H' → Q (.bl (arePrices kvs)) H')
theorem piece_key {k : Key} (h : isPiece (kV k) = true) : ∃ z, k = Sum.inr z ∧ 1 ≤ (cs z).length ∧ (cs z).length ≤ 5 ∧ ∀ c ∈ cs z, lett c = true := by
  cases k with
  | inl i => cases h
  | inr z =>
    have h' : (decide (1 ≤ (cs z).length) && decide ((cs z).length ≤ 5) && (cs z).all lett) = true := h
    rw [Bool.and_eq_true, Bool.and_eq_true] at h'
    exact ⟨z, rfl, of_decide_eq_true h'.1.1, of_decide_eq_true h'.1.2, List.all_eq_true.mp h'.2⟩
theorem keys_of {kvs : List (Key × V)} (h : (kvs.all fun kv => isPiece (kV kv.1) && isPrice kv.2) = true) : kvs.map (·.1) = (keyStrs kvs).map Sum.inr := by
  induction kvs with
  | nil => rfl
  | cons a r ih =>
    rw [List.all_cons, Bool.and_eq_true, Bool.and_eq_true] at h
    obtain ⟨z, ez, _⟩ := piece_key h.1.1
    obtain ⟨k, v⟩ := a
    dsimp only at ez
    subst ez
    show Sum.inr z :: _ = Sum.inr z :: _
    rw [ih h.2]
    rfl
theorem keyStrs_piece {kvs : List (Key × V)} (h : (kvs.all fun kv => isPiece (kV kv.1) && isPrice kv.2) = true) : ∀ z ∈ keyStrs kvs, 1 ≤ (cs z).length ∧ (cs z).length ≤ 5 ∧ ∀ c ∈ cs z, lett c = true := by
  intro z hz
  obtain ⟨kv, hkv, e⟩ := List.mem_filterMap.mp hz
  have h1 := List.all_eq_true.mp h kv hkv
  rw [Bool.and_eq_true] at h1
  obtain ⟨y, ey, r⟩ := piece_key h1.1
  obtain ⟨k, v⟩ := kv
  dsimp only at ey e
  subst ey
  cases e
  exact r
theorem flat_len {zs : List Str} (h : ∀ z ∈ zs, (cs z).length ≤ 5) : ((zs.map cs).flatten).length ≤ 5 * zs.length := by
  induction zs with
  | nil => exact Nat.zero_le _
  | cons a r ih =>
    rw [List.map_cons, List.flatten_cons, List.length_append, List.length_cons]
    have h1 := h a List.mem_cons_self
    have h2 := ih fun z hz => h z (List.mem_cons_of_mem _ hz)
    omega
theorem singles : ∀ kvs : List (Key × V), (kvs.filterMap fun kv => match kv.1 with | .inr z => if decide ((cs z).length = 1) = true then some (V.str z) else none | .inl _ => none) = ((keyStrs kvs).filter fun z => decide ((cs z).length = 1)).map V.str
  | [] => rfl
  | (.inl i, v) :: r => singles r
  | (.inr z, v) :: r => by
    have ih := singles r
    have e : keyStrs ((Sum.inr z, v) :: r) = z :: keyStrs r := rfl
    rw [e, List.filter_cons, List.filterMap_cons]
    dsimp only
    cases h : decide ((cs z).length = 1) with
    | true =>
      rw [if_pos rfl, if_pos rfl, List.map_cons, ih]
    | false =>
      rw [if_neg Bool.false_ne_true, if_neg Bool.false_ne_true, ih]
/-! ### dict comprehensions; walks of lists and tuples told by a function -/
section
variable {α : Type} {J : It} {G : Hp → Prop} {Y : Nat → Hp → V → Hp → Prop}
theorem valV_none {κ : Type} [DecidableEq κ] {kvs : List (κ × V)} {k : κ} (h : k ∉ kvs.map (·.1)) : valV kvs k = none := by
  cases e : valV kvs k with
  | none => rfl
  | some v => exact absurd (valV_in e) h
theorem dcs (its : List α) (w : Walk J its.length G Y) (h : α → Key × V) (nd : (its.map fun a => (h a).1).Nodup) {g : TG} {tt : TT} {tk tv : TE} {vs : List Nat} {σ : L2.St} {H1 : Hp} {D : Addr} {Qd : Hp → Prop} (hD : H1 D = none) (hz : its.length ≤ 100000) (hG : ∀ H, Same H1 H → G H)
    (hs : ∀ i a x H H', its[i]? = some a → Same H1 H → Y i H x H' → ∀ (N : V → V → Hp → Prop) (M : Hp → Prop), (∀ H3, Same H H3 → N (kV (h a).1) (h a).2 H3) →
      g x (wipe σ vs) H' fun σ2 H2 => wipe σ2 vs = wipe σ vs ∧ tt σ2 H2 fun b H3 => if b = true then tk σ2 H3 fun y H4 => tv σ2 H4 fun z H5 => N y z H5 else M H3)
    (hd : ∀ H, Same H1 H → H D = some (.dK (its.map h)) → Qd H) :
    ∃ W : Nat → Nat → Hp → Prop, (∃ m, W 0 m (upd H1 D (.dK []))) ∧ ∀ i m H, W i m H →
      (J.stop i H ∧ Qd H) ∨ (J.go i H ∧ ∃ Nx : Hp → Prop, (∀ H', Nx H' → ∃ m', m' < m ∧ W (i + 1) m' H') ∧ ∀ x H', J.yld i H x H' → g x (wipe σ vs) H' fun σ2 H2 => wipe σ2 vs = wipe σ vs ∧ tt σ2 H2 fun b H3 =>
        if b = true then tk σ2 H3 fun y H4 => tv σ2 H4 fun z H5 => ∃ kvs k, y = kV k ∧ H5 D = some (.dK kvs) ∧ kvs.length < sizeLine ∧ Nx (upd H5 D (.dK (putK kvs k z))) else Nx H3) := by
  refine ⟨fun i m H => m = its.length - i ∧ i ≤ its.length ∧ Same H1 H ∧ H D = some (.dK ((its.take i).map h)), ⟨_, rfl, Nat.zero_le _, same_new hD, upd_same⟩, ?_⟩
  rintro i m H ⟨rfl, hi, s, e⟩
  by_cases hlt : i < its.length
  · obtain ⟨a, ha⟩ : ∃ a, its[i]? = some a := ⟨_, List.getElem?_eq_getElem hlt⟩
    refine .inr ⟨w.goes i H hlt (hG H s), fun H' => Same H1 H' ∧ H' D = some (.dK ((its.take (i + 1)).map h)), fun H' q => ⟨its.length - (i + 1), by omega, rfl, hlt, q⟩, ?_⟩
    intro x H' y
    refine hs i a x H H' ha s (w.yields i H x H' hlt (hG H s) y) _ _ fun H3 s3 => ⟨_, (h a).1, rfl, s3 _ _ e, ?_, fun b o q => ?_, ?_⟩
    · rw [List.length_map, List.length_take]
      exact Nat.lt_of_le_of_lt (by omega : _ ≤ 100000) (by decide)
    · rw [upd_ne (ne_of_none q hD)]
      exact s3 _ _ (s _ _ q)
    · have e1 : its.take (i + 1) = its.take i ++ [a] := by
        rw [List.take_add_one, ha]
        rfl
      have e2 : valV ((its.take i).map h) (h a).1 = none := valV_none fun m => by
        rw [List.map_map] at m
        have nd' : ((its.take (i + 1)).map fun a => (h a).1).Nodup := nd.sublist ((List.take_sublist _ _).map _)
        rw [e1, List.map_append] at nd'
        exact (List.nodup_append.mp nd').2.2 _ m _ (List.mem_singleton.mpr rfl) rfl
      rw [upd_same, putK_new _ e2, e1, List.map_append]
      rfl
  · have ei : i = its.length := by omega
    subst ei
    refine .inl ⟨w.stops H (hG H s), hd H s ?_⟩
    rw [e, List.take_length]
end
theorem walk_listF {β : Type} {K : PySem.W.Frag} {a : Addr} (f : β → V) (ys : List β) : Walk (Itl K a) ys.length (fun H => SqL K H a (ys.map f)) (fun i H x H' => H' = H ∧ ∃ b, ys[i]? = some b ∧ x = f b) := by
  have w := walk_list (K := K) (a := a) (xs := ys.map f)
  rw [List.length_map] at w
  refine w.mono (fun _ h => h) ?_
  rintro i H x H' hi _ ⟨rfl, hx⟩
  rw [List.getElem?_map] at hx
  cases e : ys[i]? with
  | none =>
    rw [e] at hx
    cases hx
  | some b =>
    rw [e] at hx
    exact ⟨rfl, b, rfl, (Option.some.inj hx).symm⟩
theorem walk_tupF {β : Type} {K : PySem.W.Frag} {a : Addr} (f : β → V) (ys : List β) : Walk (Itt K a) ys.length (fun H => SqT K H a (ys.map f)) (fun i H x H' => H' = H ∧ ∃ b, ys[i]? = some b ∧ x = f b) := by
  have w := walk_tup (K := K) (a := a) (xs := ys.map f)
  rw [List.length_map] at w
  refine w.mono (fun _ h => h) ?_
  rintro i H x H' hi _ ⟨rfl, hx⟩
  rw [List.getElem?_map] at hx
  cases e : ys[i]? with
  | none =>
    rw [e] at hx
    cases hx
  | some b =>
    rw [e] at hx
    exact ⟨rfl, b, rfl, (Option.some.inj hx).symm⟩
/-! ### a book is made -/
def priceIn (kvs : List (Key × V)) (z : Str) : Int := match valV kvs (Sum.inr z) with | some (.int p) => p | _ => 0
def psOf (kvs : List (Key × V)) (ys : List Str) : Ps := ys.map fun z => (z, priceIn kvs z)
theorem fm_some {α β : Type} (f : α → β) (l : List α) : l.filterMap (fun a => some (f a)) = l.map f := by
  rw [List.filterMap_eq_map']
theorem price_of_key {kvs : List (Key × V)} (h : (kvs.all fun kv => isPiece (kV kv.1) && isPrice kv.2) = true) {z : Str} (hz : z ∈ keyStrs kvs) : valV kvs (Sum.inr z) = some (.int (priceIn kvs z)) ∧ 1 ≤ priceIn kvs z ∧ priceIn kvs z ≤ 99 := by
  have hm : (Sum.inr z : Key) ∈ kvs.map (·.1) := by
    rw [keys_of h]
    exact List.mem_map.mpr ⟨z, hz, rfl⟩
  cases e : valV kvs (Sum.inr z : Key) with
  | none => exact absurd hm (valV_not e)
  | some v =>
    obtain ⟨kv, hkv, e1⟩ : ∃ kv ∈ kvs, kv.2 = v := by
      unfold valV at e
      cases e2 : kvs.find? (fun kv => decide (kv.1 = (Sum.inr z : Key))) with
      | none =>
        rw [e2] at e
        cases e
      | some kv =>
        rw [e2] at e
        exact ⟨kv, List.mem_of_find?_eq_some e2, Option.some.inj e⟩
    have h1 := List.all_eq_true.mp h kv hkv
    rw [Bool.and_eq_true] at h1
    have h2 := h1.2
    rw [e1] at h2
    cases v with
    | int p =>
      have h3 : (decide (p.natAbs < 10 ^ 60) && (decide (1 ≤ p) && decide (p ≤ 99))) = true := h2
      rw [Bool.and_eq_true, Bool.and_eq_true] at h3
      have e3 : priceIn kvs z = p := by
        unfold priceIn
        rw [e]
      rw [e3]
      exact ⟨rfl, of_decide_eq_true h3.2.1, of_decide_eq_true h3.2.2⟩
    | _ => cases h2
theorem ap_parts {kvs : List (Key × V)} (h : arePrices kvs = true) : (1 ≤ kvs.length ∧ kvs.length ≤ 12) ∧ (kvs.all fun kv => isPiece (kV kv.1) && isPrice kv.2) = true ∧ ((keyStrs kvs).filter fun z => decide ((cs z).length = 1)).length ≤ 4 ∧
    (((keyStrs kvs).map cs).flatten.all fun c => (valV kvs (Sum.inr (ch c))).isSome) = true := by
  unfold arePrices at h
  rw [Bool.and_eq_true, Bool.and_eq_true, Bool.and_eq_true, Bool.and_eq_true] at h
  obtain ⟨⟨⟨⟨a, b⟩, c⟩, d⟩, e⟩ := h
  have a' := of_decide_eq_true a
  have b' := of_decide_eq_true b
  exact ⟨⟨by omega, by omega⟩, c, of_decide_eq_true d, e⟩
theorem not_there {H H' : Hp} {a : Addr} (s : Same H H') (h : H' a = none) : H a = none := by
  cases e : H a with
  | none => rfl
  | some o =>
    rw [s _ _ e] at h
    cases h
theorem nd_of_map {α β : Type} {f : α → β} {l : List α} (h : (l.map f).Nodup) : l.Nodup := List.Pairwise.of_map f (fun _ _ n e => n (congrArg f e)) h
theorem nd_map {α β : Type} {f : α → β} (hf : ∀ a b, f a = f b → a = b) {l : List α} (h : l.Nodup) : (l.map f).Nodup := List.Pairwise.map f (fun a b n e => n (hf a b e)) h
section
variable {x y z u v : V}
theorem pf2 : putF "own_pieces" y [(("own_prices" : Str), x)] = [(("own_prices" : Str), x), ("own_pieces", y)] := by
  rw [pf_by (by decide +kernel)]
  rfl
theorem pf3 : putF "own_alphabet" z [(("own_prices" : Str), x), ("own_pieces", y)] = [(("own_prices" : Str), x), ("own_pieces", y), ("own_alphabet", z)] := by
  rw [pf_by (by decide +kernel), pf_by (by decide +kernel)]
  rfl
theorem pf4 : putF "own_longest" u [(("own_prices" : Str), x), ("own_pieces", y), ("own_alphabet", z)] = [(("own_prices" : Str), x), ("own_pieces", y), ("own_alphabet", z), ("own_longest", u)] := by
  rw [pf_by (by decide +kernel), pf_by (by decide +kernel), pf_by (by decide +kernel)]
  rfl
theorem pf5 : putF "own_dearest" v [(("own_prices" : Str), x), ("own_pieces", y), ("own_alphabet", z), ("own_longest", u)] = [(("own_prices" : Str), x), ("own_pieces", y), ("own_alphabet", z), ("own_longest", u), ("own_dearest", v)] := by
  rw [pf_by (by decide +kernel), pf_by (by decide +kernel), pf_by (by decide +kernel), pf_by (by decide +kernel)]
  rfl
end
theorem sgn_fm (kvs : List (Key × V)) (ys : List Str) : (ys.filterMap fun z => if decide ((cs z).length = 1) = true then some (V.str z) else none) = (sgn (psOf kvs ys)).map V.str := by
  induction ys with
  | nil => rfl
  | cons z r ih =>
    have e : sgn (psOf kvs (z :: r)) = if decide (z.length = 1) = true then z :: sgn (psOf kvs r) else sgn (psOf kvs r) := by
      unfold sgn psOf
      rw [List.map_cons, List.map_cons, List.filter_cons]
    rw [e, List.filterMap_cons, cs_len, ih]
    cases decide (z.length = 1) <;> rfl
theorem kv_keys (ps : Ps) : (kvOf ps).map (fun kv => kV kv.1) = ps.map fun p => V.str p.1 := by
  unfold kvOf
  rw [List.map_map]
  rfl
theorem kv_vals (ps : Ps) : (kvOf ps).map (·.2) = (fees ps).map V.int := by
  unfold kvOf fees
  rw [List.map_map, List.map_map]
  rfl
/-- Book.__init__ on a right dict -/
def spBook (C : Addr) (K : PySem.W.Frag) : Sp := fun vs H Q _ => ∃ (b dx a : Addr) (kvs : List (Key × V)), vs = [.ref b, .ref a] ∧ H b = some (.ins C dx []) ∧ H a = some (.dK kvs) ∧ KvOk K H kvs ∧ arePrices kvs = true ∧ (kvs.map (·.1)).Nodup ∧
  ∀ H' ys L M d tp ta od, ys.Perm (keyStrs kvs) → sortedS ys = true → BookAt C H' b (psOf kvs ys) L M dx d tp ta od → (∀ c o, H c = some o → c ≠ b → H' c = some o) → Q .non H'
end G
/-! Cheapest prices, in plain Lean: cuts by a tariff, the least fee. -/
namespace G
open PySem PySem.Spec PyProof.Rows L2
abbrev Tf := Str → Option Int
def Cut (F : Tf) (l : List Nat) (c : Ps) : Prop := (∀ p ∈ c, F p.1 = some p.2) ∧ (c.map fun p => cs p.1).flatten = l
def fee (c : Ps) : Int := (c.map (·.2)).sum
def Least (F : Tf) (l : List Nat) (m : Int) : Prop := (∃ c, Cut F l c ∧ fee c = m) ∧ ∀ c, Cut F l c → m ≤ fee c
def Over (F : Tf) (l : List Nat) : Prop := ∀ c ∈ l, ∃ p, F (ch c) = some p
structure Good (F : Tf) : Prop where
  pos : ∀ z p, F z = some p → 1 ≤ p ∧ p ≤ 99
  len : ∀ z p, F z = some p → 1 ≤ (cs z).length ∧ (cs z).length ≤ 5
  cov : ∀ z p, F z = some p → Over F (cs z)
open Classical in
noncomputable def lp (F : Tf) (l : List Nat) : Int := if h : ∃ m, Least F l m then h.choose else 0
section
variable {F F1 F2 : Tf} {l a b : List Nat} {m n : Int} {c d : Ps} {z : Str} {p : Int}
theorem Least.uniq (h : Least F l m) (k : Least F l n) : m = n := by
  obtain ⟨⟨c, hc, rfl⟩, hm⟩ := h
  obtain ⟨⟨d, hd, rfl⟩, hn⟩ := k
  have := hm d hd
  have := hn c hc
  omega
theorem lp_of (h : Least F l m) : lp F l = m := by
  have hx : ∃ m, Least F l m := ⟨m, h⟩
  unfold lp
  rw [dif_pos hx]
  exact hx.choose_spec.uniq h
theorem fee_app : fee (c ++ d) = fee c + fee d := by
  unfold fee
  rw [List.map_append, List.sum_append]
theorem Cut.app (h : Cut F a c) (k : Cut F b d) : Cut F (a ++ b) (c ++ d) := by
  refine ⟨fun p hp => ?_, ?_⟩
  · rcases List.mem_append.mp hp with q | q
    · exact h.1 p q
    · exact k.1 p q
  · rw [List.map_append, List.flatten_append, h.2, k.2]
theorem Cut.one (h : F z = some p) : Cut F (cs z) [(z, p)] := ⟨fun q hq => by rw [List.mem_singleton.mp hq]; exact h, by simp⟩
theorem Cut.nil : Cut F [] [] := ⟨fun _ h => (List.not_mem_nil h).elim, rfl⟩
theorem fee_one : fee [(z, p)] = p := by simp [fee]
theorem fee_nil : fee [] = 0 := rfl
theorem fee_cons {q : Str × Int} : fee (q :: c) = q.2 + fee c := rfl
theorem fee_pos (G : Good F) : ∀ c : Ps, (∀ p ∈ c, F p.1 = some p.2) → 0 ≤ fee c
  | [], _ => Int.le_refl _
  | q :: r, h => by
    have h1 := (G.pos _ _ (h q List.mem_cons_self)).1
    have h2 := fee_pos G r fun p hp => h p (List.mem_cons_of_mem _ hp)
    rw [fee_cons]
    omega
theorem cut_ex (o : Over F l) : ∃ c, Cut F l c := by
  induction l with
  | nil => exact ⟨[], Cut.nil⟩
  | cons x r ih =>
    obtain ⟨c, hc⟩ := ih fun y hy => o y (List.mem_cons_of_mem _ hy)
    obtain ⟨p, hp⟩ := o x List.mem_cons_self
    exact ⟨_, (Cut.one hp).app hc⟩
theorem least_ex (G : Good F) (o : Over F l) : ∃ m, Least F l m := by
  obtain ⟨c0, h0⟩ := cut_ex o
  have go : ∀ n : Nat, ∀ c, Cut F l c → (fee c).toNat = n → ∃ m, Least F l m := by
    intro n
    induction n using Nat.strongRecOn with
    | ind n ih =>
      intro c hc hn
      by_cases hx : ∃ d, Cut F l d ∧ fee d < fee c
      · obtain ⟨d, hd, lt⟩ := hx
        have := fee_pos G d hd.1
        exact ih (fee d).toNat (by omega) d hd rfl
      · refine ⟨fee c, ⟨c, hc, rfl⟩, fun d hd => ?_⟩
        by_cases q : fee c ≤ fee d
        · exact q
        · exact absurd ⟨d, hd, by omega⟩ hx
  exact go _ c0 h0 rfl
theorem lp_least (G : Good F) (o : Over F l) : Least F l (lp F l) := by
  obtain ⟨m, h⟩ := least_ex G o
  rw [lp_of h]
  exact h
theorem lp_nil (G : Good F) : lp F [] = 0 := lp_of ⟨⟨[], Cut.nil, rfl⟩, fun c hc => fee_pos G c hc.1⟩
theorem lp_le (G : Good F) (h : Cut F l c) (o : Over F l) : lp F l ≤ fee c := (lp_least G o).2 c h
theorem lp_cut (G : Good F) (o : Over F l) : ∃ c, Cut F l c ∧ fee c = lp F l := (lp_least G o).1
theorem Over.app (h : Over F a) (k : Over F b) : Over F (a ++ b) := fun c hc => by
  rcases List.mem_append.mp hc with q | q
  · exact h c q
  · exact k c q
theorem Over.left (h : Over F (a ++ b)) : Over F a := fun c hc => h c (List.mem_append_left _ hc)
theorem Over.right (h : Over F (a ++ b)) : Over F b := fun c hc => h c (List.mem_append_right _ hc)
theorem Over.take (h : Over F l) (i : Nat) : Over F (l.take i) := fun c hc => h c (List.mem_of_mem_take hc)
theorem Over.drop (h : Over F l) (i : Nat) : Over F (l.drop i) := fun c hc => h c (List.mem_of_mem_drop hc)
theorem lp_add (G : Good F) (ha : Over F a) (hb : Over F b) : lp F (a ++ b) ≤ lp F a + lp F b := by
  obtain ⟨c, hc, e1⟩ := lp_cut G ha
  obtain ⟨d, hd, e2⟩ := lp_cut G hb
  have := lp_le G (hc.app hd) (ha.app hb)
  rw [fee_app, e1, e2] at this
  exact this
theorem lp_piece (G : Good F) (h : F z = some p) : lp F (cs z) ≤ p := by
  have := lp_le G (Cut.one h) (G.cov z p h)
  rwa [fee_one] at this
theorem lp_app (G : Good F) (ha : Over F a) (h : F z = some p) : lp F (a ++ cs z) ≤ lp F a + p := by
  have h1 := lp_add G ha (G.cov z p h)
  have h2 := lp_piece G h
  omega
/-- the last piece of a cheapest cut -/
theorem lp_last (G : Good F) (o : Over F l) (ne : l ≠ []) : ∃ z p a, F z = some p ∧ l = a ++ cs z ∧ lp F l = lp F a + p := by
  obtain ⟨c, hc, e⟩ := lp_cut G o
  have nc : c ≠ [] := fun q => ne (by rw [← hc.2, q]; rfl)
  obtain ⟨d, q, rfl⟩ : ∃ d q, c = d ++ [q] := ⟨c.dropLast, c.getLast nc, (List.dropLast_concat_getLast nc).symm⟩
  have hq := hc.1 q (List.mem_append_right _ (List.mem_singleton.mpr rfl))
  have hl : l = (d.map fun p => cs p.1).flatten ++ cs q.1 := by
    rw [← hc.2, List.map_append, List.flatten_append]
    simp
  have hd : Cut F (d.map fun p => cs p.1).flatten d := ⟨fun p hp => hc.1 p (List.mem_append_left _ hp), rfl⟩
  have oa : Over F (d.map fun p => cs p.1).flatten := by
    rw [hl] at o
    exact o.left
  refine ⟨q.1, q.2, _, hq, hl, ?_⟩
  have h1 := lp_le G hd oa
  have h2 := lp_app G oa hq
  rw [← hl] at h2
  rw [fee_app] at e
  have h3 : fee [q] = q.2 := fee_one (z := q.1)
  rw [h3] at e
  omega
/-- one step of the row of cheapest prices -/
theorem lp_step (G : Good F) (o : Over F l) (ne : l ≠ []) {ys : List Int} (hin : ∀ y ∈ ys, ∃ z p a, F z = some p ∧ l = a ++ cs z ∧ y = lp F a + p)
    (hall : ∀ z p a, F z = some p → l = a ++ cs z → lp F a + p ∈ ys) (hm : m ∈ ys) (hl : ∀ y ∈ ys, m ≤ y) : m = lp F l := by
  obtain ⟨z, p, a, h1, h2, h3⟩ := lp_last G o ne
  have h4 := hl _ (hall z p a h1 h2)
  obtain ⟨z', p', a', h5, h6, h7⟩ := hin m hm
  have h8 := lp_app G (a := a') (by rw [h6] at o; exact o.left) h5
  rw [← h6] at h8
  omega
/-- dearer on no piece, dearer on no text -/
theorem lp_mono (G1 : Good F1) (G2 : Good F2) (h : ∀ z p, F2 z = some p → Over F1 (cs z) ∧ lp F1 (cs z) ≤ p) (o1 : Over F1 l) (o2 : Over F2 l) : lp F1 l ≤ lp F2 l := by
  obtain ⟨c, hc, e⟩ := lp_cut G2 o2
  rw [← e]
  have go : ∀ (c : Ps) (l : List Nat), Cut F2 l c → Over F1 l → lp F1 l ≤ fee c := by
    intro c
    induction c with
    | nil =>
      intro l hc _
      rw [← hc.2]
      exact Int.le_of_eq (lp_nil G1)
    | cons q r ih =>
      intro l hc ol
      have hl : l = cs q.1 ++ (r.map fun p => cs p.1).flatten := hc.2.symm
      rw [hl] at ol ⊢
      obtain ⟨h1, h2⟩ := h _ _ (hc.1 q List.mem_cons_self)
      have h3 := ih _ ⟨fun p hp => hc.1 p (List.mem_cons_of_mem _ hp), rfl⟩ ol.right
      have h4 := lp_add G1 ol.left ol.right
      rw [fee_cons]
      omega
  exact go c l hc o1
end
/-- the tariff of a dict -/
def tfD (kvs : List (Key × V)) : Tf := fun z => match valV kvs (Sum.inr z) with | some (.int p) => some p | _ => none
theorem tf_some {kvs : List (Key × V)} {z : Str} {p : Int} : tfD kvs z = some p ↔ valV kvs (Sum.inr z) = some (.int p) := by
  unfold tfD
  constructor
  · intro h
    split at h
    · rename_i q e
      rw [e, Option.some.inj h]
    · cases h
  · intro h
    rw [h]
theorem ks_mem {kvs : List (Key × V)} {z : Str} : z ∈ keyStrs kvs ↔ (Sum.inr z : Key) ∈ kvs.map (·.1) := by
  unfold keyStrs
  rw [List.mem_filterMap, List.mem_map]
  constructor
  · rintro ⟨⟨k, v⟩, h1, h2⟩
    cases k with
    | inl i => cases h2
    | inr y =>
      cases h2
      exact ⟨_, h1, rfl⟩
  · rintro ⟨⟨k, v⟩, h1, h2⟩
    dsimp only at h2
    subst h2
    exact ⟨_, h1, rfl⟩
theorem good_of {kvs : List (Key × V)} (av : arePrices kvs = true) : Good (tfD kvs) := by
  obtain ⟨_, al, _, fs⟩ := ap_parts av
  have key : ∀ {z p}, tfD kvs z = some p → z ∈ keyStrs kvs := fun h => ks_mem.mpr (valV_in (tf_some.mp h))
  refine ⟨fun z p h => ?_, fun z p h => ?_, fun z p h c hc => ?_⟩
  · obtain ⟨h1, h2, h3⟩ := price_of_key al (key h)
    rw [tf_some.mp h] at h1
    have : p = priceIn kvs z := V.int.inj (Option.some.inj h1)
    rw [this]
    exact ⟨h2, h3⟩
  · obtain ⟨h1, h2, _⟩ := keyStrs_piece al z (key h)
    exact ⟨h1, h2⟩
  · have h1 := List.all_eq_true.mp fs c (List.mem_flatten.mpr ⟨cs z, List.mem_map.mpr ⟨z, key h, rfl⟩, hc⟩)
    have h2 : (Sum.inr (ch c) : Key) ∈ kvs.map (·.1) := by
      cases e : valV kvs (Sum.inr (ch c)) with
      | none =>
        rw [e] at h1
        cases h1
      | some v => exact valV_in e
    exact ⟨_, tf_some.mpr (price_of_key al (ks_mem.mpr h2)).1⟩

theorem valV_mem {kvs : List (Key × V)} {k : Key} {v : V} (h : valV kvs k = some v) : (k, v) ∈ kvs := by
  unfold valV at h
  cases e : kvs.find? (fun kv => decide (kv.1 = k)) with
  | none =>
    rw [e] at h
    cases h
  | some kv =>
    rw [e] at h
    have h1 : kv.2 = v := Option.some.inj h
    have h2 : kv.1 = k := by simpa using List.find?_some e
    have h3 := List.mem_of_find?_eq_some e
    rw [← h1, ← h2]
    exact h3
/-- a dict of texts and prices -/
structure Tar (kvs : List (Key × V)) : Prop where
  good : Good (tfD kvs)
  mem : ∀ kv ∈ kvs, ∃ z p, kv = (Sum.inr z, V.int p) ∧ tfD kvs z = some p
  len : kvs.length ≤ 1000
theorem tar_of {kvs : List (Key × V)} (av : arePrices kvs = true) (nd : (kvs.map (·.1)).Nodup) : Tar kvs := by
  obtain ⟨⟨n1, n2⟩, al, _, fs⟩ := ap_parts av
  refine ⟨good_of av, fun kv hkv => ?_, by omega⟩
  have h1 := List.all_eq_true.mp al kv hkv
  rw [Bool.and_eq_true] at h1
  obtain ⟨z, ez, _⟩ := piece_key h1.1
  have h3 := val_nodup nd kv hkv
  rw [ez] at h3
  have hz : z ∈ keyStrs kvs := ks_mem.mpr (List.mem_map.mpr ⟨kv, hkv, ez⟩)
  obtain ⟨h4, _⟩ := price_of_key al hz
  rw [h4] at h3
  refine ⟨z, priceIn kvs z, ?_, tf_some.mpr h4⟩
  rw [Option.some.inj h3, ← ez]
theorem val_fun {g : Str → Int} : ∀ {ys : List Str} {z : Str}, valV (ys.map fun y => ((Sum.inr y : Key), V.int (g y))) (Sum.inr z) = if z ∈ ys then some (.int (g z)) else none
  | [], z => by
    rw [if_neg (List.not_mem_nil)]
    rfl
  | y :: r, z => by
    by_cases h : y = z
    · subst h
      rw [if_pos List.mem_cons_self, List.map_cons, valV_pos rfl]
    · rw [List.map_cons, valV_neg (fun e => h (Sum.inr.inj e)), val_fun]
      by_cases q : z ∈ r
      · rw [if_pos q, if_pos (List.mem_cons_of_mem _ q)]
      · rw [if_neg q, if_neg fun m => ?_]
        rcases List.mem_cons.mp m with e | e
        · exact h e.symm
        · exact q e
theorem kvOf_ps {kvs : List (Key × V)} {ys : List Str} : kvOf (psOf kvs ys) = ys.map fun y => ((Sum.inr y : Key), V.int (priceIn kvs y)) := by
  unfold kvOf psOf
  rw [List.map_map]
  rfl
theorem tf_psOf {kvs : List (Key × V)} {ys : List Str} (al : (kvs.all fun kv => isPiece (kV kv.1) && isPrice kv.2) = true) (pm : ys.Perm (keyStrs kvs)) : tfD (kvOf (psOf kvs ys)) = tfD kvs := by
  funext z
  unfold tfD
  rw [kvOf_ps, val_fun]
  by_cases h : z ∈ ys
  · rw [if_pos h, (price_of_key al (pm.mem_iff.mp h)).1]
  · rw [if_neg h, valV_none fun m => h (pm.mem_iff.mpr (ks_mem.mpr m))]
theorem tar_book {kvs : List (Key × V)} {ys : List Str} (av : arePrices kvs = true) (pm : ys.Perm (keyStrs kvs)) : Tar (kvOf (psOf kvs ys)) := by
  obtain ⟨⟨n1, n2⟩, al, _, fs⟩ := ap_parts av
  have e := tf_psOf al pm
  refine ⟨by rw [e]; exact good_of av, fun kv hkv => ?_, ?_⟩
  · rw [kvOf_ps] at hkv
    obtain ⟨y, hy, rfl⟩ := List.mem_map.mp hkv
    refine ⟨y, _, rfl, ?_⟩
    rw [e]
    exact tf_some.mpr (price_of_key al (pm.mem_iff.mp hy)).1
  · have h := congrArg List.length (keys_of al)
    rw [List.length_map, List.length_map] at h
    rw [kvOf_ps, List.length_map, pm.length_eq]
    omega
/-- a book as Book(prices) made it -/
structure Book1 (C : Addr) (H : Hp) (b : Addr) (kvs : List (Key × V)) : Prop where
  av : arePrices kvs = true
  nd : (kvs.map (·.1)).Nodup
  ex : ∃ ys L M dx d tp ta od, ys.Perm (keyStrs kvs) ∧ sortedS ys = true ∧ BookAt C H b (psOf kvs ys) L M dx d tp ta od
theorem Book1.same {C : Addr} {H H' : Hp} {b : Addr} {kvs : List (Key × V)} (B : Book1 C H b kvs) (s : Same H H') : Book1 C H' b kvs := by
  obtain ⟨ys, L, M, dx, d, tp, ta, od, h1, h2, h3⟩ := B.ex
  exact ⟨B.av, B.nd, ys, L, M, dx, d, tp, ta, od, h1, h2, h3.same s⟩
theorem kvOk_of {K : PySem.W.Frag} {H : Hp} {kvs : List (Key × V)} (al : (kvs.all fun kv => isPiece (kV kv.1) && isPrice kv.2) = true) : KvOk K H kvs := by
  intro kv hkv
  have h1 := List.all_eq_true.mp al kv hkv
  rw [Bool.and_eq_true] at h1
  obtain ⟨z, ez, _, h2, _⟩ := piece_key h1.1
  constructor
  · rw [ez]
    show z.length ≤ 100000
    rw [← cs_len]
    omega
  · have h3 := h1.2
    generalize kv.2 = v at h3
    cases v with
    | int p => exact tydS_int p
    | _ => cases h3
/-- Book(prices), as pe_mk asks -/
theorem made_book {C a x dx : Addr} {K : PySem.W.Frag} {H : Hp} {kvs : List (Key × V)} {Q : VK} {E : XK} (hx : H x = none) (hdx : H dx = none) (ha : H a = some (.dK kvs)) (av : arePrices kvs = true) (nd : (kvs.map (·.1)).Nodup) (q : ∀ H', Same H H' → Book1 C H' x kvs → Q .non H') :
    spBook C K (.ref x :: ([.ref a] ++ [])) (upd (upd H dx (.own x)) x (.ins C dx [])) Q E := by
  refine ⟨x, dx, a, kvs, rfl, upd_same, ?_, kvOk_of (ap_parts av).2.1, av, nd, ?_⟩
  · rw [upd_ne (ne_of_none ha hx), upd_ne (ne_of_none ha hdx)]
    exact ha
  · intro H' ys L M d tp ta od pm so B k
    refine q H' (fun c o e => k c o ?_ (ne_of_none e hx)) ⟨av, nd, ys, L, M, dx, d, tp, ta, od, pm, so, B⟩
    rw [upd_ne (ne_of_none e hx), upd_ne (ne_of_none e hdx)]
    exact e
/-! ### ends of texts -/
theorem ends_iff {x y : Str} : Txt.endswith x y = true ↔ ∃ a, cs x = a ++ cs y := by
  have l1 := cs_len x
  have l2 := cs_len y
  unfold Txt.endswith
  rw [StrLaws.subAt_eq, Nat.zero_add, Bool.and_eq_true, decide_eq_true_eq, beq_iff_eq]
  constructor
  · rintro ⟨h1, h2⟩
    refine ⟨(cs x).take (x.length - y.length), ?_⟩
    have h3 : ((cs x).drop (x.length - y.length)).take y.length = (cs x).drop (x.length - y.length) := List.take_of_length_le (by rw [List.length_drop]; omega)
    have h4 : (cs x).drop (x.length - y.length) = cs y := h3.symm.trans h2
    rw [← h4, List.take_append_drop]
  · rintro ⟨a, h⟩
    have h0 := congrArg List.length h
    rw [List.length_append] at h0
    refine ⟨by omega, ?_⟩
    show ((cs x).drop (x.length - y.length)).take y.length = cs y
    have e : x.length - y.length = a.length := by omega
    rw [h, e, List.drop_left, List.take_of_length_le (by omega)]
/-! ### rows of cheapest prices -/
noncomputable def rowV (F : Tf) (l : List Nat) (n : Nat) : List V := (List.range n).map fun j => V.int (lp F (l.take j))
theorem rowV_len {F : Tf} {l : List Nat} {n : Nat} : (rowV F l n).length = n := by
  unfold rowV
  rw [List.length_map, List.length_range]
theorem rowV_at {F : Tf} {l : List Nat} {n j : Nat} (h : j < n) : (rowV F l n)[j]? = some (.int (lp F (l.take j))) := by
  unfold rowV
  rw [List.getElem?_map, List.getElem?_range h]
  rfl
theorem rowV_succ {F : Tf} {l : List Nat} {n : Nat} : rowV F l (n + 1) = rowV F l n ++ [.int (lp F (l.take n))] := by
  unfold rowV
  rw [List.range_succ, List.map_append]
  rfl
theorem rowV_one {F : Tf} {l : List Nat} (G : Good F) : rowV F l 1 = [.int 0] := by
  show [V.int (lp F (l.take 0))] = _
  rw [List.take_zero, lp_nil G]
theorem atI_last {α : Type} {xs : List α} {v : α} : atI (xs ++ [v]) (-1) = some v := by
  have e : ixN (xs ++ [v]).length (-1) = some xs.length := by
    rw [List.length_append, List.length_singleton]
    unfold ixN
    rw [if_neg (by omega), if_pos (by omega)]
    congr 1
    omega
  unfold atI
  rw [e]
  show (xs ++ [v])[xs.length]? = some v
  simp
noncomputable def candG (F : Tf) (l : List Nat) (e : Nat) (st : Str) : Key × V → Option Int := fun kv => match kv with
  | (.inr y, .int p) => if Txt.endswith st y = true then some (lp F (l.take (e - y.length)) + p) else none
  | _ => none
theorem cand_min {kvs : List (Key × V)} {l : List Nat} {e : Nat} {st : Str} (T : Tar kvs) (ov : Over (tfD kvs) l) (hst : cs st = l.take e) (he : 1 ≤ e) (hel : e ≤ l.length) :
    0 < (kvs.filterMap (candG (tfD kvs) l e st)).length ∧ ∀ m ∈ kvs.filterMap (candG (tfD kvs) l e st), (∀ y ∈ kvs.filterMap (candG (tfD kvs) l e st), m ≤ y) → m = lp (tfD kvs) (l.take e) := by
  have le : (l.take e).length = e := by
    rw [List.length_take]
    omega
  have ne : l.take e ≠ [] := fun q => by
    rw [q] at le
    simp at le
    omega
  have ove : Over (tfD kvs) (l.take e) := ov.take e
  have part : ∀ {a : List Nat} {y : Str}, l.take e = a ++ cs y → a = l.take (e - y.length) := by
    intro a y h
    have h1 := congrArg List.length h
    rw [List.length_append, le, cs_len] at h1
    have h2 : (l.take e).take (e - y.length) = a := by
      rw [h, List.take_append_of_le_length (by omega), List.take_of_length_le (by omega)]
    rw [← h2, List.take_take]
    congr 1
    omega
  have hin : ∀ y ∈ kvs.filterMap (candG (tfD kvs) l e st), ∃ z p a, tfD kvs z = some p ∧ l.take e = a ++ cs z ∧ y = lp (tfD kvs) a + p := by
    intro y hy
    obtain ⟨kv, hkv, g⟩ := List.mem_filterMap.mp hy
    obtain ⟨z, p, rfl, hp⟩ := T.mem kv hkv
    have g' : (if Txt.endswith st z = true then some (lp (tfD kvs) (l.take (e - z.length)) + p) else none) = some y := g
    by_cases q : Txt.endswith st z = true
    · rw [if_pos q] at g'
      obtain ⟨a, ha⟩ := ends_iff.mp q
      rw [hst] at ha
      refine ⟨z, p, a, hp, ha, ?_⟩
      rw [part ha]
      exact (Option.some.inj g').symm
    · rw [if_neg q] at g'
      cases g'
  have hall : ∀ z p a, tfD kvs z = some p → l.take e = a ++ cs z → lp (tfD kvs) a + p ∈ kvs.filterMap (candG (tfD kvs) l e st) := by
    intro z p a hp ha
    refine List.mem_filterMap.mpr ⟨(Sum.inr z, V.int p), valV_mem (tf_some.mp hp), ?_⟩
    show (if Txt.endswith st z = true then some (lp (tfD kvs) (l.take (e - z.length)) + p) else none) = _
    rw [if_pos (ends_iff.mpr ⟨a, by rw [hst]; exact ha⟩), ← part ha]
  constructor
  · obtain ⟨z, p, a, h1, h2, _⟩ := lp_last T.good ove ne
    exact List.length_pos_of_mem (hall z p a h1 h2)
  · intro m hm hl
    exact lp_step T.good ove ne hin hall hm hl
theorem fm_int {α : Type} {g : α → Option Int} {l : List α} : l.filterMap (fun a => (g a).map V.int) = (l.filterMap g).map V.int := by
  rw [List.map_filterMap]
theorem same_mut {H H' : Hp} {a : Addr} {o : HO} (s : Same H H') (h : H a = none) : Same H (upd H' a o) := fun b u e => by
  rw [upd_ne (ne_of_none e h)]
  exact s _ _ e
theorem cs_cutTo {z : Str} {i : Nat} (h : i ≤ z.length) : cs (cutS z none (some (i : Int))) = (cs z).take i := by
  rw [cs_cut, sIx_pos (by omega)]
  show ((cs z).drop 0).take (min (Int.toNat (i : Int)) z.length - 0) = _
  rw [List.drop_zero, Int.toNat_natCast]
  congr 1
  omega
noncomputable def costF (F : Tf) (l : List Nat) (s : Nat) : Option Int := (F (sOf (l.drop s))).map fun p => lp F (l.take s) + p
noncomputable def costs (F : Tf) (l : List Nat) : List Int := (List.range (l.length - (l.length - 5))).filterMap fun i => costF F l (l.length - 5 + i)
theorem cost_min {F : Tf} {l : List Nat} (G : Good F) (o : Over F l) (ne : l ≠ []) : 0 < (costs F l).length ∧ ∀ m ∈ costs F l, (∀ y ∈ costs F l, m ≤ y) → m = lp F l := by
  have hin : ∀ y ∈ costs F l, ∃ z p a, F z = some p ∧ l = a ++ cs z ∧ y = lp F a + p := by
    intro y hy
    obtain ⟨i, hi, g⟩ := List.mem_filterMap.mp hy
    have g' : (F (sOf (l.drop (l.length - 5 + i)))).map (fun p => lp F (l.take (l.length - 5 + i)) + p) = some y := g
    cases e : F (sOf (l.drop (l.length - 5 + i))) with
    | none =>
      rw [e] at g'
      cases g'
    | some p =>
      rw [e] at g'
      exact ⟨_, p, l.take (l.length - 5 + i), e, by rw [cs_sOf, List.take_append_drop], (Option.some.inj g').symm⟩
  have hall : ∀ z p a, F z = some p → l = a ++ cs z → lp F a + p ∈ costs F l := by
    intro z p a hp ha
    obtain ⟨n1, n2⟩ := G.len z p hp
    have hl := congrArg List.length ha
    rw [List.length_append] at hl
    have e1 : l.length - 5 + (a.length - (l.length - 5)) = a.length := by omega
    refine List.mem_filterMap.mpr ⟨a.length - (l.length - 5), List.mem_range.mpr (by omega), ?_⟩
    show costF F l (l.length - 5 + (a.length - (l.length - 5))) = _
    rw [e1]
    unfold costF
    have e2 : l.drop a.length = cs z := by rw [ha, List.drop_left]
    have e3 : l.take a.length = a := by rw [ha, List.take_left]
    rw [e2, e3, sOf_cs, hp]
    rfl
  constructor
  · obtain ⟨z, p, a, h1, h2, _⟩ := lp_last G o ne
    exact List.length_pos_of_mem (hall z p a h1 h2)
  · intro m hm hl
    exact lp_step G o ne hin hall hm hl
theorem tar_val {kvs : List (Key × V)} (T : Tar kvs) (z : Str) : valV kvs (Sum.inr z) = (tfD kvs z).map V.int := by
  cases e : valV kvs (Sum.inr z : Key) with
  | none =>
    unfold tfD
    rw [e]
    rfl
  | some v =>
    obtain ⟨y, p, e1, e2⟩ := T.mem _ (valV_mem e)
    have e3 : z = y := Sum.inr.inj (congrArg Prod.fst e1)
    subst e3
    rw [e2]
    have e4 : v = V.int p := congrArg Prod.snd e1
    rw [e4]
    rfl
theorem cs_cutAB {z : Str} {a b : Nat} (hab : a ≤ b) (hb : b ≤ z.length) : cs (cutS z (some (a : Int)) (some (b : Int))) = ((cs z).take b).drop a := by
  have e1 : min a z.length = a := by omega
  have e2 : min b z.length = b := by omega
  rw [cs_cut, sIx_pos (by omega), sIx_pos (by omega), Int.toNat_natCast, Int.toNat_natCast, List.drop_take, e1, e2]
theorem cs_cutFrom {z : Str} {a : Nat} (h : a ≤ z.length) : cs (cutS z (some (a : Int)) none) = (cs z).drop a := by
  rw [cs_cut, sIx_pos (by omega), Int.toNat_natCast]
  have e : min a z.length = a := by omega
  rw [e]
  show ((cs z).drop a).take (z.length - a) = _
  exact List.take_of_length_le (by rw [List.length_drop, cs_len]; omega)
theorem max0 (n : Nat) : (if (n : Int) - 5 > 0 then (n : Int) - 5 else 0) = ((n - 5 : Nat) : Int) := by split <;> omega
/-- _law_least, of a dict that is locked or not -/
def spLawLeast : Sp := fun vs H Q _ => ∃ d kvs z, vs = [.ref d, .str z] ∧ Rd H d (.dK kvs) ∧ Tar kvs ∧ Over (tfD kvs) (cs z) ∧ z.length ≤ 10000 ∧ ∀ H', Same H H' → Q (.int (lp (tfD kvs) (cs z))) H'
theorem fm_range_succ {α : Type} {g : Nat → Option α} {j : Nat} : (List.range (j + 1)).filterMap g = (List.range j).filterMap g ++ (g j).toList := by
  rw [List.range_succ, List.filterMap_append]
  congr 1
theorem rd_same {H H' : Hp} {d : Addr} {u : HO} (r : Rd H d u) (s : Same H H') : Rd H' d u := by
  rcases r with h | ⟨od, h⟩
  · exact .inl (s _ _ h)
  · exact .inr ⟨od, s _ _ h⟩
/-! ### tables of cheapest prices -/
structure TblOk (F : Tf) (S : Str → Prop) (kf : List (Key × V)) : Prop where
  val : ∀ z, S z → valV kf (Sum.inr z) = some (.int (lp F (cs z)))
  key : ∀ kv ∈ kf, ∃ z, kv.1 = Sum.inr z ∧ S z
theorem TblOk.congr {F : Tf} {S S' : Str → Prop} {kf : List (Key × V)} (T : TblOk F S kf) (h : ∀ z, S z ↔ S' z) : TblOk F S' kf :=
  ⟨fun z hz => T.val z ((h z).mpr hz), fun kv hkv => (T.key kv hkv).imp fun z q => ⟨q.1, (h z).mp q.2⟩⟩
theorem put_mem {kvs : List (Key × V)} {k : Key} {v : V} {kv : Key × V} (h : kv ∈ putK kvs k v) : kv.1 = k ∨ kv ∈ kvs := by
  unfold putK at h
  by_cases q : (kvs.any fun kv => decide (kv.1 = k)) = true
  · rw [if_pos q] at h
    obtain ⟨x, hx, rfl⟩ := List.mem_map.mp h
    by_cases e : x.1 = k
    · rw [if_pos e]
      exact Or.inl e
    · rw [if_neg e]
      exact Or.inr hx
  · rw [if_neg q] at h
    rcases List.mem_append.mp h with h | h
    · exact Or.inr h
    · rw [List.mem_singleton.mp h]
      exact Or.inl rfl
theorem put_len {kvs : List (Key × V)} {k : Key} {v : V} : (putK kvs k v).length ≤ kvs.length + 1 := by
  unfold putK
  split
  · rw [List.length_map]
    omega
  · rw [List.length_append]
    exact Nat.le_refl _
theorem TblOk.put {F : Tf} {S : Str → Prop} {kf : List (Key × V)} (T : TblOk F S kf) (y : Str) : TblOk F (fun z => S z ∨ z = y) (putK kf (Sum.inr y) (.int (lp F (cs y)))) := by
  refine ⟨fun z hz => ?_, fun kv hkv => ?_⟩
  · rw [valV_put]
    by_cases e : z = y
    · subst e
      rw [if_pos rfl]
    · rw [if_neg fun q => e (Sum.inr.inj q)]
      exact T.val z (hz.resolve_right e)
  · rcases put_mem hkv with h | h
    · exact ⟨y, h, Or.inr rfl⟩
    · obtain ⟨z, h1, h2⟩ := T.key kv h
      exact ⟨z, h1, Or.inl h2⟩
def tv (t : List Nat) : V := .str (sOf t)
def grow (sg : List Nat) (ts : List (List Nat)) : List (List Nat) := ts.flatMap fun t => sg.map fun c => t ++ [c]
def layerL (sg : List Nat) : Nat → List (List Nat)
  | 0 => [[]]
  | n + 1 => grow sg (layerL sg n)
theorem grow_len {sg : List Nat} : ∀ {ts : List (List Nat)}, (grow sg ts).length = ts.length * sg.length
  | [] => by simp [grow]
  | t :: r => by
    have ih := grow_len (sg := sg) (ts := r)
    unfold grow at ih ⊢
    rw [List.flatMap_cons, List.length_append, ih, List.length_map, List.length_cons, Nat.add_mul]
    omega
theorem layer_len {sg : List Nat} (n : Nat) : (layerL sg n).length = sg.length ^ n := by
  induction n with
  | zero => rfl
  | succ n ih => rw [layerL, grow_len, ih, Nat.pow_succ]
theorem layer_le {sg : List Nat} {n : Nat} (h4 : sg.length ≤ 4) (h8 : n ≤ 8) : (layerL sg n).length ≤ 65536 := by
  rw [layer_len]
  calc sg.length ^ n ≤ 4 ^ n := Nat.pow_le_pow_left h4 n
    _ ≤ 4 ^ 8 := Nat.pow_le_pow_right (by decide) h8
    _ = 65536 := by decide
theorem layer_mem {sg : List Nat} : ∀ {n : Nat} {t : List Nat}, t ∈ layerL sg n ↔ t.length = n ∧ ∀ c ∈ t, c ∈ sg
  | 0, t => by
    show t ∈ [[]] ↔ _
    rw [List.mem_singleton]
    constructor
    · rintro rfl
      exact ⟨rfl, fun _ h => (List.not_mem_nil h).elim⟩
    · rintro ⟨h, _⟩
      exact List.eq_nil_of_length_eq_zero h
  | n + 1, t => by
    show t ∈ grow sg (layerL sg n) ↔ _
    unfold grow
    rw [List.mem_flatMap]
    constructor
    · rintro ⟨u, hu, h⟩
      obtain ⟨c, hc, rfl⟩ := List.mem_map.mp h
      obtain ⟨h1, h2⟩ := layer_mem.mp hu
      refine ⟨by rw [List.length_append, h1]; rfl, fun d hd => ?_⟩
      rcases List.mem_append.mp hd with q | q
      · exact h2 d q
      · rw [List.mem_singleton.mp q]
        exact hc
    · rintro ⟨h1, h2⟩
      have ne : t ≠ [] := fun e => by
        rw [e] at h1
        cases h1
      refine ⟨t.dropLast, layer_mem.mpr ⟨by rw [List.length_dropLast, h1]; rfl, fun c hc => h2 c (List.dropLast_subset t hc)⟩, List.mem_map.mpr ⟨t.getLast ne, h2 _ (List.getLast_mem ne), List.dropLast_concat_getLast ne⟩⟩
def InAll (sg : List Nat) (n : Nat) (z : Str) : Prop := (cs z).length ≤ n ∧ ∀ c ∈ cs z, c ∈ sg
theorem inAll_zero {F : Tf} {sg : List Nat} (G : Good F) : TblOk F (InAll sg 0) [(Sum.inr (sOf []), .int 0)] := by
  refine ⟨fun z hz => ?_, fun kv hkv => ?_⟩
  · have e : z = sOf [] := str_ext (List.eq_nil_of_length_eq_zero (Nat.le_zero.mp hz.1))
    rw [e, valV_pos rfl, cs_sOf, lp_nil G]
  · rw [List.mem_singleton.mp hkv]
    exact ⟨_, rfl, Nat.le_refl _, fun c h => (List.not_mem_nil (a := c) h).elim⟩
theorem inAll_succ {sg : List Nat} {n : Nat} {z : Str} : InAll sg n z ∨ z ∈ (layerL sg (n + 1)).map sOf ↔ InAll sg (n + 1) z := by
  constructor
  · rintro (⟨h1, h2⟩ | h)
    · exact ⟨by omega, h2⟩
    · obtain ⟨t, ht, rfl⟩ := List.mem_map.mp h
      obtain ⟨h1, h2⟩ := layer_mem.mp ht
      exact ⟨by rw [cs_sOf]; omega, by rw [cs_sOf]; exact h2⟩
  · rintro ⟨h1, h2⟩
    rcases Nat.lt_or_ge n (cs z).length with h | h
    · exact Or.inr (List.mem_map.mpr ⟨cs z, layer_mem.mpr ⟨by omega, h2⟩, sOf_cs z⟩)
    · exact Or.inl ⟨h, h2⟩
theorem grow_take {sg : List Nat} {ts : List (List Nat)} {j : Nat} {t : List Nat} (h : ts[j]? = some t) : grow sg (ts.take (j + 1)) = grow sg (ts.take j) ++ sg.map fun c => t ++ [c] := by
  rw [List.take_add_one, h]
  unfold grow
  rw [List.flatMap_append]
  simp
theorem emp : Str.ofString "" = sOf [] := str_ext (by rfl)
theorem tv_at {ts : List (List Nat)} {j : Nat} {x : V} (h : (ts.map tv)[j]? = some x) : ∃ t, ts[j]? = some t ∧ x = tv t := by
  rw [List.getElem?_map] at h
  cases e : ts[j]? with
  | none =>
    rw [e] at h
    cases h
  | some t =>
    rw [e] at h
    exact ⟨t, rfl, (Option.some.inj h).symm⟩
theorem tv_app (t : List Nat) (c : Nat) : V.str (sOf t ++ ch c) = tv (t ++ [c]) := by
  unfold tv
  congr 1
  exact str_ext (by rw [cs_app, cs_sOf, cs_sOf])
theorem tbl_take {F : Tf} {S : Str → Prop} {kf : List (Key × V)} {ts : List (List Nat)} {j : Nat} {t : List Nat} (h : ts[j]? = some t) (T : TblOk F (fun z => S z ∨ z ∈ (ts.take j).map sOf) kf) :
    TblOk F (fun z => S z ∨ z ∈ (ts.take (j + 1)).map sOf) (putK kf (Sum.inr (sOf t)) (.int (lp F t))) := by
  have h1 := T.put (sOf t)
  rw [cs_sOf] at h1
  refine h1.congr fun z => ?_
  rw [List.take_add_one, h, List.map_append, List.mem_append]
  show (S z ∨ _) ∨ z = sOf t ↔ S z ∨ _ ∨ z ∈ [sOf t]
  rw [List.mem_singleton, or_assoc]
/-- _law_all -/
def spAll (K : PySem.W.Frag) : Sp := fun vs H Q _ => ∃ d kvs sa sg n, vs = [.ref d, .ref sa, .int ((n : Nat) : Int)] ∧ H d = some (.dK kvs) ∧ Tar kvs ∧ SqL K H sa (sg.map chV) ∧ (∀ c ∈ sg, ∃ p, tfD kvs (ch c) = some p) ∧ sg.length ≤ 4 ∧ n ≤ 8 ∧
  ∀ fo kf H', H fo = none → H' fo = some (.dK kf) → TblOk (tfD kvs) (InAll sg n) kf → kf.length ≤ 600000 → Same H H' → Q (.ref fo) H'
/-! ### dicts of prices while they are made -/
theorem keys_nd' {kvs : List (Key × V)} (nd : (kvs.map (·.1)).Nodup) (al : (kvs.all fun kv => isPiece (kV kv.1) && isPrice kv.2) = true) : (keyStrs kvs).Nodup := by
  rw [keys_of al] at nd
  exact nd_of_map nd
structure PrOk (sg : List Nat) (kvs : List (Key × V)) : Prop where
  mem : ∀ kv ∈ kvs, ∃ z p, kv = (Sum.inr z, V.int p) ∧ (1 ≤ (cs z).length ∧ (cs z).length ≤ 5) ∧ (∀ c ∈ cs z, c ∈ sg) ∧ 1 ≤ p ∧ p ≤ 99
  nd : (kvs.map (·.1)).Nodup
theorem PrOk.nil {sg : List Nat} : PrOk sg [] := ⟨fun _ h => (List.not_mem_nil h).elim, List.nodup_nil⟩
theorem put_keys {kvs : List (Key × V)} {k : Key} {v : V} : (putK kvs k v).map (·.1) = if (valV kvs k).isSome = true then kvs.map (·.1) else kvs.map (·.1) ++ [k] := by
  unfold putK
  rw [valV_any]
  split
  · rw [List.map_map]
    refine List.map_congr_left fun kv _ => ?_
    show (if kv.1 = k then (kv.1, v) else kv).1 = kv.1
    split <;> rfl
  · rw [List.map_append]
    rfl
theorem put_val_mem {kvs : List (Key × V)} {k : Key} {v : V} {kv : Key × V} (h : kv ∈ putK kvs k v) : kv = (k, v) ∨ kv ∈ kvs := by
  unfold putK at h
  by_cases q : (kvs.any fun kv => decide (kv.1 = k)) = true
  · rw [if_pos q] at h
    obtain ⟨x, hx, rfl⟩ := List.mem_map.mp h
    by_cases e : x.1 = k
    · rw [if_pos e, e]
      exact Or.inl rfl
    · rw [if_neg e]
      exact Or.inr hx
  · rw [if_neg q] at h
    rcases List.mem_append.mp h with h | h
    · exact Or.inr h
    · exact Or.inl (List.mem_singleton.mp h)
theorem PrOk.put {sg : List Nat} {kvs : List (Key × V)} (P : PrOk sg kvs) {z : Str} {p : Int} (h1 : 1 ≤ (cs z).length ∧ (cs z).length ≤ 5) (h2 : ∀ c ∈ cs z, c ∈ sg) (h3 : 1 ≤ p ∧ p ≤ 99) : PrOk sg (putK kvs (Sum.inr z) (.int p)) := by
  refine ⟨fun kv hkv => ?_, ?_⟩
  · rcases put_val_mem hkv with h | h
    · exact ⟨z, p, h, h1, h2, h3⟩
    · exact P.mem kv h
  · rw [put_keys]
    split
    · exact P.nd
    · rename_i q
      refine List.nodup_append.mpr ⟨P.nd, by simp, fun a ha b hb e => ?_⟩
      rw [List.mem_singleton.mp hb] at e
      rw [e] at ha
      refine q ?_
      cases e2 : valV kvs (Sum.inr z : Key) with
      | none => exact absurd ha (valV_not e2)
      | some v => rfl
theorem PrOk.merge {sg : List Nat} : ∀ {more kvs : List (Key × V)}, PrOk sg kvs → (∀ kv ∈ more, ∃ z p, kv = (Sum.inr z, V.int p) ∧ (1 ≤ (cs z).length ∧ (cs z).length ≤ 5) ∧ (∀ c ∈ cs z, c ∈ sg) ∧ 1 ≤ p ∧ p ≤ 99) →
    PrOk sg (mergeK kvs more) ∧ (mergeK kvs more).length ≤ kvs.length + more.length
  | [], kvs, P, _ => ⟨P, Nat.le_refl _⟩
  | a :: r, kvs, P, h => by
    obtain ⟨z, p, rfl, h1, h2, h3⟩ := h a List.mem_cons_self
    obtain ⟨q1, q2⟩ := PrOk.merge (more := r) (P.put h1 h2 h3) fun kv hkv => h kv (List.mem_cons_of_mem _ hkv)
    refine ⟨q1, Nat.le_trans q2 ?_⟩
    have := put_len (kvs := kvs) (k := Sum.inr z) (v := .int p)
    rw [List.length_cons]
    omega
theorem merge_has {k : Key} : ∀ {more kvs : List (Key × V)}, (k ∈ more.map (·.1) ∨ (valV kvs k).isSome = true) → (valV (mergeK kvs more) k).isSome = true
  | [], kvs, h => by
    rcases h with h | h
    · simp at h
    · exact h
  | a :: r, kvs, h => by
    refine merge_has (more := r) (kvs := putK kvs a.1 a.2) ?_
    rw [valV_put]
    by_cases e : k = a.1
    · exact Or.inr (by rw [if_pos e]; rfl)
    · rw [if_neg e]
      rcases h with h | h
      · rcases List.mem_cons.mp h with h | h
        · exact absurd h e
        · exact Or.inl h
      · exact Or.inr h
theorem nd_sub_len {α : Type} [BEq α] [LawfulBEq α] : ∀ {l1 l2 : List α}, l1.Nodup → (∀ a ∈ l1, a ∈ l2) → l1.length ≤ l2.length
  | [], _, _, _ => Nat.zero_le _
  | a :: r, l2, nd, h => by
    obtain ⟨h1, h2⟩ := List.nodup_cons.mp nd
    have h3 := nd_sub_len (l1 := r) (l2 := l2.erase a) h2 fun b hb => by
      have nb : b ≠ a := fun e => h1 (e ▸ hb)
      exact (List.mem_erase_of_ne nb).mpr (h b (List.mem_cons_of_mem _ hb))
    have h4 := h a List.mem_cons_self
    rw [List.length_erase_of_mem h4] at h3
    have := List.length_pos_of_mem h4
    rw [List.length_cons]
    omega
theorem PrOk.tf {sg : List Nat} {kvs : List (Key × V)} (P : PrOk sg kvs) {z : Str} : z ∈ keyStrs kvs ↔ ∃ p, tfD kvs z = some p := by
  rw [ks_mem]
  constructor
  · intro h
    obtain ⟨kv, hkv, e⟩ := List.mem_map.mp h
    obtain ⟨y, p, rfl, _⟩ := P.mem kv hkv
    have h2 := val_nodup P.nd _ hkv
    dsimp only at e h2
    cases e
    exact ⟨p, tf_some.mpr h2⟩
  · rintro ⟨p, h⟩
    exact valV_in (tf_some.mp h)
/-- a dict of prices over the signs sg, all of them in it -/
theorem PrOk.right {sg : List Nat} {kvs : List (Key × V)} (P : PrOk sg kvs) (hs : ∀ c ∈ sg, (valV kvs (Sum.inr (ch c))).isSome = true) (hl : ∀ c ∈ sg, lett c = true) (n4 : sg.length ≤ 4) (n0 : 1 ≤ sg.length) (n12 : kvs.length ≤ 12) :
    arePrices kvs = true ∧ ∀ c, (∃ p, tfD kvs (ch c) = some p) ↔ c ∈ sg := by
  have al : (kvs.all fun kv => isPiece (kV kv.1) && isPrice kv.2) = true := by
    rw [List.all_eq_true]
    intro kv hkv
    obtain ⟨z, p, rfl, h1, h2, h3⟩ := P.mem kv hkv
    rw [Bool.and_eq_true]
    refine ⟨?_, ?_⟩
    · show isPiece (.str z) = true
      rw [isPiece_of fun c hc => hl c (h2 c hc), decide_eq_true h1.1, decide_eq_true h1.2]
      rfl
    · show (decide (p.natAbs < 10 ^ 60) && (decide (1 ≤ p) && decide (p ≤ 99))) = true
      rw [decide_eq_true (by omega : p.natAbs < 10 ^ 60), decide_eq_true h3.1, decide_eq_true h3.2]
      rfl
  have key : ∀ {z}, z ∈ keyStrs kvs → (∀ c ∈ cs z, c ∈ sg) := by
    intro z hz
    obtain ⟨kv, hkv, e⟩ := List.mem_map.mp (ks_mem.mp hz)
    obtain ⟨y, p, rfl, _, h2, _⟩ := P.mem kv hkv
    dsimp only at e
    cases e
    exact h2
  refine ⟨?_, fun c => ⟨fun ⟨p, h⟩ => key (ks_mem.mpr (valV_in (tf_some.mp h))) c (by simp [cs]), fun h => ?_⟩⟩
  · unfold arePrices
    have e1 : 1 ≤ kvs.length := by
      cases sg with
      | nil => simp at n0
      | cons c r =>
        have := hs c List.mem_cons_self
        cases kvs with
        | nil => cases this
        | cons a r => simp
    have e3 : ((keyStrs kvs).filter fun z => decide ((cs z).length = 1)).length ≤ 4 := by
      refine Nat.le_trans (nd_sub_len (l2 := sg.map ch) ((keys_nd' P.nd al).filter _) fun z hz => ?_) (by rw [List.length_map]; exact n4)
      obtain ⟨h1, h2⟩ := List.mem_filter.mp hz
      obtain ⟨c, rfl⟩ := G.one_sign (z := z) (by simpa using h2)
      exact List.mem_map.mpr ⟨c, key h1 c (by simp [cs]), rfl⟩
    have e4 : (((keyStrs kvs).map cs).flatten.all fun c => (valV kvs (Sum.inr (ch c))).isSome) = true := by
      rw [List.all_eq_true]
      intro c hc
      obtain ⟨l, hl, hcl⟩ := List.mem_flatten.mp hc
      obtain ⟨z, hz, rfl⟩ := List.mem_map.mp hl
      exact hs c (key hz c hcl)
    rw [decide_eq_true (by omega : 1 ≤ (kvs.length : Int)), decide_eq_true (by omega : (kvs.length : Int) ≤ 12), al, decide_eq_true e3, e4]
    rfl
  · have h1 := hs c h
    cases e : valV kvs (Sum.inr (ch c) : Key) with
    | none =>
      rw [e] at h1
      cases h1
    | some v =>
      have h2 := P.tf.mp (ks_mem.mpr (valV_in e))
      exact h2
theorem kp_free {l a : Addr} {H H' : Hp} (k : Kp l H H') (n : a ≠ l) (h : H' a = none) : H a = none := by
  cases e : H a with
  | none => rfl
  | some o =>
    rw [k a o e n] at h
    cases h
theorem paired_of {α β : Type} {F : α → β → Prop} : ∀ {ps : List (α × β)}, (∀ p ∈ ps, F p.1 p.2) → Paired F (ps.map (·.1)) (ps.map (·.2))
  | [], _ => .nil
  | p :: r, h => .cons (h p List.mem_cons_self) (paired_of fun q hq => h q (List.mem_cons_of_mem _ hq))
theorem lift_map {α : Type} {f : α → V} {P : α → Prop} : ∀ {zs : List V}, (∀ v ∈ zs, ∃ w, v = f w ∧ P w) → ∃ ws : List α, zs = ws.map f ∧ ∀ w ∈ ws, P w
  | [], _ => ⟨[], rfl, fun _ h => (List.not_mem_nil h).elim⟩
  | v :: r, h => by
    obtain ⟨w, rfl, hw⟩ := h v List.mem_cons_self
    obtain ⟨ws, rfl, hws⟩ := lift_map (zs := r) fun u hu => h u (List.mem_cons_of_mem _ hu)
    refine ⟨w :: ws, rfl, fun u hu => ?_⟩
    rcases List.mem_cons.mp hu with rfl | hu
    · exact hw
    · exact hws u hu
def PairOk (sg : List Nat) (kv : Key × V) : Prop := ∃ z p, kv = (Sum.inr z, V.int p) ∧ (1 ≤ (cs z).length ∧ (cs z).length ≤ 5) ∧ (∀ c ∈ cs z, c ∈ sg) ∧ 1 ≤ p ∧ p ≤ 99
/-- a word of the menu -/
def Word (sg w : List Nat) : Prop := 2 ≤ w.length ∧ w.length ≤ 5 ∧ ∀ c ∈ w, c ∈ sg
theorem Word.piece {sg w : List Nat} (h : Word sg w) : (1 ≤ (cs (sOf w)).length ∧ (cs (sOf w)).length ≤ 5) ∧ ∀ c ∈ cs (sOf w), c ∈ sg := by
  obtain ⟨h1, h2, h3⟩ := h
  rw [cs_sOf]
  exact ⟨⟨by omega, h2⟩, h3⟩
/-! ### what is sorted -/
theorem so_pw : ∀ {ys : List Str}, sortedS ys = true → ys.Pairwise fun a b => cs a ≤ cs b
  | [], _ => .nil
  | [x], _ => by simp
  | x :: y :: r, h => by
    have h' : (!ltCps y.cps.toList x.cps.toList && risingS y r) = true := h
    rw [Bool.and_eq_true] at h'
    have ih := so_pw (ys := y :: r) h'.2
    have h1 : cs x ≤ cs y := by
      have h2 := h'.1
      rw [ltCps_eq] at h2
      exact List.not_lt.mp (by simpa using h2)
    refine List.Pairwise.cons (fun b hb => ?_) ih
    rcases List.mem_cons.mp hb with rfl | hb
    · exact h1
    · exact List.le_trans h1 ((List.pairwise_cons.mp ih).1 b hb)
theorem so_eq {ys zs : List Str} (h1 : ys.Pairwise fun a b => cs a ≤ cs b) (h2 : zs.Pairwise fun a b => cs a ≤ cs b) (p : ys.Perm zs) : ys = zs := p.eq_of_pairwise (fun a b _ _ h k => str_ext (List.le_antisymm h k)) h1 h2
def SameSigns (F1 F2 : Tf) : Prop := ∀ c, (∃ p, F1 (ch c) = some p) ↔ ∃ p, F2 (ch c) = some p
theorem sgn_ps {kvs : List (Key × V)} {ys : List Str} : sgn (psOf kvs ys) = ys.filter fun z => decide (z.length = 1) := by
  unfold sgn psOf
  rw [List.map_map]
  congr 1
  exact List.map_id' ys
theorem tf_key {kvs : List (Key × V)} {z : Str} (al : (kvs.all fun kv => isPiece (kV kv.1) && isPrice kv.2) = true) : z ∈ keyStrs kvs ↔ ∃ p, tfD kvs z = some p :=
  ⟨fun h => ⟨_, tf_some.mpr (price_of_key al h).1⟩, fun ⟨p, h⟩ => ks_mem.mpr (valV_in (tf_some.mp h))⟩
theorem keys_nd {kvs : List (Key × V)} (al : (kvs.all fun kv => isPiece (kV kv.1) && isPrice kv.2) = true) (nd : (kvs.map (·.1)).Nodup) : (keyStrs kvs).Nodup := by
  rw [keys_of al] at nd
  exact nd_of_map nd
theorem sgn_eq {kvs1 kvs2 : List (Key × V)} {ys1 ys2 : List Str} (al1 : (kvs1.all fun kv => isPiece (kV kv.1) && isPrice kv.2) = true) (al2 : (kvs2.all fun kv => isPiece (kV kv.1) && isPrice kv.2) = true)
    (nd1 : (kvs1.map (·.1)).Nodup) (nd2 : (kvs2.map (·.1)).Nodup) (pm1 : ys1.Perm (keyStrs kvs1)) (pm2 : ys2.Perm (keyStrs kvs2)) (so1 : sortedS ys1 = true) (so2 : sortedS ys2 = true) (ss : SameSigns (tfD kvs1) (tfD kvs2)) :
    sgn (psOf kvs1 ys1) = sgn (psOf kvs2 ys2) := by
  rw [sgn_ps, sgn_ps]
  refine so_eq ((so_pw so1).filter _) ((so_pw so2).filter _) ?_
  refine (List.perm_ext_iff_of_nodup ((pm1.nodup_iff.mpr (keys_nd al1 nd1)).filter _) ((pm2.nodup_iff.mpr (keys_nd al2 nd2)).filter _)).mpr fun z => ?_
  rw [List.mem_filter, List.mem_filter, pm1.mem_iff, pm2.mem_iff, tf_key al1, tf_key al2]
  constructor
  · rintro ⟨h1, h2⟩
    obtain ⟨c, rfl⟩ := one_sign (z := z) (by rw [cs_len]; simpa using h2)
    exact ⟨(ss c).mp h1, h2⟩
  · rintro ⟨h1, h2⟩
    obtain ⟨c, rfl⟩ := one_sign (z := z) (by rw [cs_len]; simpa using h2)
    exact ⟨(ss c).mpr h1, h2⟩
/-! ### tuples of texts as data -/
theorem dpAll_strs {K : PySem.W.Frag} {H : Hp} : ∀ zs : List Str, DpAll K H (zs.map V.str) (zs.map PyData.str)
  | [] => .nil
  | z :: r => .cons (.str z) (dpAll_strs r)
theorem strOk_lett {z : Str} (h : ∀ c ∈ cs z, lett c = true) : PyData.strOk z = true := by
  show z.cps.all (fun c => decide (c < 0x110000)) = true
  rw [Array.all_eq_true_iff_forall_mem]
  intro c hc
  have h1 := h c (by simpa [cs] using hc)
  unfold lett at h1
  rw [Bool.and_eq_true] at h1
  have := of_decide_eq_true h1.2
  exact decide_eq_true (by omega)
theorem shaped_strs {zs : List Str} (h : ∀ z ∈ zs, ∀ c ∈ cs z, lett c = true) : SeqAt.shaped (.tuple (zs.map PyData.str)) = true := by
  have h1 : ∀ l : List Str, (∀ z ∈ l, ∀ c ∈ cs z, lett c = true) → PyData.canLayAll0 (l.map PyData.str) = true := by
    intro l hl
    induction l with
    | nil => rfl
    | cons a r ih => simp [PyData.canLayAll0, PyData.canLay0, strOk_lett (hl a List.mem_cons_self), ih fun z hz => hl z (List.mem_cons_of_mem _ hz)]
  have h2 : ∀ l : List Str, PyData.depthAll (l.map PyData.str) = 0 := by
    intro l
    induction l with
    | nil => simp [PyData.depthAll]
    | cons a r ih => simp [PyData.depthAll, PyData.depth, ih]
  unfold SeqAt.shaped
  rw [Bool.and_eq_true]
  refine ⟨by simpa [PyData.canLay0] using h1 zs h, decide_eq_true ?_⟩
  simp only [PyData.depth, h2]
  omega
theorem eqv_strs {zs : List Str} (h : ∀ z ∈ zs, ∀ c ∈ cs z, lett c = true) : PyData.eqv (.tuple (zs.map PyData.str)) (.tuple (zs.map PyData.str)) = true :=
  SeqAt.eqv_refl _ (SeqAt.canLay_of_shaped (shaped_strs h))
/-! ### promises of cutbehind.base.compared -/
def NoDear (F1 F2 : Tf) : Prop := ∀ z p, F2 z = some p → lp F1 (cs z) ≤ p
/-- what dearer_in returns -/
def DearR (F1 F2 : Tf) (r : V) : Prop := (r = .non ∧ NoDear F1 F2) ∨ ∃ z p, r = .str z ∧ F2 z = some p ∧ p < lp F1 (cs z) ∧ ∀ z' p', F2 z' = some p' → cs z' < cs z → lp F1 (cs z') ≤ p'
def spReqBook (C : Addr) : Sp := fun vs H Q _ => ∃ b dx fs, vs = [.ref b] ∧ H b = some (.ins C dx fs) ∧ Q .non H
def Two (C : Addr) (H : Hp) (vs : List V) (k1 k2 : List (Key × V)) : Prop := ∃ b1 b2, vs = [.ref b1, .ref b2] ∧ Book1 C H b1 k1 ∧ Book1 C H b2 k2 ∧ SameSigns (tfD k1) (tfD k2)
def spReqCmp (C : Addr) : Sp := fun vs H Q _ => ∃ k1 k2, Two C H vs k1 k2 ∧ ∀ H', Same H H' → Q .non H'
def spDearer (C : Addr) : Sp := fun vs H Q _ => ∃ k1 k2, Two C H vs k1 k2 ∧ ∀ r H', Same H H' → DearR (tfD k1) (tfD k2) r → Q r H'
def spNowhere (C : Addr) : Sp := fun vs H Q _ => ∃ k1 k2, Two C H vs k1 k2 ∧ ∀ b H', Same H H' → (b = true ↔ NoDear (tfD k1) (tfD k2)) → Q (.bl b) H'
def spAsCheap (C : Addr) : Sp := fun vs H Q _ => ∃ k1 k2, Two C H vs k1 k2 ∧ ∀ b H', Same H H' → (b = true ↔ NoDear (tfD k1) (tfD k2) ∧ NoDear (tfD k2) (tfD k1)) → Q (.bl b) H'
theorem dear_non {F1 F2 : Tf} {r : V} (d : DearR F1 F2 r) : decide (r = .non) = true ↔ NoDear F1 F2 := by
  rw [decide_eq_true_eq]
  rcases d with ⟨h1, h2⟩ | ⟨z, p, h1, h2, h3, _⟩
  · exact ⟨fun _ => h2, fun _ => h1⟩
  · refine ⟨fun e => ?_, fun n => ?_⟩
    · rw [h1] at e
      cases e
    · have := n z p h2
      omega
theorem SameSigns.symm {F1 F2 : Tf} (h : SameSigns F1 F2) : SameSigns F2 F1 := fun c => (h c).symm
/-! ### lists of texts as data; heaps with a lock -/
theorem shaped_lstrs {zs : List Str} (h : ∀ z ∈ zs, ∀ c ∈ cs z, lett c = true) : SeqAt.shaped (.list (zs.map PyData.str)) = true := by
  have h1 := shaped_strs h
  unfold SeqAt.shaped at h1 ⊢
  simpa [PyData.canLay0, PyData.depth] using h1
theorem eqv_nil (zs : List Str) : PyData.eqv (.list (zs.map PyData.str)) (.list []) = zs.isEmpty := by cases zs <;> simp [PyData.eqv, PyData.eqvAll]
theorem rd_lock {H : Hp} {a b : Addr} {u v : HO} {od : Obj} (h : H a = some u) (k : H b = some v) : Rd (upd H b (.frz od v)) a u := by
  by_cases e : a = b
  · subst e
    rw [h] at k
    cases k
    exact .inr ⟨od, upd_same⟩
  · exact .inl (by rw [upd_ne e]; exact h)
theorem repr_bool {K : PySem.W.Frag} {H : Hp} {b : Bool} {Q : VK} (q : Q (.str (PyData.bool b).shown) H) : rRepr K [.bl b] H Q :=
  ⟨_, .bool b, rfl, .bl b, (shw_bool b).s, (shw_bool b).h, Nat.le_trans (shw_bool b).dp (by omega), Nat.le_trans (shw_bool b).len (fits_sz (by omega)), q⟩
/-- x == [] for a list of texts -/
theorem eq_nil {K : PySem.W.Frag} {H : Hp} {a p : Addr} {zs : List Str} {Q : VK} (h : SqL K H a (zs.map V.str)) (hp : H p = some (.lst [])) (hl : ∀ z ∈ zs, ∀ c ∈ cs z, lett c = true) (q : Q (.bl zs.isEmpty) H) : rEqD K (.ref a) (.ref p) H Q := by
  refine ⟨.list (zs.map PyData.str), .list [], .lst h (dpAll_strs zs), .lst (SqL.of hp) .nil, shaped_lstrs hl, by decide, ?_⟩
  rw [eqv_nil]
  exact q
/-! ### books under changes of lists; which texts are dearer -/
theorem Book1.keep {C : Addr} {H H' : Hp} {b : Addr} {kvs : List (Key × V)} (B : Book1 C H b kvs) (h : ∀ a o, H a = some o → (∀ xs, o ≠ .lst xs) → H' a = some o) : Book1 C H' b kvs := by
  obtain ⟨ys, L, M, dx, d, tp, ta, od, h1, h2, A⟩ := B.ex
  exact ⟨B.av, B.nd, ys, L, M, dx, d, tp, ta, od, h1, h2, h _ _ A.ob (fun _ e => by cases e), h _ _ A.dc (fun _ e => by cases e), h _ _ A.pi (fun _ e => by cases e), h _ _ A.al (fun _ e => by cases e), A.lo, A.de⟩
theorem Book1.updL {C : Addr} {H : Hp} {a b : Addr} {kvs : List (Key × V)} {xs : List V} {o : HO} (B : Book1 C H b kvs) (h : H a = some (.lst xs)) : Book1 C (upd H a o) b kvs :=
  B.keep fun c u e n => by
    rw [upd_ne fun q => ?_]
    · exact e
    · rw [q, h] at e
      exact n xs (Option.some.inj e).symm
theorem Book1.kp {C : Addr} {H H' : Hp} {l b : Addr} {kvs : List (Key × V)} {n : Nat} (B : Book1 C H b kvs) (D : Dice H l n) (k : Kp l H H') : Book1 C H' b kvs := by
  obtain ⟨d0, d1, d2, h, _⟩ := D
  refine B.keep fun c u e n => k c u e fun q => ?_
  rw [q, h] at e
  exact n _ (Option.some.inj e).symm
noncomputable def dearG (F1 F2 : Tf) : Key × V → Option Str := fun kv => match kv.1 with
  | .inr z => if lp F2 (cs z) < lp F1 (cs z) then some z else none
  | .inl _ => none
theorem Tar.mono {k1 k2 : List (Key × V)} (t1 : Tar k1) (t2 : Tar k2) (ss : SameSigns (tfD k1) (tfD k2)) (h : NoDear (tfD k1) (tfD k2)) {l : List Nat} (o : Over (tfD k1) l) : lp (tfD k1) l ≤ lp (tfD k2) l :=
  lp_mono t1.good t2.good (fun z p hz => ⟨fun c hc => (ss c).mpr (t2.good.cov z p hz c hc), h z p hz⟩) o fun c hc => (ss c).mp (o c hc)
theorem dear_iff {k1 k2 kf : List (Key × V)} {S : Str → Prop} (T : TblOk (tfD k1) S kf) (t1 : Tar k1) (t2 : Tar k2) (ss : SameSigns (tfD k1) (tfD k2)) (hS : ∀ z, S z → Over (tfD k1) (cs z)) (hk : ∀ z p, tfD k2 z = some p → S z) :
    kf.filterMap (dearG (tfD k1) (tfD k2)) = [] ↔ NoDear (tfD k1) (tfD k2) := by
  rw [List.filterMap_eq_nil_iff]
  constructor
  · intro h z p hz
    have h1 := h _ (valV_mem (T.val z (hk z p hz)))
    have h2 : (if lp (tfD k2) (cs z) < lp (tfD k1) (cs z) then some z else none) = none := h1
    have h3 := lp_piece t2.good hz
    by_cases q : lp (tfD k2) (cs z) < lp (tfD k1) (cs z)
    · rw [if_pos q] at h2
      cases h2
    · omega
  · intro n kv hkv
    obtain ⟨z, ez, hz⟩ := T.key kv hkv
    unfold dearG
    rw [ez]
    show (if lp (tfD k2) (cs z) < lp (tfD k1) (cs z) then some z else none) = none
    have := t1.mono t2 ss n (hS z hz)
    rw [if_neg (by omega)]
theorem nodear_trans {k0 k1 k2 : List (Key × V)} (t0 : Tar k0) (t1 : Tar k1) (t2 : Tar k2) (s01 : SameSigns (tfD k0) (tfD k1)) (s12 : SameSigns (tfD k1) (tfD k2)) (h : NoDear (tfD k0) (tfD k1)) (k : NoDear (tfD k1) (tfD k2)) : NoDear (tfD k0) (tfD k2) := by
  intro z p hz
  have h1 := k z p hz
  have h2 := t0.mono t1 s01 h (l := cs z) fun c hc => (s01 c).mpr ((s12 c).mpr (t2.good.cov z p hz c hc))
  omega
theorem nodear_self {k : List (Key × V)} (t : Tar k) : NoDear (tfD k) (tfD k) := fun z p hz => lp_piece t.good hz
theorem fm_str {α : Type} {g : α → Option Str} {l : List α} : l.filterMap (fun a => (g a).map V.str) = (l.filterMap g).map V.str := by
  rw [List.map_filterMap]
theorem tandv {ta tb : TE} {σ : L2.St} {H : Hp} {Q : VK} {a b : Bool} (ha : ∀ N : VK, N (.bl a) H → ta σ H N) (hb : ∀ N : VK, N (.bl b) H → tb σ H N) (q : Q (.bl (a && b)) H) : tAndV ta tb σ H Q := by
  refine ha _ ⟨a, rfl, ?_⟩
  refine itB (fun e => hb _ ?_) (fun e => ?_)
  · rw [e] at q
    exact q
  · rw [e] at q
    exact q
/-! ### the row of prices_along -/
theorem best_end {F : Tf} {l : List Nat} {L : Nat} {m : Int} (G : Good F) (o : Over F l) (ne : l ≠ []) (hL : ∀ z p, F z = some p → (cs z).length ≤ L) (hm : ∃ s, s < l.length ∧ costF F l s = some m)
    (hb : ∀ s y, l.length - L ≤ s → s < l.length → costF F l s = some y → m ≤ y) : m = lp F l := by
  refine lp_step G o ne (ys := (List.range l.length).filterMap (costF F l)) ?_ ?_ ?_ ?_
  · intro y hy
    obtain ⟨s, hs, g⟩ := List.mem_filterMap.mp hy
    have g' : (F (sOf (l.drop s))).map (fun p => lp F (l.take s) + p) = some y := g
    cases e : F (sOf (l.drop s)) with
    | none =>
      rw [e] at g'
      cases g'
    | some p =>
      rw [e] at g'
      exact ⟨_, p, l.take s, e, by rw [cs_sOf, List.take_append_drop], (Option.some.inj g').symm⟩
  · intro z p a hp ha
    have hn := (G.len z p hp).1
    have hl := congrArg List.length ha
    rw [List.length_append] at hl
    refine List.mem_filterMap.mpr ⟨a.length, List.mem_range.mpr (by omega), ?_⟩
    unfold costF
    have e2 : l.drop a.length = cs z := by rw [ha, List.drop_left]
    have e3 : l.take a.length = a := by rw [ha, List.take_left]
    rw [e2, e3, sOf_cs, hp]
    rfl
  · obtain ⟨s, hs, e⟩ := hm
    exact List.mem_filterMap.mpr ⟨s, List.mem_range.mpr hs, e⟩
  · intro y hy
    obtain ⟨s, hs, g⟩ := List.mem_filterMap.mp hy
    have hs' := List.mem_range.mp hs
    refine hb s y ?_ hs' g
    have g' : (F (sOf (l.drop s))).map (fun p => lp F (l.take s) + p) = some y := g
    cases e : F (sOf (l.drop s)) with
    | none =>
      rw [e] at g'
      cases g'
    | some p =>
      have := hL _ _ e
      rw [cs_sOf, List.length_drop] at this
      omega
theorem maxN (n m : Nat) : (if (n : Int) - (m : Int) > 0 then (n : Int) - (m : Int) else 0) = ((n - m : Nat) : Int) := by split <;> omega
/-- prices_along -/
def spAlong (C : Addr) : Sp := fun vs H Q _ => ∃ b kvs z, vs = [.ref b, .str z] ∧ Book1 C H b kvs ∧ Over (tfD kvs) (cs z) ∧ z.length ≤ 10000 ∧ ∀ p H', H p = none → H' p = some (.lst (rowV (tfD kvs) (cs z) (z.length + 1))) → Same H H' → Q (.ref p) H'
/-! ### properties -/
structure HasP (P : Program) (w : World) (K : PySem.W.Frag) (mg : Str → Option Value) (base : Heap) (k : Nat) (C : Addr) (f : Str) (sp : Sp) : Prop where
  ex : ∃ p g fd, Cls K C ∧ PropOf K C f p g ∧ FnOk P w K mg base CX0 k g fd ["self"] sp ∧ Binds K fd ["self"] []
theorem pe_prp {X : Cx} {k j : Nat} {C : Addr} {f : Str} {sp : Sp} {e : Expr} {pos : Pos} {ta : TE} (c : HasP X.prog X.w X.K X.mg X.base k C f sp) (hr : Room j X.A) (hk : k + 1 ≤ j) (he : PE X e ta)
    (hab : attributeBase e f X.env (eval e X.env) = eval e X.env := by rfl) : PE X (.Attribute e f pos) (tProp C sp [] C8.E0 ta) := by
  obtain ⟨p, g, fd, hc, hp, F, hb⟩ := c.ex
  exact pe_prop he hc hp F (hr.mono hk) hb .nil pass0 hab
/-! ### texts over a book -/
theorem inV_str {z : Str} : ∀ {zs : List Str}, inV (.str z) (zs.map V.str) = decide (z ∈ zs)
  | [] => by simp [inV]
  | a :: r => by
    have ih := inV_str (z := z) (zs := r)
    unfold inV at ih ⊢
    rw [List.map_cons, List.any_cons, ih]
    have e : eqV (.str a) (.str z) = decide (z = a) := by
      by_cases h : z = a
      · subst h
        simp [eqV]
      · have h' : ¬ a = z := fun q => h q.symm
        simp [eqV, h, h']
    rw [e]
    by_cases h : z = a <;> simp [h]
theorem flat_strs (zs : List Str) : (zs.map V.str).all flatV = true := by
  rw [List.all_map, List.all_eq_true]
  intro z _
  rfl
theorem sgn_mem {kvs : List (Key × V)} {ys : List Str} (al : (kvs.all fun kv => isPiece (kV kv.1) && isPrice kv.2) = true) (pm : ys.Perm (keyStrs kvs)) {c : Nat} : ch c ∈ sgn (psOf kvs ys) ↔ ∃ p, tfD kvs (ch c) = some p := by
  rw [sgn_ps, List.mem_filter, pm.mem_iff, tf_key al]
  exact ⟨fun h => h.1, fun h => ⟨h, rfl⟩⟩
def overB (kvs : List (Key × V)) (z : Str) : Bool := isText (.str z) && (cs z).all fun c => (tfD kvs (ch c)).isSome
theorem overB_true {kvs : List (Key × V)} {z : Str} (h1 : isText (.str z) = true) (h2 : Over (tfD kvs) (cs z)) : overB kvs z = true := by
  unfold overB
  rw [h1, Bool.true_and, List.all_eq_true]
  intro c hc
  obtain ⟨p, hp⟩ := h2 c hc
  rw [hp]
  rfl
/-- is_text_over, accepts -/
def spTextOver (C : Addr) : Sp := fun vs H Q _ => ∃ b kvs z, vs = [.ref b, .str z] ∧ Book1 C H b kvs ∧ z.length ≤ 100000 ∧ ∀ H', Same H H' → Q (.bl (overB kvs z)) H'
/-- require_text -/
def spReqText (C : Addr) : Sp := fun vs H Q _ => ∃ b kvs z, vs = [.ref b, .str z] ∧ Book1 C H b kvs ∧ z.length ≤ 100000 ∧ overB kvs z = true ∧ ∀ H', Same H H' → Q .non H'
/-- prices -/
def spPrices (C : Addr) : Sp := fun vs H Q _ => ∃ b kvs, vs = [.ref b] ∧ Book1 C H b kvs ∧ ∀ p ys H', H p = none → ys.Perm (keyStrs kvs) → sortedS ys = true → H' p = some (.dK (kvOf (psOf kvs ys))) → Same H H' → Q (.ref p) H'
/-- least_price, of a dict that is not changed -/
def spLeastPrice : Sp := fun vs H Q _ => ∃ d od kvs z, vs = [.ref d, .str z] ∧ H d = some (.frz od (.dK kvs)) ∧ Tar kvs ∧ Over (tfD kvs) (cs z) ∧ z.length ≤ 10000 ∧ ∀ H', Same H H' → Q (.int (lp (tfD kvs) (cs z))) H'
theorem rNe_nil {K : PySem.W.Frag} {H : Hp} {a p : Addr} {zs : List Str} {Q : VK} (h : SqL K H a (zs.map V.str)) (hp : H p = some (.lst [])) (hl : ∀ z ∈ zs, ∀ c ∈ cs z, lett c = true) (q : Q (.bl (!zs.isEmpty)) H) : rNeD K (.ref a) (.ref p) H Q := by
  refine ⟨.list (zs.map PyData.str), .list [], .lst h (dpAll_strs zs), .lst (SqL.of hp) .nil, shaped_lstrs hl, by decide, ?_⟩
  rw [eqv_nil]
  exact q
end G
/-! Fronts, in plain Lean. -/
namespace G
open PySem PySem.Spec PyProof.Rows L2
def Wide (F : Tf) (L : Nat) : Prop := (∃ z p, F z = some p ∧ (cs z).length = L) ∧ ∀ z p, F z = some p → (cs z).length ≤ L
def frontW (L : Nat) (l : List Nat) : List Nat := l.drop (l.length - min (L - 1) l.length)
noncomputable def frontD (F : Tf) (L : Nat) (l : List Nat) : List Int := (List.range (min (L - 1) l.length)).map fun i => lp F (l.take (l.length - (i + 1))) - lp F l
def FrontAt (H : Hp) (t : Addr) (l : List Nat) (ds : List Int) : Prop := ∃ td, H t = some (.tup [.str (sOf l), .ref td]) ∧ H td = some (.tup (ds.map V.int))
theorem FrontAt.same {H H' : Hp} {t : Addr} {l : List Nat} {ds : List Int} (f : FrontAt H t l ds) (s : Same H H') : FrontAt H' t l ds := by
  obtain ⟨td, h1, h2⟩ := f
  exact ⟨td, s _ _ h1, s _ _ h2⟩
section
variable {F : Tf} {L : Nat} {l : List Nat} {ds : List Int} {c : Nat} {m : Int}
theorem frontW_len : (frontW L l).length = min (L - 1) l.length := by
  unfold frontW
  rw [List.length_drop]
  omega
theorem frontD_len : (frontD F L l).length = min (L - 1) l.length := by
  unfold frontD
  rw [List.length_map, List.length_range]
theorem frontD_at {i : Nat} (h : i < min (L - 1) l.length) : (frontD F L l)[i]? = some (lp F (l.take (l.length - (i + 1))) - lp F l) := by
  unfold frontD
  rw [List.getElem?_map, List.getElem?_range h]
  rfl
/-- 0 and the differences: what the row says by steps back -/
theorem ahead_at {i : Nat} (h : i ≤ min (L - 1) l.length) : ((0 : Int) :: frontD F L l)[i]? = some (lp F (l.take (l.length - i)) - lp F l) := by
  cases i with
  | zero =>
    show some (0 : Int) = _
    rw [Nat.sub_zero, List.take_length]
    simp
  | succ i =>
    show (frontD F L l)[i]? = _
    exact frontD_at (by omega)
/-- the change at a sign, of any front -/
def StepR (F : Tf) (l : List Nat) (ds : List Int) (c : Nat) (m : Int) : Prop :=
  (∃ z p a y, F z = some p ∧ l ++ [c] = a ++ cs z ∧ ((0 : Int) :: ds)[(cs z).length - 1]? = some y ∧ m = p + y) ∧ ∀ z p a y, F z = some p → l ++ [c] = a ++ cs z → ((0 : Int) :: ds)[(cs z).length - 1]? = some y → m ≤ p + y
theorem StepR.uniq {n : Int} (h : StepR F l ds c m) (k : StepR F l ds c n) : m = n := by
  obtain ⟨⟨z, p, a, y, h1, h2, h3, rfl⟩, h4⟩ := h
  obtain ⟨⟨z', p', a', y', k1, k2, k3, rfl⟩, k4⟩ := k
  have := h4 z' p' a' y' k1 k2 k3
  have := k4 z p a y h1 h2 h3
  omega
def stepW (L : Nat) (l : List Nat) (c : Nat) : List Nat := (l ++ [c]).drop (l.length + 1 - (L - 1))
def stepD (L : Nat) (l : List Nat) (ds : List Int) (c : Nat) (m : Int) : List Int := (((0 : Int) :: ds).map fun x => x - m).take (stepW L l c).length
theorem stepW_len : (stepW L l c).length = min (L - 1) (l.length + 1) := by
  unfold stepW
  rw [List.length_drop, List.length_append]
  show l.length + 1 - _ = _
  omega
/-- a piece at the end of the front's signs is one at the end of the text, and the other way about -/
theorem front_suffix {z : Str} {p : Int} (W : Wide F L) (G : Good F) (hz : F z = some p) : (∃ a, frontW L l ++ [c] = a ++ cs z) ↔ ∃ a, l ++ [c] = a ++ cs z := by
  have n1 := (G.len z p hz).1
  have n2 := W.2 z p hz
  have el : l = l.take (l.length - min (L - 1) l.length) ++ frontW L l := (List.take_append_drop _ _).symm
  constructor
  · rintro ⟨a, h⟩
    refine ⟨l.take (l.length - min (L - 1) l.length) ++ a, ?_⟩
    rw [List.append_assoc, ← h, ← List.append_assoc, ← el]
  · rintro ⟨a, h⟩
    have hl := congrArg List.length h
    rw [List.length_append, List.length_append, List.length_singleton] at hl
    refine ⟨(frontW L l ++ [c]).take (min (L - 1) l.length + 1 - (cs z).length), ?_⟩
    have e1 : (frontW L l ++ [c]) = (l ++ [c]).drop (l.length - min (L - 1) l.length) := by
      rw [List.drop_append_of_le_length (by omega)]
      rfl
    have e2 : (frontW L l ++ [c]).drop (min (L - 1) l.length + 1 - (cs z).length) = cs z := by
      rw [e1, List.drop_drop, h, List.drop_append, List.drop_of_length_le (by omega)]
      have : l.length - min (L - 1) l.length + (min (L - 1) l.length + 1 - (cs z).length) - a.length = 0 := by omega
      rw [this]
      rfl
    conv => lhs; rw [← List.take_append_drop (min (L - 1) l.length + 1 - (cs z).length) (frontW L l ++ [c])]
    rw [e2]
/-- the change of a text's front is what the sign costs more -/
theorem front_change (G : Good F) (W : Wide F L) (o : Over F (l ++ [c])) : StepR F (frontW L l) (frontD F L l) c (lp F (l ++ [c]) - lp F l) := by
  have at' : ∀ {z : Str} {p : Int} {a : List Nat}, F z = some p → l ++ [c] = a ++ cs z → ((0 : Int) :: frontD F L l)[(cs z).length - 1]? = some (lp F a - lp F l) := by
    intro z p a hz h
    have n1 := (G.len z p hz).1
    have n2 := W.2 z p hz
    have hl := congrArg List.length h
    rw [List.length_append, List.length_append, List.length_singleton] at hl
    rw [ahead_at (by omega)]
    have e : l.take (l.length - ((cs z).length - 1)) = a := by
      have h2 : (l ++ [c]).take a.length = a := by rw [h, List.take_left]
      rw [List.take_append_of_le_length (by omega)] at h2
      have : l.length - ((cs z).length - 1) = a.length := by omega
      rw [this, h2]
    rw [e]
  constructor
  · obtain ⟨z, p, a, h1, h2, h3⟩ := lp_last G o (by simp)
    obtain ⟨a', ha'⟩ := (front_suffix (c := c) (l := l) W G h1).mpr ⟨a, h2⟩
    exact ⟨z, p, a', _, h1, ha', at' h1 h2, by omega⟩
  · intro z p a y h1 h2 h3
    obtain ⟨a', ha'⟩ := (front_suffix (c := c) (l := l) W G h1).mp ⟨a, h2⟩
    rw [at' h1 ha'] at h3
    have e := Option.some.inj h3
    have h4 := lp_app G (a := a') (by rw [ha'] at o; exact o.left) h1
    rw [← ha'] at h4
    omega
theorem front_stepW (hL : 1 ≤ L) : stepW L (frontW L l) c = frontW L (l ++ [c]) := by
  have e1 : (frontW L l ++ [c]) = (l ++ [c]).drop (l.length - min (L - 1) l.length) := by
    rw [List.drop_append_of_le_length (by omega)]
    rfl
  unfold stepW
  rw [e1, List.drop_drop]
  show _ = (l ++ [c]).drop ((l ++ [c]).length - min (L - 1) (l ++ [c]).length)
  rw [List.length_append, List.length_singleton, frontW_len]
  congr 1
  omega
theorem front_stepD (hL : 1 ≤ L) : stepD L (frontW L l) (frontD F L l) c (lp F (l ++ [c]) - lp F l) = frontD F L (l ++ [c]) := by
  have ln : (stepW L (frontW L l) c).length = min (L - 1) (l.length + 1) := by
    rw [stepW_len, frontW_len]
    omega
  refine List.ext_getElem? fun i => ?_
  unfold stepD
  rw [ln, List.getElem?_take]
  by_cases h : i < min (L - 1) (l.length + 1)
  · rw [if_pos h, List.getElem?_map, ahead_at (by omega), frontD_at (by rw [List.length_append]; exact h)]
    show some _ = some _
    congr 1
    have e : (l ++ [c]).take ((l ++ [c]).length - (i + 1)) = l.take (l.length - i) := by
      rw [List.length_append, List.length_singleton, List.take_append_of_le_length (by omega)]
      congr 1
      omega
    rw [e]
    dsimp only
    omega
  · rw [if_neg h, List.getElem?_eq_none]
    rw [frontD_len, List.length_append]
    show min (L - 1) (l.length + 1) ≤ i
    omega
end
/-! ### promises -/
theorem wide_of {kvs : List (Key × V)} {ys : List Str} {Ln : Nat} (av : arePrices kvs = true) (pm : ys.Perm (keyStrs kvs)) (h : IsMax (Ln : Int) (lens (psOf kvs ys))) : Wide (tfD kvs) Ln ∧ 1 ≤ Ln ∧ Ln ≤ 5 := by
  obtain ⟨_, al, _, _⟩ := ap_parts av
  obtain ⟨lm, lo⟩ := h
  obtain ⟨q, hq, e⟩ := List.mem_map.mp lm
  obtain ⟨y, hy, rfl⟩ := List.mem_map.mp hq
  have e' : (y.length : Int) = (Ln : Int) := e
  have hk := pm.mem_iff.mp hy
  obtain ⟨p, hp⟩ := (tf_key al).mp hk
  have h1 := keyStrs_piece al y hk
  have h2 := cs_len y
  refine ⟨⟨⟨y, p, hp, by omega⟩, fun z q hz => ?_⟩, by omega, by omega⟩
  have h3 := lo _ (List.mem_map.mpr ⟨(z, priceIn kvs z), List.mem_map.mpr ⟨z, pm.mem_iff.mpr ((tf_key al).mpr ⟨q, hz⟩), rfl⟩, rfl⟩)
  have h4 : (z.length : Int) ≤ (Ln : Int) := h3
  rw [cs_len]
  omega
theorem Wide.uniq {F : Tf} {L M : Nat} (h : Wide F L) (k : Wide F M) : L = M := by
  obtain ⟨⟨z, p, h1, h2⟩, h3⟩ := h
  obtain ⟨⟨y, q, k1, k2⟩, k3⟩ := k
  have := h3 y q k1
  have := k3 z p h1
  omega
/-- front_in, front_of -/
def spFrontIn (C : Addr) : Sp := fun vs H Q _ => ∃ b kvs z, vs = [.ref b, .str z] ∧ Book1 C H b kvs ∧ Over (tfD kvs) (cs z) ∧ z.length ≤ 8000 ∧ isText (.str z) = true ∧
  ∀ L t H', Wide (tfD kvs) L → FrontAt H' t (frontW L (cs z)) (frontD (tfD kvs) L (cs z)) → Same H H' → Q (.ref t) H'
/-- what step_in returns -/
def StepAt (H : Hp) (t : Addr) (l : List Nat) (ds : List Int) (m : Int) : Prop := ∃ u, H t = some (.tup [.ref u, .int m]) ∧ FrontAt H u l ds
/-- step_in, next_front -/
def spStepIn (C : Addr) : Sp := fun vs H Q _ => ∃ (b f : Addr) (kvs : List (Key × V)) (l : List Nat) (ds : List Int) (c L : Nat), vs = [.ref b, .ref f, .str (ch c)] ∧ Book1 C H b kvs ∧ FrontAt H f l ds ∧ Wide (tfD kvs) L ∧ Over (tfD kvs) l ∧ Over (tfD kvs) [c] ∧ l.length < L ∧ ds.length = l.length ∧ (∀ x ∈ l, lett x = true) ∧
  (∀ x ∈ ds, isInteger (.int x) = true) ∧ ∀ t m H', StepR (tfD kvs) l ds c m → StepAt H' t (stepW L l c) (stepD L l ds c m) m → Same H H' → Q (.ref t) H'
theorem cutV_to {xs : List V} {i : Nat} (h : i ≤ xs.length) : cutV xs none (some (i : Int)) = xs.take i := by
  unfold cutV
  rw [show HT.sIx xs.length xs.length (some (i : Int)) = i by rw [sIx_pos (by omega), Int.toNat_natCast]; omega]
  rfl
noncomputable def aheadAt (ds : List Int) (y : Str) : Int := (((0 : Int) :: ds)[(cs y).length - 1]?).getD 0
theorem ends_fm {lg : Str} {ys : List Str} : (ys.filterMap fun y => if Txt.endswith lg y = true then some (V.str y) else none) = (ys.filter fun y => Txt.endswith lg y).map V.str := by
  induction ys with
  | nil => rfl
  | cons a r ih =>
    rw [List.filterMap_cons, List.filter_cons, ih]
    cases Txt.endswith lg a <;> rfl
/-- the least candidate is the change -/
theorem step_min {kvs : List (Key × V)} {ys : List Str} {lg : Str} {l : List Nat} {ds : List Int} {c : Nat} (av : arePrices kvs = true) (pm : ys.Perm (keyStrs kvs)) (hg : cs lg = l ++ [c]) (hds : ds.length = l.length) (oc : Over (tfD kvs) [c]) :
    0 < ((ys.filter fun y => Txt.endswith lg y).map fun y => priceIn kvs y + aheadAt ds y).length ∧ ∀ m ∈ (ys.filter fun y => Txt.endswith lg y).map (fun y => priceIn kvs y + aheadAt ds y), (∀ y ∈ (ys.filter fun y => Txt.endswith lg y).map (fun y => priceIn kvs y + aheadAt ds y), m ≤ y) → StepR (tfD kvs) l ds c m := by
  obtain ⟨_, al, _, _⟩ := ap_parts av
  have good := good_of av
  have price : ∀ {y p}, tfD kvs y = some p → p = priceIn kvs y := fun {y p} h => by
    have h1 := (price_of_key al ((tf_key al).mpr ⟨p, h⟩)).1
    rw [tf_some.mp h] at h1
    exact V.int.inj (Option.some.inj h1)
  have mem : ∀ {y p a}, tfD kvs y = some p → l ++ [c] = a ++ cs y → y ∈ ys.filter fun y => Txt.endswith lg y := fun {y p a} h h2 =>
    List.mem_filter.mpr ⟨pm.mem_iff.mpr ((tf_key al).mpr ⟨p, h⟩), ends_iff.mpr ⟨a, by rw [hg]; exact h2⟩⟩
  have ah : ∀ {y p a}, tfD kvs y = some p → l ++ [c] = a ++ cs y → ((0 : Int) :: ds)[(cs y).length - 1]? = some (aheadAt ds y) := fun {y p a} h h2 => by
    have n1 := (good.len y p h).1
    have h3 := congrArg List.length h2
    rw [List.length_append, List.length_append, List.length_singleton] at h3
    unfold aheadAt
    rw [List.getElem?_eq_getElem (by rw [List.length_cons]; omega)]
    rfl
  constructor
  · rw [List.length_map]
    obtain ⟨p, hp⟩ := oc c List.mem_cons_self
    exact List.length_pos_of_mem (mem (y := ch c) (a := l) hp rfl)
  · intro m hm hle
    constructor
    · obtain ⟨y, hy, rfl⟩ := List.mem_map.mp hm
      obtain ⟨h1, h2⟩ := List.mem_filter.mp hy
      obtain ⟨a, ha⟩ := ends_iff.mp h2
      rw [hg] at ha
      obtain ⟨p, hp⟩ := (tf_key al).mp (pm.mem_iff.mp h1)
      exact ⟨y, p, a, _, hp, ha, ah hp ha, by rw [price hp]⟩
    · intro z p a y hz h2 h3
      have h4 := hle _ (List.mem_map.mpr ⟨z, mem hz h2, rfl⟩)
      rw [ah hz h2] at h3
      rw [price hz, ← Option.some.inj h3]
      exact h4
structure FrontArg (C : Addr) (H : Hp) (b f : Addr) (kvs : List (Key × V)) (l : List Nat) (ds : List Int) (L : Nat) : Prop where
  bk : Book1 C H b kvs
  fr : FrontAt H f l ds
  wd : Wide (tfD kvs) L
  ov : Over (tfD kvs) l
  ln : l.length < L
  dl : ds.length = l.length
  lt : ∀ x ∈ l, lett x = true
  di : ∀ x ∈ ds, isInteger (.int x) = true
theorem FrontArg.same {C : Addr} {H H' : Hp} {b f : Addr} {kvs : List (Key × V)} {l : List Nat} {ds : List Int} {L : Nat} (a : FrontArg C H b f kvs l ds L) (s : Same H H') : FrontArg C H' b f kvs l ds L :=
  ⟨a.bk.same s, a.fr.same s, a.wd, a.ov, a.ln, a.dl, a.lt, a.di⟩
/-- has_front_form, of a front in its form -/
def spForm (C : Addr) : Sp := fun vs H Q _ => ∃ (b f : Addr) (kvs : List (Key × V)) (l : List Nat) (ds : List Int) (L : Nat), vs = [.ref b, .ref f] ∧ FrontArg C H b f kvs l ds L ∧ ∀ H', Same H H' → Q (.bl true) H'
def spReqFront (C : Addr) : Sp := fun vs H Q _ => ∃ (b f : Addr) (kvs : List (Key × V)) (l : List Nat) (ds : List Int) (L : Nat), vs = [.ref b, .ref f] ∧ FrontArg C H b f kvs l ds L ∧ ∀ H', Same H H' → Q .non H'
def spReqSign (C : Addr) : Sp := fun vs H Q _ => ∃ (b : Addr) (kvs : List (Key × V)) (c : Nat), vs = [.ref b, .str (ch c)] ∧ Book1 C H b kvs ∧ Over (tfD kvs) [c] ∧ ∀ H', Same H H' → Q .non H'
def spNext (C : Addr) : Sp := fun vs H Q _ => ∃ (b f : Addr) (kvs : List (Key × V)) (l : List Nat) (ds : List Int) (c L : Nat), vs = [.ref b, .ref f, .str (ch c)] ∧ FrontArg C H b f kvs l ds L ∧ Over (tfD kvs) [c] ∧ lett c = true ∧
  ∀ t m H', StepR (tfD kvs) l ds c m → StepAt H' t (stepW L l c) (stepD L l ds c m) m → Same H H' → Q (.ref t) H'
/-! ### the law's helpers -/
/-- _law_shuffled, of letters -/
def spShuf (K : PySem.W.Frag) : Sp := fun vs H Q _ => ∃ (l a : Addr) (cl : List Nat) (n : Nat), vs = [.ref l, .ref a] ∧ a ≠ l ∧ SqL K H a (cl.map chV) ∧ cl.length ≤ 100 ∧ (∀ c ∈ cl, lett c = true) ∧ Dice H l (n + cl.length) ∧
  ∀ (p : Addr) (zs : List Nat) H', H p = none → p ≠ l → zs.Perm cl → H' p = some (.lst (zs.map chV)) → Kp l H H' → Dice H' l n → Q (.ref p) H'
/-- _law_letters of these laws: some letters -/
def spLett (K : PySem.W.Frag) : Sp := fun vs H Q _ => ∃ (l : Addr) (m n : Nat), vs = [.ref l, .int (m : Int)] ∧ m ≤ 26 ∧ Dice H l (n + 26) ∧
  ∀ (p : Addr) (zs : List Nat) H', H p = none → p ≠ l → zs.length = m → (∀ c ∈ zs, lett c = true) → H' p = some (.lst (zs.map chV)) → Kp l H H' → Dice H' l n → Q (.ref p) H'
theorem chs_strs (l : List Nat) : l.map chV = (l.map ch).map V.str := by
  rw [List.map_map]
  rfl
/-- _law_prices: a right dict over the signs -/
def spPrices20 (K : PySem.W.Frag) : Sp := fun vs H Q _ => ∃ (l sa ma : Addr) (sg : List Nat) (ms : List Int) (n : Nat), vs = [.ref l, .ref sa, .int 6, .int 5, .ref ma] ∧ sa ≠ l ∧ ma ≠ l ∧ SqL K H sa (sg.map chV) ∧ SqL K H ma (ms.map V.int) ∧ 1 ≤ sg.length ∧ sg.length ≤ 4 ∧ (∀ c ∈ sg, lett c = true) ∧
  1 ≤ ms.length ∧ ms.length ≤ 100 ∧ (∀ i ∈ ms, 1 ≤ i ∧ i ≤ 99) ∧ Dice H l (n + 100) ∧
  ∀ (p : Addr) (kvs : List (Key × V)) H', H p = none → p ≠ l → H' p = some (.dK kvs) → arePrices kvs = true → (kvs.map (·.1)).Nodup → (∀ c, (∃ q, tfD kvs (ch c) = some q) ↔ c ∈ sg) → Kp l H H' → Dice H' l n → Q (.ref p) H'
/-- _law_cheap -/
def spCheap : Sp := fun vs H Q _ => ∃ d kvs z, vs = [.ref d, .str z] ∧ H d = some (.dK kvs) ∧ Tar kvs ∧ Over (tfD kvs) (cs z) ∧ z.length ≤ 10000 ∧ ∀ p H', H p = none → H' p = some (.lst (rowV (tfD kvs) (cs z) (z.length + 1))) → Same H H' → Q (.ref p) H'
/-- _law_wide -/
def spWide : Sp := fun vs H Q _ => ∃ d kvs, vs = [.ref d] ∧ H d = some (.dK kvs) ∧ Tar kvs ∧ kvs ≠ [] ∧ ∀ (L : Nat) H', Wide (tfD kvs) L → 1 ≤ L → L ≤ 5 → Same H H' → Q (.int (L : Int)) H'
/-- _law_front -/
def spLawFront : Sp := fun vs H Q _ => ∃ d kvs z, vs = [.ref d, .str z] ∧ H d = some (.dK kvs) ∧ Tar kvs ∧ kvs ≠ [] ∧ Over (tfD kvs) (cs z) ∧ z.length ≤ 10000 ∧ ∀ L t H', Wide (tfD kvs) L → FrontAt H' t (frontW L (cs z)) (frontD (tfD kvs) L (cs z)) → Same H H' → Q (.ref t) H'
/-- _law_step -/
def spLawStep : Sp := fun vs H Q _ => ∃ (d f : Addr) (kvs : List (Key × V)) (l : List Nat) (ds : List Int) (c L : Nat), vs = [.ref d, .ref f, .str (ch c)] ∧ H d = some (.dK kvs) ∧ Tar kvs ∧ kvs ≠ [] ∧ FrontAt H f l ds ∧ Wide (tfD kvs) L ∧ Over (tfD kvs) [c] ∧ l.length < L ∧ ds.length = l.length ∧
  ∀ t m H', StepR (tfD kvs) l ds c m → StepAt H' t (stepW L l c) (stepD L l ds c m) m → Same H H' → Q (.ref t) H'
noncomputable def stepG (ds : List Int) (lg : Str) : Key × V → Option Int := fun kv => match kv with
  | (.inr y, .int p) => if Txt.endswith lg y = true then some (p + aheadAt ds y) else none
  | _ => none
theorem step_minT {kvs : List (Key × V)} {lg : Str} {l : List Nat} {ds : List Int} {c : Nat} (T : Tar kvs) (hg : cs lg = l ++ [c]) (hds : ds.length = l.length) (oc : Over (tfD kvs) [c]) :
    0 < (kvs.filterMap (stepG ds lg)).length ∧ ∀ m ∈ kvs.filterMap (stepG ds lg), (∀ y ∈ kvs.filterMap (stepG ds lg), m ≤ y) → StepR (tfD kvs) l ds c m := by
  have mem : ∀ {y p a}, tfD kvs y = some p → l ++ [c] = a ++ cs y → p + aheadAt ds y ∈ kvs.filterMap (stepG ds lg) := fun {y p a} h h2 => by
    refine List.mem_filterMap.mpr ⟨_, valV_mem (tf_some.mp h), ?_⟩
    show (if Txt.endswith lg y = true then some (p + aheadAt ds y) else none) = _
    rw [if_pos (ends_iff.mpr ⟨a, by rw [hg]; exact h2⟩)]
  have ah : ∀ {y p a}, tfD kvs y = some p → l ++ [c] = a ++ cs y → ((0 : Int) :: ds)[(cs y).length - 1]? = some (aheadAt ds y) := fun {y p a} h h2 => by
    have n1 := (T.good.len y p h).1
    have h3 := congrArg List.length h2
    rw [List.length_append, List.length_append, List.length_singleton] at h3
    unfold aheadAt
    rw [List.getElem?_eq_getElem (by rw [List.length_cons]; omega)]
    rfl
  constructor
  · obtain ⟨p, hp⟩ := oc c List.mem_cons_self
    exact List.length_pos_of_mem (mem (y := ch c) (a := l) hp rfl)
  · intro m hm hle
    constructor
    · obtain ⟨kv, hkv, g⟩ := List.mem_filterMap.mp hm
      obtain ⟨y, p, rfl, hp⟩ := T.mem kv hkv
      have g' : (if Txt.endswith lg y = true then some (p + aheadAt ds y) else none) = some m := g
      by_cases q : Txt.endswith lg y = true
      · rw [if_pos q] at g'
        obtain ⟨a, ha⟩ := ends_iff.mp q
        rw [hg] at ha
        exact ⟨y, p, a, _, hp, ha, ah hp ha, (Option.some.inj g').symm⟩
      · rw [if_neg q] at g'
        cases g'
    · intro z p a y hz h2 h3
      rw [ah hz h2] at h3
      rw [← Option.some.inj h3]
      exact hle _ (mem hz h2)
/-- _law_large -/
def spLarge : Sp := fun vs H Q _ => ∃ (l : Addr) (n : Nat), vs = [.ref l] ∧ Dice H l (n + 2) ∧ ∀ (i : Int) H', isInteger (.int i) = true → Kp l H H' → Dice H' l n → Q (.int i) H'
theorem isI_of {i : Int} (h : i.natAbs < 10 ^ 60) : isInteger (.int i) = true := decide_eq_true h
theorem ten60 : (10 : Int) ^ (60 : Int).toNat = ((10 ^ 60 : Nat) : Int) := by decide +kernel
theorem large60 : 1000 ≤ (10 ^ 60 : Nat) := by decide +kernel
/-! ### fronts as data -/
def dFront (l : List Nat) (ds : List Int) : PyData := .tuple [.str (sOf l), .tuple (ds.map PyData.int)]
def dStep (l : List Nat) (ds : List Int) (m : Int) : PyData := .tuple [dFront l ds, .int m]
theorem dpAll_ints {K : PySem.W.Frag} {H : Hp} : ∀ ds : List Int, DpAll K H (ds.map V.int) (ds.map PyData.int)
  | [] => .nil
  | d :: r => .cons (.int d) (dpAll_ints r)
theorem dp_front {K : PySem.W.Frag} {H : Hp} {t : Addr} {l : List Nat} {ds : List Int} (f : FrontAt H t l ds) : Dp K H (.ref t) (dFront l ds) := by
  obtain ⟨td, h1, h2⟩ := f
  exact .tup (SqT.of h1) (.cons (.str _) (.cons (.tup (SqT.of h2) (dpAll_ints ds)) .nil))
theorem dp_step {K : PySem.W.Frag} {H : Hp} {t : Addr} {l : List Nat} {ds : List Int} {m : Int} (f : StepAt H t l ds m) : Dp K H (.ref t) (dStep l ds m) := by
  obtain ⟨u, h1, h2⟩ := f
  exact .tup (SqT.of h1) (.cons (dp_front h2) (.cons (.int m) .nil))
theorem shw_tuple {ds : List PyData} {k n : Nat} (h : ∀ d ∈ ds, Shw d k n) : Shw (.tuple ds) (k + 1) (ds.length * (n + 2) + 4) := by
  obtain ⟨b1, b2, b3, b4⟩ := shwAll h
  refine ⟨by simpa [PyData.showable] using b1, by simpa [PyData.hasDict] using b2, by simp only [PyData.depth]; omega, ?_⟩
  simp only [PyData.shown]
  unfold tupleText
  rw [strLen_append, strLen_append]
  have c1 : (("(" : String) : Str).length = 1 := by decide +kernel
  have c2 : ((if (PyData.shownAll ds).length == 1 then ",)" else ")" : String) : Str).length ≤ 2 := by split <;> decide +kernel
  have c3 : piled (PyData.shownAll ds) ≤ (PyData.shownAll ds).length * (n + 2) := by
    have gen : ∀ l : List Str, (∀ t ∈ l, t.length ≤ n) → piled l ≤ l.length * (n + 2) := by
      intro l hl
      induction l with
      | nil => simp [piled]
      | cons t r ih =>
        have h1 := hl t List.mem_cons_self
        have h2 := ih fun u hu => hl u (List.mem_cons_of_mem _ hu)
        have e : piled (t :: r) = t.length + 2 + piled r := by simp [piled]
        rw [e, List.length_cons, Nat.add_mul]
        omega
    exact gen _ b4
  have c4 : (Str.join ", " (PyData.shownAll ds)).length ≤ piled (PyData.shownAll ds) := by
    by_cases q : PyData.shownAll ds = []
    · rw [q]
      decide +kernel
    · have := join_length_add _ q
      omega
  have c5 : (PyData.shownAll ds).length = ds.length := by rw [shownAll_map, List.length_map]
  rw [c5] at c3
  omega
theorem shw_str {z : Str} {n : Nat} (h : z.length ≤ n) (hc : ∀ c ∈ cs z, c < 16 ^ 8) : Shw (.str z) 0 (10 * n + 2) :=
  ⟨by simp [PyData.showable], by simp [PyData.hasDict], by simp [PyData.depth], by simp only [PyData.shown]; exact Nat.le_trans (StrLaws.reprText_len z hc) (by omega)⟩
theorem shw_front {l : List Nat} {ds : List Int} (hl : l.length ≤ 5) (hc : ∀ c ∈ l, lett c = true) (hd : ds.length ≤ 5) (hi : ∀ d ∈ ds, d.natAbs < 2 ^ 300) : Shw (dFront l ds) 2 (2 * 9700) := by
  have h1 : Shw (.str (sOf l)) 1 9650 := (shw_str (n := 5) (by rw [sOf_len]; exact hl) fun c h => by
    rw [cs_sOf] at h
    have := hc c h
    unfold lett at this
    rw [Bool.and_eq_true] at this
    have := of_decide_eq_true this.2
    exact Nat.lt_of_le_of_lt this (by decide)).le (by omega) (by omega)
  have h2 : Shw (.tuple (ds.map PyData.int)) 1 9650 := (shw_tuple (k := 0) (n := 1921) fun d hd' => by
    obtain ⟨i, hi', rfl⟩ := List.mem_map.mp hd'
    exact shw_int (log_of (hi i hi'))).le (by omega) (by
      rw [List.length_map]
      have := Nat.mul_le_mul_right (1921 + 2) hd
      omega)
  refine (shw_tuple (k := 1) (n := 9650) fun d hd' => ?_).le (by omega) (by show 2 * (9650 + 2) + 4 ≤ 2 * 9700; omega)
  simp only [List.mem_cons, List.not_mem_nil, or_false] at hd'
  rcases hd' with rfl | rfl
  · exact h1
  · exact h2
theorem shw_step {l : List Nat} {ds : List Int} {m : Int} (hl : l.length ≤ 5) (hc : ∀ c ∈ l, lett c = true) (hd : ds.length ≤ 5) (hi : ∀ d ∈ ds, d.natAbs < 2 ^ 300) (hm : m.natAbs < 2 ^ 300) : Shw (dStep l ds m) 3 40000 := by
  refine (shw_tuple (k := 2) (n := 2 * 9700) fun d hd' => ?_).le (by omega) (by show 2 * (2 * 9700 + 2) + 4 ≤ 40000; omega)
  simp only [List.mem_cons, List.not_mem_nil, or_false] at hd'
  rcases hd' with rfl | rfl
  · exact shw_front hl hc hd hi
  · exact (shw_int (log_of hm)).le (by omega) (by omega)
/-- repr of shown data -/
theorem repr_shw {K : PySem.W.Frag} {H : Hp} {x : V} {d : PyData} {k n : Nat} {Q : VK} (h : Dp K H x d) (s : Shw d k n) (hk : k ≤ 60) (hn : n ≤ 100000) (q : Q (.str d.shown) H) : rRepr K [x] H Q :=
  ⟨x, d, rfl, h, s.s, s.h, Nat.le_trans s.dp hk, Nat.le_trans s.len (fits_sz hn), q⟩
theorem lift_ch {P : Nat → Prop} : ∀ {ys : List Str}, (∀ y ∈ ys, ∃ c, y = ch c ∧ P c) → ∃ sg : List Nat, ys = sg.map ch ∧ ∀ c ∈ sg, P c
  | [], _ => ⟨[], rfl, fun _ h => (List.not_mem_nil h).elim⟩
  | y :: r, h => by
    obtain ⟨c, rfl, hc⟩ := h y List.mem_cons_self
    obtain ⟨sg, rfl, hs⟩ := lift_ch (ys := r) fun z hz => h z (List.mem_cons_of_mem _ hz)
    refine ⟨c :: sg, rfl, fun d hd => ?_⟩
    rcases List.mem_cons.mp hd with rfl | hd
    · exact hc
    · exact hs d hd
/-! ### bounds -/
theorem lp_bound {F : Tf} (G : Good F) : ∀ l, Over F l → 0 ≤ lp F l ∧ lp F l ≤ 99 * (l.length : Int)
  | [], _ => by
    rw [lp_nil G]
    exact ⟨Int.le_refl _, by decide⟩
  | c :: r, o => by
    have o1 : Over F [c] := fun d hd => o d (by rw [List.mem_singleton.mp hd]; exact List.mem_cons_self)
    have o2 : Over F r := fun d hd => o d (List.mem_cons_of_mem _ hd)
    obtain ⟨p, hp⟩ := o c List.mem_cons_self
    have h1 : lp F [c] ≤ p := lp_piece G hp
    have h2 := (G.pos _ _ hp).2
    have h3 := (lp_bound G r o2).2
    have h4 : lp F (c :: r) ≤ lp F [c] + lp F r := lp_add G o1 o2
    obtain ⟨d, hd, e⟩ := lp_cut G o
    have h5 := fee_pos G d hd.1
    rw [List.length_cons]
    omega
theorem front_small {F : Tf} {L : Nat} {l : List Nat} (G : Good F) (o : Over F l) : ∀ d ∈ frontD F L l, d.natAbs ≤ 99 * l.length := fun d hd => by
  unfold frontD at hd
  obtain ⟨i, _, rfl⟩ := List.mem_map.mp hd
  have h1 := lp_bound G _ o
  have h2 := lp_bound G _ (o.take (l.length - (i + 1)))
  have h3 : (l.take (l.length - (i + 1))).length ≤ l.length := by
    rw [List.length_take]
    omega
  omega
theorem frontW_mem {L : Nat} {l : List Nat} {c : Nat} (h : c ∈ frontW L l) : c ∈ l := List.mem_of_mem_drop h
theorem stepW_mem {L : Nat} {l : List Nat} {c d : Nat} (h : d ∈ stepW L l c) : d ∈ l ∨ d = c := by
  have h1 := List.mem_of_mem_drop h
  rcases List.mem_append.mp h1 with h | h
  · exact Or.inl h
  · exact Or.inr (List.mem_singleton.mp h)
theorem stepR_small {F : Tf} {l : List Nat} {ds : List Int} {c B : Nat} {m : Int} (G : Good F) (h : StepR F l ds c m) (hb : ∀ d ∈ ds, d.natAbs ≤ B) : m.natAbs ≤ B + 99 := by
  obtain ⟨⟨z, p, a, y, h1, _, h3, rfl⟩, _⟩ := h
  have h4 := G.pos _ _ h1
  rcases List.mem_cons.mp (List.mem_of_getElem? h3) with rfl | h5
  · omega
  · have := hb y h5
    omega
theorem stepD_small {L : Nat} {l : List Nat} {ds : List Int} {c B : Nat} {m : Int} (hm : m.natAbs ≤ B + 99) (hb : ∀ d ∈ ds, d.natAbs ≤ B) : ∀ d ∈ stepD L l ds c m, d.natAbs ≤ 2 * B + 99 := fun d hd => by
  obtain ⟨x, hx, rfl⟩ := List.mem_map.mp (List.mem_of_mem_take hd)
  rcases List.mem_cons.mp hx with rfl | h5
  · omega
  · have := hb x h5
    omega
theorem stepD_len {L : Nat} {l : List Nat} {ds : List Int} {c : Nat} {m : Int} : (stepD L l ds c m).length ≤ (stepW L l c).length := by
  unfold stepD
  rw [List.length_take]
  omega
/-! ### fronts of given books, worked out -/
def psK (kvs : List (Key × V)) : List (List Nat × Int) := kvs.filterMap fun kv => match kv with | (.inr z, .int p) => some (cs z, p) | _ => none
theorem ps_tf {kvs : List (Key × V)} (nd : (kvs.map (·.1)).Nodup) {z : Str} {p : Int} : tfD kvs z = some p ↔ (cs z, p) ∈ psK kvs := by
  unfold psK
  rw [List.mem_filterMap]
  constructor
  · intro h
    exact ⟨_, valV_mem (tf_some.mp h), rfl⟩
  · rintro ⟨⟨k, v⟩, h1, h2⟩
    have h3 := val_nodup nd _ h1
    rcases k with i | y
    · cases h2
    · cases v
      case int q =>
        have e := Option.some.inj h2
        have e1 : y = z := str_ext (Prod.mk.inj e).1
        have e2 : q = p := (Prod.mk.inj e).2
        subst e1
        subst e2
        exact tf_some.mpr h3
      all_goals cases h2
def candF (ps : List (List Nat × Int)) (w : List Nat) (d : List Int) (c : Nat) : List Int :=
  ps.filterMap fun q => if (w ++ [c]).drop ((w ++ [c]).length - q.1.length) = q.1 then (((0 : Int) :: d)[q.1.length - 1]?).map fun y => q.2 + y else none
def minI : List Int → Option Int
  | [] => none
  | a :: r => match minI r with
    | none => some a
    | some b => some (if a ≤ b then a else b)
theorem minI_none : ∀ {xs : List Int}, minI xs = none → xs = []
  | [], _ => rfl
  | a :: r, h => by
    unfold minI at h
    split at h <;> cases h
theorem minI_spec : ∀ {xs : List Int} {m : Int}, minI xs = some m → m ∈ xs ∧ ∀ y ∈ xs, m ≤ y
  | [], _, h => by cases h
  | a :: r, m, h => by
    unfold minI at h
    split at h
    · rename_i e
      have er := minI_none e
      have em := Option.some.inj h
      subst em
      rw [er]
      exact ⟨List.mem_cons_self, fun y hy => by rw [List.mem_singleton.mp hy]; exact Int.le_refl _⟩
    · rename_i b e
      obtain ⟨h1, h2⟩ := minI_spec e
      have em := Option.some.inj h
      subst em
      constructor
      · split
        · exact List.mem_cons_self
        · exact List.mem_cons_of_mem _ h1
      · intro y hy
        rcases List.mem_cons.mp hy with rfl | hy
        · split <;> omega
        · have := h2 y hy
          split <;> omega
theorem step_of {kvs : List (Key × V)} (nd : (kvs.map (·.1)).Nodup) {w : List Nat} {d : List Int} {c : Nat} {m : Int} (h : minI (candF (psK kvs) w d c) = some m) : StepR (tfD kvs) w d c m := by
  obtain ⟨h1, h2⟩ := minI_spec h
  constructor
  · obtain ⟨q, hq, e⟩ := List.mem_filterMap.mp h1
    split at e
    · rename_i s
      obtain ⟨y, hy, rfl⟩ := Option.map_eq_some_iff.mp e
      refine ⟨sOf q.1, q.2, (w ++ [c]).take ((w ++ [c]).length - q.1.length), y, (ps_tf nd).mpr (by rw [cs_sOf]; exact hq), ?_, by rw [cs_sOf]; exact hy, rfl⟩
      rw [cs_sOf]
      conv => rhs; rw [← s]
      exact (List.take_append_drop _ _).symm.trans (by rw [s])
    · cases e
  · intro z p a y hz hs hy
    refine h2 _ (List.mem_filterMap.mpr ⟨_, (ps_tf nd).mp hz, ?_⟩)
    have e : (w ++ [c]).drop ((w ++ [c]).length - (cs z).length) = cs z := by
      rw [hs, List.length_append, Nat.add_sub_cancel, List.drop_left]
    dsimp only
    rw [if_pos e, hy]
    rfl
def runF (ps : List (List Nat × Int)) (L : Nat) : List Nat → List Nat → List Int → Option (List Nat × List Int)
  | [], w, d => some (w, d)
  | c :: r, w, d => match minI (candF ps w d c) with
    | none => none
    | some m => runF ps L r (stepW L w c) (stepD L w d c m)
theorem run_front {kvs : List (Key × V)} (nd : (kvs.map (·.1)).Nodup) (G : Good (tfD kvs)) {L : Nat} (W : Wide (tfD kvs) L) (hL : 1 ≤ L) : ∀ {r l w : List Nat} {d : List Int} {w' : List Nat} {d' : List Int}, Over (tfD kvs) (l ++ r) → frontW L l = w → frontD (tfD kvs) L l = d →
    runF (psK kvs) L r w d = some (w', d') → frontW L (l ++ r) = w' ∧ frontD (tfD kvs) L (l ++ r) = d'
  | [], l, w, d, w', d', _, hw, hd, h => by
    have e := Option.some.inj h
    rw [List.append_nil, hw, hd]
    exact Prod.mk.inj e
  | c :: r, l, w, d, w', d', o, hw, hd, h => by
    unfold runF at h
    split at h
    · cases h
    · rename_i m e
      have st := step_of nd e
      have o1 : Over (tfD kvs) (l ++ [c]) := fun x hx => o x (by
        rcases List.mem_append.mp hx with h | h
        · exact List.mem_append_left _ h
        · rw [List.mem_singleton.mp h]
          exact List.mem_append_right _ List.mem_cons_self)
      have fc := front_change G W o1
      have em : m = lp (tfD kvs) (l ++ [c]) - lp (tfD kvs) l := (show StepR (tfD kvs) (frontW L l) (frontD (tfD kvs) L l) c m by rw [hw, hd]; exact st).uniq fc
      have e2 : l ++ c :: r = (l ++ [c]) ++ r := by rw [List.append_assoc]; rfl
      rw [e2]
      refine run_front nd G W hL (by rw [← e2]; exact o) ?_ ?_ h
      · rw [← hw, front_stepW hL]
      · rw [← hw, ← hd, em, front_stepD hL]
theorem run_all {kvs : List (Key × V)} (nd : (kvs.map (·.1)).Nodup) (G : Good (tfD kvs)) {L : Nat} (W : Wide (tfD kvs) L) (hL : 1 ≤ L) {r w' : List Nat} {d' : List Int} (o : Over (tfD kvs) r) (h : runF (psK kvs) L r [] [] = some (w', d')) : frontW L r = w' ∧ frontD (tfD kvs) L r = d' :=
  run_front nd G W hL (l := []) (w := []) (d := []) o (by unfold frontW; exact List.drop_nil) (by unfold frontD; rw [List.length_nil, Nat.min_zero]; rfl) h
/-- a front that comes back behind a word -/
theorem run_round {kvs : List (Key × V)} (nd : (kvs.map (·.1)).Nodup) (G : Good (tfD kvs)) {L : Nat} (W : Wide (tfD kvs) L) (hL : 1 ≤ L) {r w : List Nat} {d : List Int} (o : Over (tfD kvs) r) (h1 : runF (psK kvs) L r [] [] = some (w, d)) (h2 : runF (psK kvs) L r w d = some (w, d)) :
    ∀ n : Nat, frontW L (List.replicate (n + 1) r).flatten = w ∧ frontD (tfD kvs) L (List.replicate (n + 1) r).flatten = d
  | 0 => by
    have e : (List.replicate 1 r).flatten = r := by simp
    rw [e]
    exact run_all nd G W hL o h1
  | n + 1 => by
    obtain ⟨i1, i2⟩ := run_round nd G W hL o h1 h2 n
    have e : (List.replicate (n + 1 + 1) r).flatten = (List.replicate (n + 1) r).flatten ++ r := by
      rw [List.replicate_succ', List.flatten_append]
      simp
    rw [e]
    refine run_front nd G W hL (fun c hc => ?_) i1 i2 h2
    rcases List.mem_append.mp hc with h | h
    · obtain ⟨t, ht, hc⟩ := List.mem_flatten.mp h
      rw [(List.mem_replicate.mp ht).2] at hc
      exact o c hc
    · exact o c h
theorem wide_ps {kvs : List (Key × V)} (nd : (kvs.map (·.1)).Nodup) {L : Nat} (h : ((psK kvs).any fun q => decide (q.1.length = L)) = true) (k : ((psK kvs).all fun q => decide (q.1.length ≤ L)) = true) : Wide (tfD kvs) L := by
  constructor
  · obtain ⟨q, hq, e⟩ := List.any_eq_true.mp h
    exact ⟨sOf q.1, q.2, (ps_tf nd).mpr (by rw [cs_sOf]; exact hq), by rw [cs_sOf]; exact of_decide_eq_true e⟩
  · intro z p hz
    exact of_decide_eq_true (List.all_eq_true.mp k _ ((ps_tf nd).mp hz))
theorem over_ps {kvs : List (Key × V)} (nd : (kvs.map (·.1)).Nodup) {l : List Nat} (h : (l.all fun c => (psK kvs).any fun q => decide (q.1 = [c])) = true) : Over (tfD kvs) l := fun c hc => by
  obtain ⟨q, hq, e⟩ := List.any_eq_true.mp (List.all_eq_true.mp h c hc)
  exact ⟨q.2, (ps_tf nd).mpr (by
    show ([c], q.2) ∈ _
    rw [← of_decide_eq_true e]
    exact hq)⟩
end G
/-! sorted(d.items()) of a dict from texts to ints. -/
namespace G
open PySem PySem.W PySem.Spec PyProof.Rows
/-- the text that stands first in a tuple -/
def txK (h : Heap) (v : Value) : Str := DT.txOf (DT.seqAt0 h (DT.refOf (some v)))
def PairTI (h : Heap) (v : Value) (y : Str) (n : Int) : Prop := ∃ a t u, v = .ref a ∧ IsTup h a #[.str y t, .int n u]
theorem PairTI.tx {h : Heap} {v : Value} {y : Str} {n : Int} (x : PairTI h v y n) : txK h v = y := by
  obtain ⟨a, t, u, rfl, i⟩ := x
  have e := DT.seqAt0_of i
  unfold txK
  show DT.txOf (DT.seqAt0 h a) = y
  rw [e]
  rfl
theorem firstsTI {h : Heap} {M : Str → Int} : ∀ vs : List Value, (∀ v ∈ vs, ∃ y, PairTI h v y (M y)) → ∃ fs : List Value, KatTups h vs fs ∧ fs.length = vs.length ∧ ∀ f ∈ fs, ∃ y t, f = Value.str y t
  | [], _ => ⟨[], KatTups.nil, rfl, fun _ z => (List.not_mem_nil z).elim⟩
  | v :: r, x => by
    obtain ⟨fs, k, hl, hi⟩ := firstsTI r fun u hu => x u (List.mem_cons_of_mem _ hu)
    obtain ⟨y, a, t, u, rfl, ⟨o, ho, hc, n, hd⟩⟩ := x v List.mem_cons_self
    refine ⟨.str y t :: fs, KatTups.cons ho hc hd rfl k, congrArg (· + 1) hl, fun f hf => ?_⟩
    rcases List.mem_cons.mp hf with rfl | hf
    · exact ⟨y, t, rfl⟩
    · exact hi f hf
section
variable {prog : Program} {w : World} {A : Around} {E : Value → Shared → Prop} {s : Shared}
theorem kindTI {vs : List Value} {ρ : Str → Int} {M : Str → Int} (h2 : 2 ≤ vs.length) (x : ∀ v ∈ vs, ∃ y, PairTI s.heap v y (M y))
    (hρ : ∀ v ∈ vs, ∀ u ∈ vs, decide ((txK s.heap v).cps.toList < (txK s.heap u).cps.toList) = decide (ρ (txK s.heap v) < ρ (txK s.heap u))) (Q : SortKind → Shared → Prop)
    (h : ∀ κ, _root_.TS.Cmp prog w A s κ (pairsOf vs) (fun v => ρ (txK s.heap v)) → Q κ s) : wpAny (model prog w) A (keyKind' vs.toArray) Q E s := by
  obtain ⟨fs, k, hl, hi⟩ := firstsTI vs x
  refine kat_kind (T := Value.type "str") k (by omega) (fun f hf => ?_) rfl (h _ ?_)
  · obtain ⟨y, t, rfl⟩ := hi f hf
    exact .now
  · have hb : (Value.type "str" != Value.type "tuple") = true := by first | rfl | decide | simp
    rw [hb]
    intro p q hp hq Q' E' hQ
    rw [pairsOf_toList] at hp hq
    have mp := (mem_zip_self hp).2
    have mq := (mem_zip_self hq).2
    obtain ⟨y, py⟩ := x _ mp
    obtain ⟨z, pz⟩ := x _ mq
    have hQ1 : Q' (decide (ρ (txK s.heap p.1) < ρ (txK s.heap q.1))) s := hQ
    rw [← hρ _ mp _ mq, py.tx, pz.tx] at hQ1
    obtain ⟨a, t, u, e1, ⟨o, ho, _, n, hd⟩⟩ := py
    obtain ⟨b, t', u', e2, ⟨o', ho', _, n', hd'⟩⟩ := pz
    rw [e1, e2]
    refine kat_lt ho hd ho' hd' ?_
    show KatLex prog w A true false Q' [(Value.str y t, Value.str z t'), (Value.int (M y) u, Value.int (M z) u')] 0 s
    refine kat_cons (SeqAt.EqAt.str_str y t z t' _ _ _ _ ?_)
    refine kat_go (fun e0 => ?_) (fun e0 => ?_)
    · have e : y = z := by simpa using e0
      subst e
      have irr : decide (y.cps.toList < y.cps.toList) = false := decide_eq_false (List.lt_irrefl _)
      rw [irr] at hQ1
      refine kat_yes (kat_cons (SeqAt.EqAt.int_int (M y) u (M y) u' _ _ _ _ ?_))
      refine kat_go (fun _ => kat_yes (kat_nil hQ1)) (fun e1' => ?_)
      simp at e1'
    · refine kat_no ?_
      show wpAny _ _ (oneLt' true _ _) _ _ _
      exact oneLt_str hQ1
end
/-! ### the rank of a text among some -/
def rankOf (ks : List Str) (y : Str) : Int := (ks.countP fun k => decide (cs k < cs y) : Nat)
theorem countP_le {α : Type} {p q : α → Bool} : ∀ {l : List α}, (∀ a ∈ l, p a = true → q a = true) → l.countP p ≤ l.countP q
  | [], _ => Nat.le_refl _
  | a :: r, h => by
    have ih := countP_le (l := r) fun b hb => h b (List.mem_cons_of_mem _ hb)
    rw [List.countP_cons, List.countP_cons]
    have := h a List.mem_cons_self
    by_cases e : p a = true
    · rw [if_pos e, if_pos (this e)]
      omega
    · rw [if_neg e]
      split <;> omega
theorem countP_lt {α : Type} {p q : α → Bool} {x : α} : ∀ {l : List α}, (∀ a ∈ l, p a = true → q a = true) → x ∈ l → p x = false → q x = true → l.countP p < l.countP q
  | [], _, hx, _, _ => (List.not_mem_nil hx).elim
  | a :: r, h, hx, h1, h2 => by
    have hr : ∀ b ∈ r, p b = true → q b = true := fun b hb => h b (List.mem_cons_of_mem _ hb)
    rw [List.countP_cons, List.countP_cons]
    rcases List.mem_cons.mp hx with rfl | hx
    · have ih := countP_le hr
      rw [if_neg (by rw [h1]; exact Bool.false_ne_true), if_pos h2]
      omega
    · have ih := countP_lt hr hx h1 h2
      have := h a List.mem_cons_self
      by_cases e : p a = true
      · rw [if_pos e, if_pos (this e)]
        omega
      · rw [if_neg e]
        split <;> omega
theorem rank_lt {ks : List Str} {y z : Str} (hy : y ∈ ks) (hz : z ∈ ks) : decide (cs y < cs z) = decide (rankOf ks y < rankOf ks z) := by
  unfold rankOf
  by_cases h : cs y < cs z
  · have h1 := countP_lt (p := fun k => decide (cs k < cs y)) (q := fun k => decide (cs k < cs z)) (l := ks) (fun a _ ha => decide_eq_true (List.lt_trans (of_decide_eq_true ha) h)) hy (decide_eq_false (List.lt_irrefl _)) (decide_eq_true h)
    rw [decide_eq_true h, decide_eq_true (by omega)]
  · have h1 := countP_le (p := fun k => decide (cs k < cs z)) (q := fun k => decide (cs k < cs y)) (l := ks) fun a _ ha => by
      by_cases q : cs a < cs y
      · exact decide_eq_true q
      · exact absurd (List.lt_of_le_of_lt (List.not_lt.mp q) (of_decide_eq_true ha)) h
    rw [decide_eq_false h, decide_eq_false (by omega)]
theorem rank_le {ks : List Str} {y z : Str} (hy : y ∈ ks) (hz : z ∈ ks) (h : rankOf ks y ≤ rankOf ks z) : cs y ≤ cs z := by
  have h1 := rank_lt hz hy
  rw [decide_eq_false (by omega : ¬ rankOf ks z < rankOf ks y)] at h1
  exact List.not_lt.mp (of_decide_eq_false h1)
/-! ### the rule -/
theorem pairs_get {prog : Program} {w : World} {K : Type} [DecidableEq K] {knd : KeyKind prog w K} : ∀ {es : List DictEntry} {kvs : List (K × Value)} {j : Nat} {e : DictEntry}, Pairs knd es kvs → es[j]? = some e → ∃ kv, kvs[j]? = some kv ∧ knd.is kv.1 e.key = true ∧ e.val = kv.2
  | _, _, _, _, .nil, h => by simp at h
  | _, _, 0, _, .cons h1 h2 _, h => by
    cases h
    exact ⟨_, rfl, h1, h2⟩
  | _, _, j + 1, _, .cons _ _ t, h => pairs_get (j := j) t (by simpa using h)
theorem pairs_len {prog : Program} {w : World} {K : Type} [DecidableEq K] {knd : KeyKind prog w K} : ∀ {es : List DictEntry} {kvs : List (K × Value)}, Pairs knd es kvs → es.length = kvs.length
  | _, _, .nil => rfl
  | _, _, .cons _ _ t => congrArg (· + 1) (pairs_len t)
abbrev entS (e : Str × Int) : L2.Key × L2.V := (Sum.inr e.1, L2.V.int e.2)
/-- d.items(), d locked or not -/
theorem mt_itemsK {X : L2.Cx} : L2.MtR X "dict.items" (fun x xs H Q => ∃ d kvs, x = .ref d ∧ xs = [] ∧ L2.Rd H d (.dK kvs) ∧ ∀ r, H r = none → Q (.ref r) (L2.upd H r (L2.DX.itemsO r d))) := by
  intro pins s σ H x xs v us Q I rx rs h
  obtain ⟨d, kvs, rfl, rfl, hd, q⟩ := h
  cases rx
  cases rs
  obtain ⟨_, low, vs, _, o, es, ep, ho, hx, hdat, _⟩ := L2.dk_rd I.hok hd
  refine DT.callItems (es := es) (ep := ep) low ⟨o, ho, hx, hdat⟩ ?_
  exact ⟨.ref s.heap.objs.size, _, I.laid (t' := s.toks) (o := L2.DX.itemsO s.heap.objs.size d) (fun _ _ e => Heap.get?_push_of_some _ e) (Nat.le_refl _) (L2.DX.itemsO_ok (Heap.get?_push_size _ rfl)), rfl, q _ (I.hok.fresh (Nat.le_refl _))⟩
/-- sorted(d.items()), d from texts to ints -/
def rSortTI : List L2.V → L2.Hp → L2.VK → Prop := fun vs H Q => ∃ (p a : Addr) (ks : List (Str × Int)), vs = [.ref p] ∧ H p = some (L2.DX.itemsO p a) ∧ L2.Rd H a (.dK (ks.map entS)) ∧ (ks.map (·.1)).Nodup ∧ ks.length < 64 ∧
  ∀ (H' : L2.Hp) (l : Addr) (ps : List (Addr × Str × Int)), L2.Same H H' → (ps.map (·.2)).Perm ks → (ps.map (·.2)).Pairwise (fun e f => cs e.1 ≤ cs f.1) → H' l = some (.lst (ps.map fun z => L2.V.ref z.1)) → (∀ z ∈ ps, H' z.1 = some (.tup [.str z.2.1, .int z.2.2])) → Q (.ref l) H'
def valS (ks : List (Str × Int)) (y : Str) : Int := ((ks.find? fun e => decide (e.1 = y)).map (·.2)).getD 0
theorem valS_of : ∀ {ks : List (Str × Int)} {e : Str × Int}, (ks.map (·.1)).Nodup → e ∈ ks → valS ks e.1 = e.2
  | [], _, _, h => (List.not_mem_nil h).elim
  | a :: r, e, nd, h => by
    obtain ⟨n1, n2⟩ := List.nodup_cons.mp nd
    unfold valS
    rw [List.find?_cons]
    rcases List.mem_cons.mp h with rfl | h
    · rw [decide_eq_true rfl]
      rfl
    · have ne : ¬ a.1 = e.1 := fun q => n1 (by
      show a.1 ∈ _
      rw [q]
      exact List.mem_map.mpr ⟨e, h, rfl⟩)
      rw [decide_eq_false ne]
      exact valS_of n2 h
open L2 in
theorem cr_sortTI {X : Cx} (hc : X.calm = true) : CallR X (.builtin "sorted") rSortTI := by
  intro pins s σ H xs us Q I r h
  obtain ⟨p, a, ks, rfl, hp, ha, nk, h64, q⟩ := h
  obtain rfl := Vals.ref1 r
  have view : s.heap.IsItemsView p a := (show ObjOk X.prog X.w H s.heap p (DX.itemsO p a) from I.hok p _ hp).1
  obtain ⟨_, low, ws, kv, o, es, ep, ho, hx, hdat, _, prs, _⟩ := dk_rd I.hok ha
  have n1 : ks.length = ws.length := by
    have := Paired.length kv
    rwa [List.length_map] at this
  have n2 : es.size = ws.length := by
    have := pairs_len prs
    rwa [Array.length_toList] at this
  refine DT.sortedI (es := es) (ep := ep) (I.ok.hd hc) view ⟨o, ho, hx, hdat⟩ (by rw [sizeLine_eq]; omega) fun g tk as hk hlt hl hG => ?_
  have nas : as.length = ks.length := by omega
  have nd : as.Nodup := List.Pairwise.imp (fun h => Nat.ne_of_lt h) hG.rise
  have made : ∀ (j : Nat) (b : Addr), as[j]? = some b → ∃ (e : Str × Int) (t u : Tok), ks[j]? = some e ∧ g.get? b = some { cls := .type "tuple", data := .seq #[Value.str e.1 t, Value.int e.2 u] } := by
    intro j b hj
    obtain ⟨en, he, hg⟩ := hG.pairs j b hj
    obtain ⟨kw, hw, h1, h2⟩ := pairs_get (j := j) prs (by rw [Array.getElem?_toList]; exact he)
    obtain ⟨e0, he0, r1, r2⟩ := DX.pget kv hw
    rw [List.getElem?_map] at he0
    cases hkj : ks[j]? with
    | none =>
      rw [hkj] at he0
      cases he0
    | some e =>
      rw [hkj] at he0
      cases he0
      have rk : RelV (kV (Sum.inr e.1)) en.key := relV_key (show keyIs (Sum.inr e.1) en.key = true by rw [show (Sum.inr e.1 : L2.Key) = kw.1 from r1]; exact h1)
      obtain ⟨t, ek⟩ := rk
      have rv : RelV (V.int e.2) en.val := by
        rw [h2]
        exact r2
      obtain ⟨u, ev⟩ := rv
      refine ⟨e, t, u, rfl, ?_⟩
      rw [hg, ek, ev]
  -- the heap while the sort asks
  have lo : (g.push { cls := .type "list", data := .seq (as.map Value.ref).toArray }).get? g.objs.size = some (seqObj "list" (as.map Value.ref).toArray 0) := Heap.get?_push_size _ rfl
  have up : ∀ b o, g.get? b = some o → (g.push { cls := .type "list", data := .seq (as.map Value.ref).toArray }).get? b = some o := fun b o e => Heap.get?_push_of_some _ e
  have off : ∀ b o, g.get? b = some o → b ≠ g.objs.size := fun b o e => Nat.ne_of_lt (Heap.lt_size e)
  generalize g.push { cls := .type "list", data := .seq (as.map Value.ref).toArray } = m at lo up ⊢
  have pin : ∀ (j : Nat) (b : Addr), as[j]? = some b → ∃ e : Str × Int, ks[j]? = some e ∧ PairTI (_root_.TS.midHeap m g.objs.size (as.map Value.ref)) (.ref b) e.1 (valS ks e.1) := by
    intro j b hj
    obtain ⟨e, t, u, he, hg⟩ := made j b hj
    refine ⟨e, he, b, t, u, rfl, ⟨_, _root_.TS.midHeap_old (off _ _ hg) (up _ _ hg), rfl, 0, ?_⟩⟩
    rw [valS_of nk (List.mem_of_getElem? he)]
  have tx : ∀ (j : Nat) (b : Addr) (e : Str × Int), as[j]? = some b → ks[j]? = some e → txK (_root_.TS.midHeap m g.objs.size (as.map Value.ref)) (.ref b) = e.1 := by
    intro j b e hj he
    obtain ⟨e', he', hp'⟩ := pin j b hj
    rw [he] at he'
    cases he'
    exact hp'.tx
  have each : ∀ v ∈ as.map Value.ref, ∃ (j : Nat) (b : Addr) (e : Str × Int), v = .ref b ∧ as[j]? = some b ∧ ks[j]? = some e := by
    intro v hv
    obtain ⟨b, hb, rfl⟩ := List.mem_map.mp hv
    obtain ⟨j, hj⟩ := List.mem_iff_getElem?.mp hb
    obtain ⟨e, _, _, he, _⟩ := made j b hj
    exact ⟨j, b, e, rfl, hj, he⟩
  have inK : ∀ {j : Nat} {e : Str × Int}, ks[j]? = some e → e.1 ∈ ks.map (·.1) := fun h => List.mem_map.mpr ⟨_, List.mem_of_getElem? h, rfl⟩
  refine wpAny_call_entry PyProof.Rows.slot_list_sort ⟨_, lo, rfl⟩ PyProof.Rows.entry_list_sort (SK.plain_sort (s := { s with heap := m, toks := tk })
    (r := fun v => rankOf (ks.map (·.1)) (txK (_root_.TS.midHeap m g.objs.size (as.map Value.ref)) v)) lo (by rw [List.length_map]; omega) (fun two Qk hQk => ?_) fun ps out o1 o2 o3 => ⟨.none, rfl, ?_⟩) (PyProof.Rows.args_list_sort _)
  · refine kindTI (s := { s with heap := _root_.TS.midHeap m g.objs.size (as.map Value.ref), toks := tk }) (ρ := rankOf (ks.map (·.1))) (M := valS ks) two (fun v hv => ?_) (fun v hv u hu => ?_) Qk hQk
    · obtain ⟨j, b, e, rfl, hj, _⟩ := each v hv
      obtain ⟨e', _, hp'⟩ := pin j b hj
      exact ⟨e'.1, hp'⟩
    · obtain ⟨j, b, e, rfl, hj, he⟩ := each v hv
      obtain ⟨j', b', e', rfl, hj', he'⟩ := each u hu
      dsimp only
      rw [tx j b e hj he, tx j' b' e' hj' he']
      exact rank_lt (inK he) (inK he')
  · show EP X pins σ Q (.ref g.objs.size) { s with heap := sortedHeap m g.objs.size (as.map Value.ref) out, toks := tk }
    obtain ⟨zs, pz, ez⟩ := perm_lift (fun z : Addr × Str × Int => (Value.ref z.1, Value.ref z.1)) o2 (as.zip ks) (DX.zip_self Value.ref as ks nas)
    have idx : ∀ z ∈ zs, ∃ j : Nat, as[j]? = some z.1 ∧ ks[j]? = some z.2 := by
      intro z hz
      obtain ⟨j, hj⟩ := List.mem_iff_getElem?.mp (pz.mem_iff.mp hz)
      exact ⟨j, List.getElem?_zip_eq_some.mp hj⟩
    have eout : out.toList = zs.map fun z => Value.ref z.1 := by
      rw [o1, ← ez, List.map_map]
      rfl
    have perm : (zs.map (·.2)).Perm ks := by
      have e := pz.map (·.2)
      rwa [show (as.zip ks).map (·.2) = ks from List.map_snd_zip (by omega)] at e
    have srt : (zs.map (·.2)).Pairwise (fun e f => cs e.1 ≤ cs f.1) := by
      rw [← ez, List.pairwise_map] at o3
      rw [List.pairwise_map]
      refine List.Pairwise.imp_of_mem (fun {x y} hx hy h => ?_) o3
      obtain ⟨j, j1, j2⟩ := idx x hx
      obtain ⟨i, i1, i2⟩ := idx y hy
      dsimp only at h
      rw [tx j _ _ j1 j2, tx i _ _ i1 i2] at h
      exact rank_le (inK j2) (inK i2) h
    have keepM : ∀ b o, b ≠ g.objs.size → m.get? b = some o → (sortedHeap m g.objs.size (as.map Value.ref) out).get? b = some o := fun b o hb e => (PyProof.Rows.sortedHeap_old hb (Heap.lt_size e)).trans e
    have keepS : ∀ b o, s.heap.get? b = some o → (sortedHeap m g.objs.size (as.map Value.ref) out).get? b = some o := fun b o e => keepM b o (off _ _ (hk b o e)) (up _ _ (hk b o e))
    obtain ⟨ce, hce⟩ := PyProof.Rows.sortedHeap_at (vs := as.map Value.ref) (out := out) lo
    have J1 : Inv X pins σ H { s with heap := sortedHeap m g.objs.size (as.map Value.ref) out, toks := tk } := I.kept (t' := tk) keepS
    have free : H g.objs.size = none := I.hok.fresh (Nat.le_of_lt hlt)
    have zlen : (zs.map fun z => V.ref z.1).length ≤ sizeLine := by
      have e := perm.length_eq
      rw [List.length_map] at e
      rw [List.length_map, sizeLine_eq]
      omega
    have J2 : Inv X pins σ (upd H g.objs.size (.lst (zs.map fun z => V.ref z.1))) { s with heap := sortedHeap m g.objs.size (as.map Value.ref) out, toks := tk } :=
      J1.take (h' := sortedHeap m g.objs.size (as.map Value.ref) out) (t' := tk) (fun b ob _ e => e) (I.fpOk (Nat.le_of_lt hlt) free) ⟨zlen, out.toList, ce, by rw [eout]; exact vals_maps (fun z : Addr × Str × Int => V.ref z.1) (fun z => Value.ref z.1) zs fun _ _ => rfl, hce⟩
    obtain ⟨H2, J3, kp, tups⟩ := DX.takeT (P := fun b xs => ∃ (j : Nat) (e : Str × Int), as[j]? = some b ∧ ks[j]? = some e ∧ xs = [V.str e.1, V.int e.2]) I as _ J2 nd fun b hb => by
      obtain ⟨j, hj⟩ := List.mem_iff_getElem?.mp hb
      obtain ⟨e, t, u, he, hg⟩ := made j b hj
      have low' : s.heap.objs.size ≤ b := Nat.le_of_lt (hG.above b hb)
      refine ⟨low', ?_, [V.str e.1, V.int e.2], ⟨j, e, hj, he, rfl⟩, fun H3 => ⟨by show 2 ≤ sizeLine; decide, [Value.str e.1 t, Value.int e.2 u], .cons ⟨t, rfl⟩ (.cons ⟨u, rfl⟩ .nil), ⟨_, keepM _ _ (off _ _ hg) (up _ _ hg), rfl, 0, rfl⟩⟩⟩
      rw [upd_ne (off _ _ hg)]
      exact I.hok.fresh low'
    have same : Same H H2 := fun b o e => kp b o (by rw [upd_ne (ne_of_none e free)]; exact e)
    refine ⟨.ref g.objs.size, H2, J3, rfl, q H2 g.objs.size zs same perm srt (kp _ _ upd_same) fun z hz => ?_⟩
    obtain ⟨i, i1, i2⟩ := idx z hz
    obtain ⟨xs, ⟨j, e, j1, j2, rfl⟩, hH⟩ := tups z.1 (List.mem_of_getElem? i1)
    have eij : i = j := (List.getElem?_inj (List.getElem?_eq_some_iff.mp i1).1 nd).mp (i1.trans j1.symm)
    subst eij
    rw [i2] at j2
    cases j2
    exact hH
/-! ### repr of a dict from texts to ints -/
def dDict (ks : List (Str × Int)) : PyData := .dict (ks.map fun e => (PyData.str e.1, PyData.int e.2))
theorem reads_ks {prog : Program} {w : World} {h : Heap} : ∀ {ks : List (Str × Int)} {es : List DictEntry} {ws : List (L2.Key × Value)}, Pairs (L2.mixKind prog w) es ws → L2.KV (ks.map entS) ws →
    ReadsAll h (es.map (·.key)) (ks.map fun e => PyData.str e.1) [] ∧ ReadsAll h (es.map (·.val)) (ks.map fun e => PyData.int e.2) []
  | [], _, _, .nil, _ => ⟨.nil, .nil⟩
  | [], _, _, .cons _ _ _, kv => by cases kv
  | _ :: _, _, _, .nil, kv => by cases kv
  | e :: r, _, _, .cons h1 h2 t, kv => by
    cases kv with
    | cons hd tl =>
      obtain ⟨i1, i2⟩ := reads_ks (h := h) t tl
      obtain ⟨r1, r2⟩ := hd
      obtain ⟨tk, ek⟩ : L2.RelV (L2.kV (Sum.inr e.1)) _ := L2.relV_key (show L2.keyIs (Sum.inr e.1) _ = true by rw [show (Sum.inr e.1 : L2.Key) = _ from r1]; exact h1)
      obtain ⟨u, ev⟩ : L2.RelV (L2.V.int e.2) _ := by
        rw [← h2] at r2
        exact r2
      refine ⟨?_, ?_⟩
      · rw [List.map_cons, List.map_cons, ek]
        exact ReadsAll.cons (as := []) (bs := []) (.str _ _) i1
      · rw [List.map_cons, List.map_cons, ev]
        exact ReadsAll.cons (as := []) (bs := []) (.int _ _) i2
theorem depth_kv : ∀ ks : List (Str × Int), PyData.depthKv (ks.map fun e => (PyData.str e.1, PyData.int e.2)) = 0
  | [] => by simp [PyData.depthKv]
  | e :: r => by simp [PyData.depthKv, PyData.depth, depth_kv r]
theorem piled_le {n : Nat} : ∀ {ts : List Str}, (∀ t ∈ ts, t.length ≤ n) → piled ts ≤ ts.length * (n + 2)
  | [], _ => by simp [piled]
  | t :: r, h => by
    have h1 := h t List.mem_cons_self
    have h2 := piled_le (ts := r) fun u hu => h u (List.mem_cons_of_mem _ hu)
    have e : piled (t :: r) = t.length + 2 + piled r := by simp [piled]
    rw [e, List.length_cons, Nat.add_mul]
    omega
/-- a dict of pieces and prices may be shown -/
theorem show_dict {ks : List (Str × Int)} (hl : ks.length ≤ 100) (h : ∀ e ∈ ks, e.1.length ≤ 10 ∧ (∀ c ∈ cs e.1, c < 128) ∧ 0 ≤ e.2 ∧ e.2 ≤ 99) : (dDict ks).showable = true ∧ (dDict ks).shown.length ≤ sizeLine := by
  constructor
  · have : ∀ l : List (Str × Int), (∀ e ∈ l, 0 ≤ e.2 ∧ e.2 ≤ 99) → PyData.showableKv (l.map fun e => (PyData.str e.1, PyData.int e.2)) = true := by
      intro l hl
      induction l with
      | nil => simp [PyData.showableKv]
      | cons a r ih =>
        have h1 := hl a List.mem_cons_self
        have h2 : a.2.natAbs.log2 < 1920 := Nat.lt_of_lt_of_le (PySem.Flt.log2_lt_of (k := 7) (by decide) (by omega)) (by decide)
        simp [PyData.showableKv, PyData.showable, h2, ih fun e he => hl e (List.mem_cons_of_mem _ he)]
    unfold dDict
    simp only [PyData.showable]
    exact this ks fun e he => (h e he).2.2
  · have each : ∀ t ∈ PyData.shownKv (ks.map fun e => (PyData.str e.1, PyData.int e.2)), t.length ≤ 2100 := by
      intro t ht
      have gen : ∀ l : List (Str × Int), t ∈ PyData.shownKv (l.map fun e => (PyData.str e.1, PyData.int e.2)) → ∃ e ∈ l, t = reprText e.1 ++ ": " ++ toString e.2 := by
        intro l
        induction l with
        | nil => intro h; simp [PyData.shownKv] at h
        | cons a r ih =>
          intro h
          simp only [List.map_cons, PyData.shownKv, PyData.shown, List.mem_cons] at h
          rcases h with h | h
          · exact ⟨a, List.mem_cons_self, h⟩
          · obtain ⟨e, he, q⟩ := ih h
            exact ⟨e, List.mem_cons_of_mem _ he, q⟩
      obtain ⟨e, he, rfl⟩ := gen ks ht
      obtain ⟨l1, l2, l3, l4⟩ := h e he
      have r1 := StrLaws.reprText_len e.1 fun c hc => Nat.lt_of_lt_of_le (l2 c hc) (by decide)
      have r2 := int_text_len_1921 (i := e.2) (Nat.lt_of_lt_of_le (PySem.Flt.log2_lt_of (k := 7) (by decide) (by omega)) (by decide))
      have r3 : ((": " : String) : Str).length = 2 := by decide +kernel
      rw [strLen_append, strLen_append, r3]
      omega
    unfold dDict
    simp only [PyData.shown]
    unfold dictText
    rw [strLen_append, strLen_append]
    have c1 : (("{" : String) : Str).length = 1 := by decide +kernel
    have c2 : (("}" : String) : Str).length = 1 := by decide +kernel
    have c3 := piled_le each
    have c4 : (PyData.shownKv (ks.map fun e => (PyData.str e.1, PyData.int e.2))).length = ks.length := by
      generalize ks = l
      induction l with
      | nil => simp [PyData.shownKv]
      | cons a r ih => simp [PyData.shownKv, ih]
    rw [c4] at c3
    have c5 : (Str.join ", " (PyData.shownKv (ks.map fun e => (PyData.str e.1, PyData.int e.2)))).length ≤ piled (PyData.shownKv (ks.map fun e => (PyData.str e.1, PyData.int e.2))) := by
      by_cases q : PyData.shownKv (ks.map fun e => (PyData.str e.1, PyData.int e.2)) = []
      · rw [q]
        decide +kernel
      · have := join_length_add _ q
        omega
    have c6 : ks.length * (2100 + 2) ≤ 100 * 2102 := Nat.mul_le_mul_right _ hl
    rw [c1, c2]
    exact Nat.le_trans (by omega : _ ≤ 1000000) (by decide)
def rReprD : List L2.V → L2.Hp → L2.VK → Prop := fun xs H Q => ∃ a ks, xs = [.ref a] ∧ L2.Rd H a (.dK (ks.map entS)) ∧ (dDict ks).showable = true ∧ (dDict ks).shown.length ≤ sizeLine ∧ Q (.str (dDict ks).shown) H
theorem call_reprD {X : L2.Cx} (hg : X.A.guards = some []) (hu : X.A.units + 64 < cLine) : L2.CallR X (.builtin "repr") rReprD := by
  intro pins s σ H xs us Q I r h
  obtain ⟨a, ks, rfl, ha, hs, hz, q⟩ := h
  obtain rfl := L2.Vals.ref1 r
  obtain ⟨_, low, ws, kv, o, es, ep, ho, hx, hdat, _, prs, _⟩ := L2.dk_rd I.hok ha
  obtain ⟨k1, k2⟩ := reads_ks (h := s.heap) prs kv
  have rd : Reads s.heap (.ref a) (dDict ks) [a] := by
    refine Reads.dict (as := []) (bs := []) ho hx.1 hdat ?_ ?_
    · rw [List.map_map]
      exact k1
    · rw [List.map_map]
      exact k2
  have dep : (dDict ks).depth ≤ 10 := by
    unfold dDict
    simp only [PyData.depth, depth_kv]
    omega
  refine repr_of_reads' rd hs (fun _ hm => ?_) hg (by omega) (fun _ _ e => e) (fun h' u tk keeps => ⟨L2.V.str (dDict ks).shown, H, I.kept keeps, ⟨u, rfl⟩, q⟩) hz
  rw [List.mem_singleton.mp hm] at low
  simp at low
/-- dict(pairs) without double keys -/
theorem merge_nd : ∀ {more kvs : List (L2.Key × L2.V)}, ((kvs ++ more).map (·.1)).Nodup → L2.mergeK kvs more = kvs ++ more
  | [], kvs, _ => by rw [List.append_nil]; rfl
  | a :: r, kvs, h => by
    have no : L2.valV kvs a.1 = none := valV_none fun m => by
      rw [List.map_append, List.map_cons] at h
      exact (List.nodup_append.mp h).2.2 _ m _ List.mem_cons_self rfl
    show L2.mergeK (L2.putK kvs a.1 a.2) r = _
    rw [L2.putK_new _ no, merge_nd (by rw [List.append_assoc]; exact h), List.append_assoc]
    rfl
/-- two lists of pairs, both ascending by their texts, with the same pairs -/
theorem pairs_eq {xs ys : List (Str × Int)} (nd : (xs.map (·.1)).Nodup) (hx : xs.Pairwise fun e f => cs e.1 ≤ cs f.1) (hy : ys.Pairwise fun e f => cs e.1 ≤ cs f.1) (p : xs.Perm ys) : xs = ys := by
  refine p.eq_of_pairwise (fun a b ha hb h1 h2 => ?_) hx hy
  have e : a.1 = b.1 := str_ext (List.le_antisymm h1 h2)
  have hb' := p.mem_iff.mpr hb
  have v1 := valS_of nd ha
  have v2 := valS_of nd hb'
  rw [e] at v1
  exact Prod.ext e (v1.symm.trans v2)
theorem lift_ent : ∀ {kvs : List (L2.Key × L2.V)}, (∀ kv ∈ kvs, ∃ z p, kv = (Sum.inr z, L2.V.int p)) → ∃ ks : List (Str × Int), kvs = ks.map entS
  | [], _ => ⟨[], rfl⟩
  | kv :: r, h => by
    obtain ⟨z, p, rfl⟩ := h kv List.mem_cons_self
    obtain ⟨ks, rfl⟩ := lift_ent (kvs := r) fun x hx => h x (List.mem_cons_of_mem _ hx)
    exact ⟨(z, p) :: ks, rfl⟩
theorem keys_ent : ∀ ks : List (Str × Int), keyStrs (ks.map entS) = ks.map (·.1)
  | [] => rfl
  | e :: r => congrArg (e.1 :: ·) (keys_ent r)
theorem nd_ent {ks : List (Str × Int)} (nd : ((ks.map entS).map (·.1)).Nodup) : (ks.map (·.1)).Nodup := by
  have e : (ks.map entS).map (·.1) = (ks.map (·.1)).map (Sum.inr : Str → L2.Key) := by
    rw [List.map_map, List.map_map]
    rfl
  rw [e] at nd
  exact List.Pairwise.imp (fun h q => h (congrArg _ q)) (List.pairwise_map.mp nd)
theorem ps_perm {ks : List (Str × Int)} {ys : List Str} (al : ((ks.map entS).all fun kv => isPiece (L2.kV kv.1) && isPrice kv.2) = true) (nd : ((ks.map entS).map (·.1)).Nodup) (pm : ys.Perm (keyStrs (ks.map entS))) : (psOf (ks.map entS) ys).Perm ks := by
  rw [keys_ent] at pm
  have h1 := pm.map fun y => (y, priceIn (ks.map entS) y)
  refine h1.trans ?_
  rw [List.map_map]
  have h2 : ks.map ((fun y => (y, priceIn (ks.map entS) y)) ∘ (·.1)) = ks := by
    conv => rhs; rw [← List.map_id ks]
    refine List.map_congr_left fun e he => ?_
    have h3 := L2.val_nodup nd _ (List.mem_map.mpr ⟨e, he, rfl⟩)
    have hk : e.1 ∈ keyStrs (ks.map entS) := by
      rw [keys_ent]
      exact List.mem_map.mpr ⟨e, he, rfl⟩
    have h4 := (price_of_key al hk).1
    rw [show L2.valV (ks.map entS) (Sum.inr e.1) = some (L2.V.int e.2) from h3] at h4
    have h5 := L2.V.int.inj (Option.some.inj h4)
    show (e.1, priceIn (ks.map entS) e.1) = e
    rw [← h5]
  rw [h2]
theorem so_ps {kvs : List (L2.Key × L2.V)} {ys : List Str} (h : sortedS ys = true) : (psOf kvs ys).Pairwise fun e f => cs e.1 ≤ cs f.1 := List.pairwise_map.mpr (so_pw h)
theorem ps_keys {kvs : List (L2.Key × L2.V)} {ys : List Str} : (psOf kvs ys).map (·.1) = ys := by
  unfold psOf
  rw [List.map_map]
  exact List.map_id' ys
end G
/-! Own operators: in, ==, | & - of a class's instances, by the promise of the method. -/
namespace G
open PySem PySem.Spec PyProof.Rows L2
open L2 (St)
/-- the promise of a method that returns a truth -/
def backB (Q : VK) : VK := fun r H => ∃ b, r = .bl b ∧ Q (.bl b) H
def rInO (C : Addr) (sp : Sp) : R2 := fun x y H Q => ∃ a dx fs, y = .ref a ∧ H a = some (.ins C dx fs) ∧ sp [.ref a, x] H (backB Q) C8.E0
def rNotInO (C : Addr) (sp : Sp) : R2 := fun x y H Q => ∃ a dx fs, y = .ref a ∧ H a = some (.ins C dx fs) ∧ sp [.ref a, x] H (fun r H' => ∃ b, r = .bl b ∧ Q (.bl (!b)) H') C8.E0
section
variable {X : Cx} {k j : Nat} {C : Addr} {sp : Sp}
theorem met_run {m : Str} {pins : List (Addr × Obj)} {σ : L2.St} {H : Hp} {s : Shared} {Q : VK} {us : List Value} {vs : List V} (c : C8.Met X.prog X.w X.K X.mg X.base k C m sp []) (hr : Room j X.A) (hk : k ≤ j) (I : Inv X pins σ H s) (r : Vals vs us) (h : sp vs H Q C8.E0) :
    ∃ f : Addr, PySem.W.findIn X.K (.ref C) m = some (some (.ref f)) ∧ PySem.W.isFn X.K (.ref f) = true ∧ wpAny (model X.prog X.w) X.A (call (.ref f) us) (EP X pins σ Q) X.xe s := by
  obtain ⟨f, fd, ps, ds, hc, hm, F, b, d⟩ := c.ex
  refine ⟨f, hm.at_, hm.fn, ?_⟩
  have e : vs ++ ([] : List V) = vs := List.append_nil vs
  exact run_fn F (hr.mono hk) b d C8.pass0 I r (by rw [e]; exact h)
theorem op_inO (c : C8.Met X.prog X.w X.K X.mg X.base k C "__contains__" sp []) (hr : Room j X.A) (hk : k ≤ j) : OpR X (compareOp .In) (rInO C sp) := by
  intro pins s σ H x y v u Q I rx ry h
  obtain ⟨a, dx, fs, rfl, ha, q⟩ := h
  cases ry
  obtain ⟨mA, J, _⟩ := ins_get I.hok ha
  obtain ⟨od, J, _⟩ := J.look
  obtain ⟨m, hF⟩ := I.fr
  obtain ⟨f, h1, h2, h3⟩ := met_run (us := [.ref a, v]) (vs := [.ref a, x]) c hr hk I (.cons rfl (.cons rx .nil)) q
  refine PySem.W.in_K hF I.ok.mod.kin J h1 h2 (wpAny_mono h3 (fun r s' hq => ?_) fun _ _ e => e)
  obtain ⟨z, H', I', rz, b, rfl, q⟩ := hq
  cases rz
  exact wpAny_truthy_bool ⟨.bl b, H', I', rfl, q⟩
theorem op_notInO (c : C8.Met X.prog X.w X.K X.mg X.base k C "__contains__" sp []) (hr : Room j X.A) (hk : k ≤ j) : OpR X (compareOp .NotIn) (rNotInO C sp) := by
  intro pins s σ H x y v u Q I rx ry h
  obtain ⟨a, dx, fs, rfl, ha, q⟩ := h
  cases ry
  obtain ⟨mA, J, _⟩ := ins_get I.hok ha
  obtain ⟨od, J, _⟩ := J.look
  obtain ⟨m, hF⟩ := I.fr
  obtain ⟨f, h1, h2, h3⟩ := met_run (us := [.ref a, v]) (vs := [.ref a, x]) c hr hk I (.cons rfl (.cons rx .nil)) q
  refine PySem.W.notIn_K hF I.ok.mod.kin J h1 h2 (wpAny_mono h3 (fun r s' hq => ?_) fun _ _ e => e)
  obtain ⟨z, H', I', rz, b, rfl, q⟩ := hq
  cases rz
  exact wpAny_truthy_bool ⟨.bl (!b), H', I', rfl, q⟩
/-- == of two instances of one class -/
def rEqO (C : Addr) (sp : Sp) : R2 := fun x y H Q => ∃ a dx fs b dy gs, x = .ref a ∧ y = .ref b ∧ H a = some (.ins C dx fs) ∧ H b = some (.ins C dy gs) ∧ sp [.ref a, .ref b] H (backB Q) C8.E0
theorem op_eqO (c : C8.Met X.prog X.w X.K X.mg X.base k C "__eq__" sp []) (hr : Room j X.A) (hk : k ≤ j) (hu : X.A.units < cLine) : OpR X (compareOp .Eq) (rEqO C sp) := by
  intro pins s σ H x y v u Q I rx ry h
  obtain ⟨a, dx, fs, b, dy, gs, rfl, rfl, ha, hb, q⟩ := h
  cases rx
  cases ry
  obtain ⟨_, J, _⟩ := ins_get I.hok ha
  obtain ⟨_, J', _⟩ := ins_get I.hok hb
  obtain ⟨_, J, _⟩ := J.look
  obtain ⟨_, J', _⟩ := J'.look
  obtain ⟨m, hF⟩ := I.fr
  obtain ⟨f, h1, h2, h3⟩ := met_run (us := [.ref a, .ref b]) (vs := [.ref a, .ref b]) c hr hk I (.cons rfl (.cons rfl .nil)) q
  refine PySem.W.cmp_K (op := .Eq) (tb := .ref C) hu hF I.ok.mod.kin J J'.type (by simp [PySem.W.notFirst]) h1 h2 (wpAny_mono h3 (fun r s' hq => ?_) fun _ _ e => e)
  obtain ⟨z, H', I', rz, b', rfl, q⟩ := hq
  cases rz
  exact ⟨.bl b', H', I', rfl, q⟩
end
end G
/-! {**d, k: v}: a dict display that begins with another dict. -/
namespace G
open PySem PyProof.Rows
section
variable {prog : Program} {w : World} {Kt : Type} [DecidableEq Kt] {knd : KeyKind prog w Kt} {A : Around} {E : Value → Shared → Prop} {s : Shared}
theorem put_at {a : Addr} {ks : List (Kt × Value)} {k : Kt} {u v : Value} {Q : Unit → Shared → Prop} (isK : knd.is k u = true) (is : s.heap.DictOf knd a ks) (small : ks.length ≤ sizeLine)
    (q : ∀ g, g.DictOf knd a (stored ks k v) → Heap.SameBut a s.heap g → Q () { s with heap := g }) : wpAny (model prog w) A (dictPut a (knd.hash k) u v) Q E s := by
  obtain ⟨ob, xs, ep, h1, h2, h3, h4, h5, h6⟩ := is
  have few : xs.size ≤ sizeLine := by
    have e := h5.length
    rw [Array.length_toList] at e
    omega
  have ix : (xs.findIdx? fun z => knd.is k z.key) = ks.findIdx? fun y => decide (y.1 = k) := by
    rw [← h5.findIdx k]
    obtain ⟨l⟩ := xs
    simp
  unfold dictPut
  refine wpAny_bind (wpAny_dictFind_of isK h1 h3 h4 ?_)
  cases at_ : xs.findIdx? fun z => knd.is k z.key with
  | some i =>
    have pairs : Pairs knd (xs.modify i fun z => { z with val := v }).toList (stored ks k v) := by
      rw [stored, if_pos (any_of_findIdx_some (ix ▸ at_))]
      have f : (xs.toList.findIdx? fun z => knd.is k z.key) = some i := by
        rw [← at_]
        obtain ⟨l⟩ := xs
        simp
      have m := h5.modify h6 f v
      obtain ⟨l⟩ := xs
      simpa using m
    have nd : ((stored ks k v).map (·.1)).Nodup := by
      rw [stored, if_pos (any_of_findIdx_some (ix ▸ at_)), keys_map_store]
      exact h6
    have fr := Obj.isFreed_of_dict (Obj.data_mapDict h3 fun l => l.modify i fun z => { z with val := v })
    exact wpAny_updateDict h1 h3 (q _ ⟨_, _, ep, Heap.get?_update_self _ h1 fr, h2.mapDict _, Obj.data_mapDict h3 _, h4.modify _ _, pairs, nd⟩ (Heap.SameBut.update ..))
  | none =>
    have out : k ∉ ks.map (·.1) := not_mem_of_findIdx_none (ix ▸ at_)
    have no : ¬ (ks.any fun y => decide (y.1 = k)) = true := fun z => by
      obtain ⟨y, hy, e⟩ := List.any_eq_true.mp z
      exact out (List.mem_map.mpr ⟨y, hy, of_decide_eq_true e⟩)
    have pairs : Pairs knd (xs.push ⟨knd.hash k, u, v⟩).toList (stored ks k v) := by
      rw [stored, if_neg no]
      have m := h5.append isK (knd.hash k) v
      obtain ⟨l⟩ := xs
      simpa using m
    have nd : ((stored ks k v).map (·.1)).Nodup := by
      rw [stored, if_neg no, List.map_append]
      refine List.nodup_append.mpr ⟨h6, by simp, fun y hy z hz e => ?_⟩
      rw [List.mem_singleton.mp hz] at e
      have e' : y = k := e
      rw [← e'] at out
      exact out hy
    have fr := Obj.isFreed_of_dict (Obj.data_mapDictKeys h3 fun l => l.push ⟨knd.hash k, u, v⟩)
    exact wpAny_updateDictKeys (hz := few) h1 h3 (q _ ⟨_, _, ep + 1, Heap.get?_update_self _ h1 fr, h2.mapDictKeys _, Obj.data_mapDictKeys h3 _, h4.push isK _, pairs, nd⟩ (Heap.SameBut.update ..))
theorem merge_at {a b : Addr} {ks more : List (Kt × Value)} {Q : Unit → Shared → Prop} (ne : a ≠ b) (low : (b == sysModules) = false) (ia : s.heap.DictOf knd a ks) (ib : s.heap.DictOf knd b more) (small : ks.length + more.length ≤ sizeLine)
    (noref : ∀ k u, knd.is k u = true → ∀ x, u ≠ Value.ref x) (q : ∀ g, g.DictOf knd a (merged ks more) → g.DictOf knd b more → Heap.SameBut a s.heap g → Q () { s with heap := g }) : wpAny (model prog w) A (mergeMapping a (.ref b) false) Q E s := by
  obtain ⟨oa, xa, pa, a1, a2, a3, a4, a5, a6⟩ := id ia
  obtain ⟨ob, xb, pb, b1, b2, b3, b4, b5, b6⟩ := id ib
  unfold mergeMapping
  refine wpAny_bind (wpAny_isInstance ib.typeIs isSubtype_dict_dict ?_)
  rw [if_pos rfl]
  refine wpAny_bind (wpAny_specialOf ib.typeIs PySem.F.slot_dict_iter.lookup ?_)
  refine wpAny_bind (wpAny_pure ?_)
  rw [show ((some (Value.builtin "dict.__iter__") : Option Value) == some (Value.builtin "dict.__iter__")) = true from by decide]
  dsimp only
  rw [low, if_neg Bool.false_ne_true]
  refine wpAny_bind (wpAny_dictEntries a1 a3 ?_)
  have size : xb.size = more.length := by
    rw [← b5.length, Array.length_toList]
  have rest : wpAny (model prog w) A (do
      let l ← dictEntries b
      let epoch ← dictEpoch b
      forIn (List.range l.size) PUnit.unit fun i _ => do
        let l ← dictEntries b
        match l[i]? with
        | some e => do
          holding [e.key, e.val] (dictPut a e.hash e.key e.val)
          let now ← dictEpoch b
          if (now != epoch) = true then do
            unsupported "dict.changed-during-merge"
            pure (ForInStep.yield PUnit.unit)
          else pure (ForInStep.yield PUnit.unit)
        | _ => do
          unsupported "dict.changed-during-merge"
          pure (ForInStep.yield PUnit.unit)
      pure ()) Q E s := by
    refine wpAny_bind (wpAny_dictEntries b1 b3 ?_)
    refine wpAny_bind (wpAny_dictEpoch b1 b3 ?_)
    refine wpAny_bind (wpAny_forIn_list _ (fun l _ s' => ∃ g i, s' = { s with heap := g } ∧ l = (List.range xb.size).drop i ∧ i ≤ xb.size ∧ g.DictOf knd a (merged ks (more.take i)) ∧ g.get? b = some ob ∧ Heap.SameBut a s.heap g) _ ?_ ?_ _ _
      ⟨s.heap, 0, rfl, rfl, Nat.zero_le _, by simpa [merged] using ia, b1, Heap.SameBut.refl _ _⟩)
    · rintro i l u s' ⟨g, j, rfl, hl, hj, ga, gb, gs⟩
      have jl : j < xb.size := by
        rcases Nat.lt_or_ge j xb.size with h | h
        · exact h
        · rw [List.drop_of_length_le (by rw [List.length_range]; exact h)] at hl
          cases hl
      rw [List.drop_eq_getElem_cons (by rw [List.length_range]; exact jl)] at hl
      obtain ⟨rfl, rfl⟩ := List.cons.inj hl
      rw [List.getElem_range]
      refine wpAny_bind (wpAny_dictEntries gb b3 ?_)
      rw [Array.getElem?_eq_getElem jl]
      obtain ⟨⟨k, v⟩, hkv⟩ : ∃ kv, more[j]? = some kv := ⟨_, List.getElem?_eq_getElem (by omega)⟩
      obtain ⟨isk, isv⟩ := b5.get? (e := xb[j]) (by simp [jl]) hkv
      obtain ⟨k', isk', hh⟩ := b4 xb[j] (Array.getElem_mem jl)
      have ek : k' = k := knd.inj _ _ _ isk' isk
      subst ek
      dsimp only
      rw [hh, isv]
      have lm := merged_length_le ks (more.take j)
      have lt : (more.take j).length ≤ more.length := by
        rw [List.length_take]
        omega
      refine wpAny_bind (wpAny_holding (put_at (s := { s with heap := g }) isk ga (by omega) fun g' ga' gs' => ?_))
      have gb' : g'.get? b = some ob := (gs'.2 b (Ne.symm ne)).trans gb
      refine wpAny_bind (wpAny_dictEpoch gb' b3 ?_)
      rw [if_neg (by simp)]
      exact wpAny_pure ⟨g', j + 1, rfl, rfl, jl, by rw [merged_take_succ ks more j (k', v) hkv]; exact ga', gb', gs.trans gs'⟩
    · rintro u s' ⟨g, j, rfl, hl, hj, ga, gb, gs⟩
      have ej : j = xb.size := by
        rcases Nat.lt_or_ge j xb.size with h | h
        · rw [List.drop_eq_getElem_cons (by rw [List.length_range]; exact h)] at hl
          cases hl
        · omega
      rw [ej, size, List.take_length] at ga
      exact wpAny_pure (q g ga ⟨ob, xb, pb, gb, b2, b3, b4, b5, b6⟩ gs)
  split
  · refine wpAny_bind (wpAny_dictEntries b1 b3 ?_)
    refine wpAny_bind (MeetsSeq2.wpAny_forIn_array _ (fun l _ s' => s' = s ∧ ∀ e ∈ l, e ∈ xb.toList) _ ?_ ?_ _ _ ⟨rfl, fun e h => h⟩)
    · rintro e l u s' ⟨rfl, hl⟩
      obtain ⟨k, hk, _⟩ := b4 e (by simpa using hl e List.mem_cons_self)
      have nr := noref k _ hk
      split
      · rename_i z ez
        exact absurd ez (nr z)
      · exact wpAny_pure ⟨rfl, fun x hx => hl x (List.mem_cons_of_mem _ hx)⟩
    · rintro u s' ⟨rfl, _⟩
      exact rest
  · exact rest
end
section
variable {X : L2.Cx} {de ke ve : Expr} {pos : Pos} {td tk tv : L2.TE}
def tDispU (td tk tv : L2.TE) : L2.TE := fun σ H Q => ∀ p, H p = none → td σ (L2.upd H p (.dK [])) fun x H1 => ∃ d kvs, x = .ref d ∧ d ≠ p ∧ H1 p = some (.dK []) ∧ L2.Rd H1 d (.dK kvs) ∧ (kvs.map (·.1)).Nodup ∧ kvs.length ≤ 100 ∧
  ∀ q, L2.upd H1 p (.dK kvs) q = none → tk σ (L2.upd (L2.upd H1 p (.dK kvs)) q (.dK [])) fun k H2 => tv σ H2 fun v H3 => ∃ y, k = L2.kV y ∧ H3 p = some (.dK kvs) ∧ H3 q = some (.dK []) ∧ Q (.ref p) (L2.upd (L2.upd H3 q (.dK [(y, v)])) p (.dK (L2.putK kvs y v)))
theorem pe_dispU (hd : L2.PE X de td) (hk : L2.PE X ke tk) (hv : L2.PE X ve tv) : L2.PE X (.Dict [none, some ke] [de, ve] pos) (tDispU td tk tv) := by
  refine ⟨fun pins s σ H Q I h => ?_⟩
  rw [arm_eval_Dict]
  refine wpAny_bind (wpAny_standAt ?_)
  show wpAny _ _ (dictDisplay [(none, do let x ← eval de X.env; standAt pos; pure x), (some (eval ke X.env), do let x ← eval ve X.env; standAt pos; pure x)]) _ _ _
  unfold dictDisplay
  dsimp only
  rw [List.forIn_cons]
  dsimp only
  have nor : ∀ (k : L2.Key) (u : Value), (L2.mixKind X.prog X.w).is k u = true → ∀ x, u ≠ Value.ref x := fun k u hk x e => by
    subst e
    have r := L2.relV_key (show L2.keyIs k (.ref x) = true from hk)
    cases k <;> (obtain ⟨_, e⟩ := r; cases e)
  have hn := I.hok.fresh (Nat.le_refl s.heap.objs.size)
  have I1 := I.laid (a := s.heap.objs.size) (o := .dK []) (h' := s.heap.push { cls := .type "dict", data := .dict #[] }) (t' := s.toks) (fun _ _ z => Heap.get?_push_of_some _ z) (Nat.le_refl _) (L2.dk_empty s.heap I.big)
  have h1 := h _ hn
  -- the first part: the other dict
  refine wpAny_bind (wpAny_bind (wpAny_bind ?_))
  rw [if_pos (show ([] : List (Sem Value × Sem Value)).isEmpty = true from rfl)]
  refine wpAny_pure (wpAny_bind (wpAny_alloc (wpAny_bind (wpAny_holding (wpAny_bind (L2.thn (hd.run pins _ σ _ _ I1 h1) fun u s1 ⟨x, H1, I2, rx, q⟩ => wpAny_bind (wpAny_standAt (wpAny_pure ?_))))))))
  obtain ⟨d, kvs, rfl, ndp, ep, ed, nd, len, q⟩ := q
  cases rx
  obtain ⟨_, lowp, v0, r0, dp⟩ := L2.dk_of I2.hok ep
  obtain ⟨_, lowd, more, rm, dd⟩ := L2.dk_rd I2.hok ed
  cases r0
  have ml : more.length = kvs.length := (Paired.length rm).symm
  refine wpAny_bind (wpAny_onRaise (wpAny_tryCatch (wpAny_onRaise (wpAny_holding (merge_at (knd := L2.mixKind X.prog X.w) (Ne.symm ndp) lowd dp dd (by rw [sizeLine_eq]; show 0 + more.length ≤ _; omega) nor fun g gp gd gs => ?_)))))
  have em : L2.mergeK [] kvs = kvs := by
    have e := merge_nd (more := kvs) (kvs := []) (by rw [List.nil_append]; exact nd)
    rwa [List.nil_append] at e
  have rg := L2.KV.merge (kvs := []) (vs := []) rm .nil
  rw [em] at rg
  have hep : ∃ z, g.get? s.heap.objs.size = some z := let ⟨z, _, _, hz, _⟩ := gp; ⟨z, hz⟩
  have I3 : L2.Inv X pins σ (L2.upd H1 s.heap.objs.size (.dK kvs)) { s1 with heap := g, toks := s1.toks } := L2.d_write I2 (by rw [ep]; exact True.intro) gs hep (L2.dk_new (by rw [sizeLine_eq]; omega) lowp rg gp)
  refine wpAny_pure ?_
  dsimp only
  rw [List.forIn_cons]
  dsimp only
  -- the second part: one pair
  refine wpAny_bind ?_
  rw [if_neg (by simp)]
  refine wpAny_pure ?_
  dsimp only
  rw [List.forIn_nil]
  refine wpAny_pure ?_
  dsimp only
  refine wpAny_bind ?_
  rw [if_neg (by simp)]
  have hq := I3.hok.fresh (Nat.le_refl g.objs.size)
  have I4 := I3.laid (a := g.objs.size) (o := .dK []) (h' := g.push { cls := .type "dict", data := .dict #[] }) (t' := s1.toks) (fun _ _ z => Heap.get?_push_of_some _ z) (Nat.le_refl _) (L2.dk_empty g I3.big)
  refine wpAny_bind (wpAny_holding (wpAny_subDict (knd := L2.mixKind X.prog X.w) (by simp) (evalPairs_cons (L2.thn (hk.run pins _ σ _ _ I4 (q _ hq)) fun u2 s2 ⟨k, H2, I5, rk, q5⟩ =>
    wpAny_bind (L2.thn (hv.run pins _ σ _ _ I5 q5) fun u3 s3 ⟨v, H3, I6, rv, q6⟩ => wpAny_bind (wpAny_standAt (wpAny_pure (evalPairs_nil ?_))))))))
  obtain ⟨y, rfl, ep3, eq3, fin⟩ := q6
  obtain ⟨_, lowq, v0, r0, dq⟩ := L2.dk_of I6.hok eq3
  cases r0
  refine ⟨[(y, u3)], ⟨L2.kV_is rk, rfl, True.intro⟩, dq, fun g2 d2 s2' => ?_⟩
  have heq : ∃ z, g2.get? g.objs.size = some z := let ⟨z, _, _, hz, _⟩ := d2; ⟨z, hz⟩
  have rq := L2.KV.merge (more := [(y, v)]) (rs := [(y, u3)]) (kvs := []) (vs := []) (.cons ⟨rfl, rv⟩ .nil) .nil
  have I7 := L2.d_write (t' := s3.toks + [(u2, u3)].length) I6 (by rw [eq3]; exact True.intro) s2' heq (L2.dk_new (by rw [sizeLine_eq]; show 1 ≤ _; omega) lowq rq d2)
  have npq : s.heap.objs.size ≠ g.objs.size := fun e => by
    rw [← e, L2.upd_same] at hq
    cases hq
  have ep4 : L2.upd H3 g.objs.size (.dK (L2.mergeK [] [(y, v)])) s.heap.objs.size = some (.dK kvs) := by
    rw [L2.upd_ne npq]
    exact ep3
  obtain ⟨_, _, vp, rp, dp4⟩ := L2.dk_of I7.hok ep4
  obtain ⟨_, _, vq, rq4, dq4⟩ := L2.dk_of I7.hok (L2.upd_same (H := H3) (a := g.objs.size) (o := .dK (L2.mergeK [] [(y, v)])))
  have lp4 := Paired.length rp
  have lq4 := Paired.length rq4
  have one : (L2.mergeK [] [(y, v)]).length = 1 := rfl
  refine wpAny_bind (wpAny_onRaise (wpAny_holding (merge_at (knd := L2.mixKind X.prog X.w) npq lowq dp4 dq4 (by rw [sizeLine_eq]; omega) nor fun g3 gp3 _ gs3 => ?_)))
  have hep3 : ∃ z, g3.get? s.heap.objs.size = some z := let ⟨z, _, _, hz, _⟩ := gp3; ⟨z, hz⟩
  have rm3 := L2.KV.merge rq4 rp
  have lm3 := L2.length_mergeK (L2.mergeK [] [(y, v)]) kvs
  have I8 := L2.d_write (t' := s3.toks + [(u2, u3)].length) I7 (by rw [ep4]; exact True.intro) gs3 hep3 (L2.dk_new (by rw [sizeLine_eq]; omega) lowp rm3 gp3)
  refine wpAny_pure ?_
  exact wpAny_pure ⟨.ref s.heap.objs.size, _, I8, rfl, fin⟩
end
end G
/-! Needless pieces; books made of parts of books. -/
namespace G
open PySem PySem.Spec PyProof.Rows L2
/-! ### books by their signs -/
structure Sgs (kvs : List (Key × V)) (sg : List Nat) : Prop where
  ok : PrOk sg kvs
  n1 : 1 ≤ sg.length
  n4 : sg.length ≤ 4
  lt : ∀ c ∈ sg, lett c = true
  tf : ∀ c, (∃ q, tfD kvs (ch c) = some q) ↔ c ∈ sg
theorem sgs_of {kvs : List (Key × V)} (av : arePrices kvs = true) (nd : (kvs.map (·.1)).Nodup) : ∃ sg, Sgs kvs sg := by
  obtain ⟨⟨n1, n2⟩, al, n4, _⟩ := ap_parts av
  have tar := tar_of av nd
  have mem : ∀ c, c ∈ (((keyStrs kvs).filter fun z => decide ((cs z).length = 1)).map cs).flatten ↔ ch c ∈ keyStrs kvs := fun c => by
    rw [List.mem_flatten]
    constructor
    · rintro ⟨l, hl, hc⟩
      obtain ⟨z, hz, rfl⟩ := List.mem_map.mp hl
      obtain ⟨h1, h2⟩ := List.mem_filter.mp hz
      obtain ⟨d, rfl⟩ := G.one_sign (z := z) (by simpa using h2)
      have e : c = d := by simpa [cs] using hc
      rw [e]
      exact h1
    · intro h
      exact ⟨[c], List.mem_map.mpr ⟨ch c, List.mem_filter.mpr ⟨h, rfl⟩, rfl⟩, List.mem_cons_self⟩
  have len : (((keyStrs kvs).filter fun z => decide ((cs z).length = 1)).map cs).flatten.length = ((keyStrs kvs).filter fun z => decide ((cs z).length = 1)).length := by
    rw [List.length_flatten, List.map_map]
    have : ∀ l : List Str, (∀ z ∈ l, (cs z).length = 1) → (l.map (List.length ∘ cs)).sum = l.length := by
      intro l h
      induction l with
      | nil => rfl
      | cons a r ih =>
        rw [List.map_cons, List.sum_cons, ih fun z hz => h z (List.mem_cons_of_mem _ hz), List.length_cons]
        have := h a List.mem_cons_self
        show (cs a).length + _ = _
        omega
    exact this _ fun z hz => by simpa using (List.mem_filter.mp hz).2
  have tf : ∀ c, (∃ q, tfD kvs (ch c) = some q) ↔ c ∈ (((keyStrs kvs).filter fun z => decide ((cs z).length = 1)).map cs).flatten := fun c => by
    rw [mem, tf_key al]
  refine ⟨_, ⟨fun kv hkv => ?_, nd⟩, ?_, by rw [len]; exact n4, fun c hc => ?_, tf⟩
  · obtain ⟨z, p, rfl, hp⟩ := tar.mem kv hkv
    exact ⟨z, p, rfl, tar.good.len z p hp, fun c hc => (tf c).mp (tar.good.cov z p hp c hc), tar.good.pos z p hp⟩
  · cases kvs with
    | nil => simp at n1
    | cons a r =>
      obtain ⟨z, p, rfl, hp⟩ := tar.mem a List.mem_cons_self
      have h1 := (tar.good.len z p hp).1
      obtain ⟨c, hc⟩ : ∃ c, c ∈ cs z := by
        cases e : cs z with
        | nil =>
          rw [e] at h1
          simp at h1
        | cons c _ => exact ⟨c, List.mem_cons_self⟩
      exact List.length_pos_of_mem ((tf c).mp (tar.good.cov z p hp c hc))
  · exact (keyStrs_piece al (ch c) ((mem c).mp hc)).2.2 c (by simp [cs])
/-- some of a book's pieces, all signs among them -/
theorem ap_sub {kvs kvs' : List (Key × V)} (av : arePrices kvs = true) (nd : (kvs.map (·.1)).Nodup) (nd' : (kvs'.map (·.1)).Nodup) (sub : ∀ kv ∈ kvs', kv ∈ kvs) (one : ∀ c, (∃ q, tfD kvs (ch c) = some q) → ∃ q, tfD kvs' (ch c) = some q) (len : kvs'.length ≤ 12) :
    arePrices kvs' = true ∧ ∀ c, (∃ q, tfD kvs' (ch c) = some q) ↔ ∃ q, tfD kvs (ch c) = some q := by
  obtain ⟨sg, S⟩ := sgs_of av nd
  have P : PrOk sg kvs' := ⟨fun kv h => S.ok.mem kv (sub kv h), nd'⟩
  obtain ⟨h1, h2⟩ := P.right (fun c hc => by
    obtain ⟨q, hq⟩ := one c ((S.tf c).mpr hc)
    rw [tf_some.mp hq]
    rfl) S.lt S.n4 S.n1 len
  exact ⟨h1, fun c => by rw [h2 c, S.tf c]⟩
theorem tf_put {kvs : List (Key × V)} {z y : Str} {p : Int} : tfD (putK kvs (Sum.inr z) (.int p)) y = if y = z then some p else tfD kvs y := by
  unfold tfD
  rw [valV_put]
  by_cases h : y = z
  · subst h
    rw [if_pos rfl, if_pos rfl]
  · rw [if_neg (fun e => h (Sum.inr.inj e)), if_neg h]
/-- a further piece, or another price -/
theorem ap_put {kvs : List (Key × V)} {z : Str} {p : Int} (av : arePrices kvs = true) (nd : (kvs.map (·.1)).Nodup) (len : kvs.length ≤ 11) (lz : 1 ≤ (cs z).length ∧ (cs z).length ≤ 5) (ov : Over (tfD kvs) (cs z)) (hp : 1 ≤ p ∧ p ≤ 99) :
    arePrices (putK kvs (Sum.inr z) (.int p)) = true ∧ ((putK kvs (Sum.inr z) (.int p)).map (·.1)).Nodup := by
  obtain ⟨sg, S⟩ := sgs_of av nd
  have P : PrOk sg (putK kvs (Sum.inr z) (.int p)) := S.ok.put lz (fun c hc => (S.tf c).mp (ov c hc)) hp
  have h1 := put_len (kvs := kvs) (k := Sum.inr z) (v := .int p)
  refine ⟨(P.right (fun c hc => ?_) S.lt S.n4 S.n1 (by omega)).1, P.nd⟩
  rw [valV_put]
  split
  · rfl
  · obtain ⟨q, hq⟩ := (S.tf c).mpr hc
    rw [tf_some.mp hq]
    rfl
/-! ### needless pieces -/
def remF (F : Tf) (z : Str) : Tf := fun y => if y = z then none else F y
def Needless (F : Tf) (z : Str) : Prop := ∃ p, F z = some p ∧ 1 < (cs z).length ∧ lp (remF F z) (cs z) ≤ p
theorem rem_good {F : Tf} (G : Good F) {z : Str} (hz : 1 < (cs z).length) : Good (remF F z) := by
  have sub : ∀ {y p}, remF F z y = some p → F y = some p := fun {y p} h => by
    unfold remF at h
    split at h
    · cases h
    · exact h
  refine ⟨fun y p h => G.pos y p (sub h), fun y p h => G.len y p (sub h), fun y p h c hc => ?_⟩
  obtain ⟨q, hq⟩ := G.cov y p (sub h) c hc
  refine ⟨q, ?_⟩
  unfold remF
  rw [if_neg fun e => ?_]
  · exact hq
  · rw [← e] at hz
    exact absurd (show 1 < 1 from hz) (by decide)
theorem rem_over {F : Tf} {z : Str} {l : List Nat} (hz : 1 < (cs z).length) (o : Over F l) : Over (remF F z) l := fun c hc => by
  obtain ⟨q, hq⟩ := o c hc
  refine ⟨q, ?_⟩
  unfold remF
  rw [if_neg fun e => ?_]
  · exact hq
  · rw [← e] at hz
    exact absurd (show 1 < 1 from hz) (by decide)
/-! ### dict comprehensions with a test -/
section
variable {α : Type} {J : It} {G : Hp → Prop} {Y : Nat → Hp → V → Hp → Prop}
theorem dcsF (its : List α) (w : Walk J its.length G Y) (keep : α → Bool) (h : α → Key × V) (nd : (its.map fun a => (h a).1).Nodup) {g : TG} {tt : TT} {tk tv : TE} {vs : List Nat} {σ : L2.St} {H1 : Hp} {D : Addr} {Qd : Hp → Prop} (hD : H1 D = none) (hz : its.length ≤ 100000) (hG : ∀ H, Same H1 H → G H)
    (hs : ∀ i a x H H', its[i]? = some a → Same H1 H → Y i H x H' → ∀ (N : V → V → Hp → Prop) (M : Hp → Prop), (∀ H3, keep a = true → Same H H3 → N (kV (h a).1) (h a).2 H3) → (∀ H3, keep a = false → Same H H3 → M H3) →
      g x (wipe σ vs) H' fun σ2 H2 => wipe σ2 vs = wipe σ vs ∧ tt σ2 H2 fun b H3 => if b = true then tk σ2 H3 fun y H4 => tv σ2 H4 fun z H5 => N y z H5 else M H3)
    (hd : ∀ H, Same H1 H → H D = some (.dK ((its.filter keep).map h)) → Qd H) :
    ∃ W : Nat → Nat → Hp → Prop, (∃ m, W 0 m (upd H1 D (.dK []))) ∧ ∀ i m H, W i m H →
      (J.stop i H ∧ Qd H) ∨ (J.go i H ∧ ∃ Nx : Hp → Prop, (∀ H', Nx H' → ∃ m', m' < m ∧ W (i + 1) m' H') ∧ ∀ x H', J.yld i H x H' → g x (wipe σ vs) H' fun σ2 H2 => wipe σ2 vs = wipe σ vs ∧ tt σ2 H2 fun b H3 =>
        if b = true then tk σ2 H3 fun y H4 => tv σ2 H4 fun z H5 => ∃ kvs k, y = kV k ∧ H5 D = some (.dK kvs) ∧ kvs.length < sizeLine ∧ Nx (upd H5 D (.dK (putK kvs k z))) else Nx H3) := by
  refine ⟨fun i m H => m = its.length - i ∧ i ≤ its.length ∧ Same H1 H ∧ H D = some (.dK (((its.take i).filter keep).map h)), ⟨_, rfl, Nat.zero_le _, same_new hD, upd_same⟩, ?_⟩
  rintro i m H ⟨rfl, hi, s, e⟩
  by_cases hlt : i < its.length
  · obtain ⟨a, ha⟩ : ∃ a, its[i]? = some a := ⟨_, List.getElem?_eq_getElem hlt⟩
    refine .inr ⟨w.goes i H hlt (hG H s), fun H' => Same H1 H' ∧ H' D = some (.dK (((its.take (i + 1)).filter keep).map h)), fun H' q => ⟨its.length - (i + 1), by omega, rfl, hlt, q⟩, ?_⟩
    intro x H' y
    have e1 : its.take (i + 1) = its.take i ++ [a] := by
      rw [List.take_add_one, ha]
      rfl
    refine hs i a x H H' ha s (w.yields i H x H' hlt (hG H s) y) _ _ (fun H3 kp s3 => ⟨_, (h a).1, rfl, s3 _ _ e, ?_, fun b o q => ?_, ?_⟩) fun H3 kp s3 => ⟨s.trans s3, ?_⟩
    · have h1 := List.length_filter_le keep (its.take i)
      rw [List.length_take] at h1
      rw [List.length_map]
      exact Nat.lt_of_le_of_lt (by omega : _ ≤ 100000) (by decide)
    · rw [upd_ne (ne_of_none q hD)]
      exact s3 _ _ (s _ _ q)
    · have e2 : valV (((its.take i).filter keep).map h) (h a).1 = none := valV_none fun m => by
        rw [List.map_map] at m
        have nd' : ((its.take (i + 1)).map fun a => (h a).1).Nodup := nd.sublist ((List.take_sublist _ _).map _)
        rw [e1, List.map_append] at nd'
        obtain ⟨b, hb, eb⟩ := List.mem_map.mp m
        exact (List.nodup_append.mp nd').2.2 _ (List.mem_map.mpr ⟨b, (List.mem_filter.mp hb).1, eb⟩) _ (List.mem_singleton.mpr rfl) rfl
      rw [upd_same, putK_new _ e2, e1, List.filter_append, List.map_append]
      have : [a].filter keep = [a] := by simp [kp]
      rw [this]
      rfl
    · have : [a].filter keep = [] := by simp [kp]
      rw [e1, List.filter_append, this, List.append_nil]
      exact s3 _ _ e
  · have ei : i = its.length := by omega
    subst ei
    refine .inl ⟨w.stops H (hG H s), hd H s ?_⟩
    rw [e, List.take_length]
end
noncomputable def needB (kvs : List (Key × V)) (z : Str) : Bool := decide (1 < (cs z).length) && decide (lp (remF (tfD kvs) z) (cs z) ≤ priceIn kvs z)
def others (kvs : List (Key × V)) (ys : List Str) (z : Str) : List (Key × V) := (ys.filter fun y => !decide (y = z)).map fun y => (Sum.inr y, .int (priceIn kvs y))
theorem tf_others {kvs : List (Key × V)} {ys : List Str} {z : Str} (al : (kvs.all fun kv => isPiece (kV kv.1) && isPrice kv.2) = true) (pm : ys.Perm (keyStrs kvs)) : tfD (others kvs ys z) = remF (tfD kvs) z := by
  funext y
  have e := congrFun (tf_psOf al pm) y
  unfold tfD at e ⊢
  rw [kvOf_ps, val_fun] at e
  unfold others remF
  rw [val_fun]
  by_cases h : y = z
  · rw [if_pos h, if_neg (fun q => by simpa [h] using (List.mem_filter.mp q).2)]
  · rw [if_neg h]
    by_cases m : y ∈ ys
    · rw [if_pos m] at e
      rw [if_pos (List.mem_filter.mpr ⟨m, by simp [h]⟩)]
      exact e
    · rw [if_neg m] at e
      rw [if_neg fun q => m (List.mem_filter.mp q).1]
      exact e
theorem tar_others {kvs : List (Key × V)} {ys : List Str} {z : Str} (av : arePrices kvs = true) (pm : ys.Perm (keyStrs kvs)) (ndy : ys.Nodup) (len : ys.length ≤ 1000) (hz : 1 < (cs z).length) : Tar (others kvs ys z) := by
  obtain ⟨_, al, _, _⟩ := ap_parts av
  have e := tf_others (z := z) al pm
  refine ⟨by rw [e]; exact rem_good (good_of av) hz, fun kv hkv => ?_, ?_⟩
  · obtain ⟨y, hy, rfl⟩ := List.mem_map.mp hkv
    refine ⟨y, priceIn kvs y, rfl, ?_⟩
    unfold tfD others
    rw [val_fun, if_pos hy]
  · unfold others
    rw [List.length_map]
    exact Nat.le_trans (List.length_filter_le _ _) len
theorem ne_key {y z : Str} {b : Bool} (q : (!decide (V.str y = kV (Sum.inr z))) = b) : (!decide (y = z)) = b := by
  rw [← q]
  have e : decide (V.str y = kV (Sum.inr z)) = decide (y = z) := decide_eq_decide.mpr ⟨fun h => V.str.inj h, fun h => congrArg V.str h⟩
  rw [e]
def partK (kvs : List (Key × V)) (ys : List Str) (q : Str → Bool) : List (Key × V) := (ys.filter q).map fun y => (Sum.inr y, .int (priceIn kvs y))
theorem tf_part {kvs : List (Key × V)} {ys : List Str} {q : Str → Bool} (al : (kvs.all fun kv => isPiece (kV kv.1) && isPrice kv.2) = true) (pm : ys.Perm (keyStrs kvs)) (z : Str) : tfD (partK kvs ys q) z = if q z = true then tfD kvs z else none := by
  have e := congrFun (tf_psOf al pm) z
  unfold tfD at e ⊢
  rw [kvOf_ps, val_fun] at e
  unfold partK
  rw [val_fun]
  by_cases h : q z = true
  · rw [if_pos h]
    by_cases m : z ∈ ys
    · rw [if_pos m] at e
      rw [if_pos (List.mem_filter.mpr ⟨m, h⟩)]
      exact e
    · rw [if_neg m] at e
      rw [if_neg fun w => m (List.mem_filter.mp w).1]
      exact e
  · rw [if_neg h, if_neg fun w => h (List.mem_filter.mp w).2]
theorem part_book {kvs : List (Key × V)} {ys : List Str} {q : Str → Bool} (av : arePrices kvs = true) (nd : (kvs.map (·.1)).Nodup) (pm : ys.Perm (keyStrs kvs)) (one : ∀ c, (∃ p, tfD kvs (ch c) = some p) → q (ch c) = true) :
    arePrices (partK kvs ys q) = true ∧ ((partK kvs ys q).map (·.1)).Nodup := by
  obtain ⟨⟨_, n2⟩, al, _, _⟩ := ap_parts av
  have ndy : ys.Nodup := pm.nodup_iff.mpr (keys_nd al nd)
  have ly : ys.length ≤ 12 := by
    have h := congrArg List.length (keys_of al)
    rw [List.length_map, List.length_map] at h
    rw [pm.length_eq]
    omega
  have nd' : ((partK kvs ys q).map (·.1)).Nodup := by
    unfold partK
    rw [List.map_map]
    exact List.pairwise_map.mpr (List.Pairwise.imp (R := fun a b : Str => a ≠ b) (fun h e => h (Sum.inr.inj e)) (ndy.filter _))
  refine ⟨(ap_sub av nd nd' (fun kv hkv => ?_) (fun c hc => ?_) ?_).1, nd'⟩
  · obtain ⟨y, hy, rfl⟩ := List.mem_map.mp hkv
    exact valV_mem (price_of_key al (pm.mem_iff.mp (List.mem_filter.mp hy).1)).1
  · obtain ⟨p, hp⟩ := hc
    exact ⟨p, by rw [tf_part al pm, if_pos (one c ⟨p, hp⟩)]; exact hp⟩
  · unfold partK
    rw [List.length_map]
    exact Nat.le_trans (List.length_filter_le _ _) ly
theorem need_sign {F : Tf} {c : Nat} : ¬ Needless F (ch c) := fun ⟨_, _, h, _⟩ => absurd (show 1 < 1 from h) (by decide)
/-! ### promises -/
def spNeedIn (C : Addr) : Sp := fun vs H Q _ => ∃ b kvs, vs = [.ref b] ∧ Book1 C H b kvs ∧ ∀ p (zs : List Str) H', H p = none → H' p = some (.lst (zs.map V.str)) → (∀ z, z ∈ zs ↔ Needless (tfD kvs) z) → (zs.Pairwise (fun y z => cs y ≤ cs z) ∧ zs.Nodup) → Same H H' → Q (.ref p) H'
def spNeed (C : Addr) : Sp := fun vs H Q _ => ∃ b kvs, vs = [.ref b] ∧ Book1 C H b kvs ∧ ∀ p (zs : List Str) H', H p = none → H' p = some (.tup (zs.map V.str)) → (∀ z, z ∈ zs ↔ Needless (tfD kvs) z) → (zs.Pairwise (fun y z => cs y ≤ cs z) ∧ zs.Nodup) → Same H H' → Q (.ref p) H'
def spLeast (C : Addr) : Sp := fun vs H Q _ => ∃ b kvs, vs = [.ref b] ∧ Book1 C H b kvs ∧ ∀ p kvs' H', Book1 C H' p kvs' → (∀ z q, tfD kvs' z = some q ↔ tfD kvs z = some q ∧ ¬ Needless (tfD kvs) z) → Same H H' → Q (.ref p) H'
def spResult (C : Addr) : Sp := fun vs H Q _ => ∃ d kvs, vs = [.ref d] ∧ H d = some (.dK kvs) ∧ arePrices kvs = true ∧ (kvs.map (·.1)).Nodup ∧ ∀ p H', Book1 C H' p kvs → Same H H' → Q (.ref p) H'
def spWith (C : Addr) : Sp := fun vs H Q _ => ∃ b kvs z p, vs = [.ref b, .str z, .int p] ∧ Book1 C H b kvs ∧ kvs.length ≤ 11 ∧ (1 ≤ (cs z).length ∧ (cs z).length ≤ 5) ∧ Over (tfD kvs) (cs z) ∧ (1 ≤ p ∧ p ≤ 99) ∧
  ∀ b' kvs' H', Book1 C H' b' kvs' → (∀ y, tfD kvs' y = if y = z then some p else tfD kvs y) → kvs'.length ≤ kvs.length + 1 → Same H H' → Q (.ref b') H'
/-- own in, of a text -/
def spHasKey (C : Addr) : Sp := fun vs H Q _ => ∃ b kvs z, vs = [.ref b, .str z] ∧ Book1 C H b kvs ∧ z.length ≤ 8000 ∧ ∀ H', Same H H' → Q (.bl (tfD kvs z).isSome) H'
/-! ### name = {k: v for ..}, the name a local -/
section
variable {X : L2.Cx}
abbrev AllBlk (X : L2.Cx) (scope : Scope) (P : L2.Cx → Prop) : Prop := ∀ (s : Shared) (H : L2.Hp) (C : Addr) (cl : List (Str × Addr)) (fp : List Addr), P (X.blk s H scope (compEnvC scope cl C X.env) fp)
theorem ps_setDc {i : Nat} {y : Str} {py : Pos} {kx vx tg iter : Expr} {ifs : List Expr} {scope : Scope} {own : List (Str × Nat)} {pos spos : Pos} {wi : TI} {g : TG} {tt : TT} {tk tv : TE} (hc : X.calm = true) (hN : X.N.Nodup) (hy : X.N[i]? = some y) (hyl : X.env.scope.names.lookup y = some .local)
    (hsw : swapsWith (.DictComp kx vx [⟨tg, iter, ifs, 0⟩] scope pos) (some (.Name y py)) spos.line X.env = pure true) (hi : PI X tg iter wi) (ok : BlkOk X.N X.env.scope scope own)
    (hg : AllBlk X scope fun B => PG B tg g) (ht : AllBlk X scope fun B => PTs B ifs tt) (hk : AllBlk X scope fun B => PE B kx tk) (he : AllBlk X scope fun B => PE B vx tv)
    (hs : ∀ x, foldedSetIterable iter X.env x = pure x := by intro _; rfl) : PS X (.Assign [.Name y py] (.DictComp kx vx [⟨tg, iter, ifs, 0⟩] scope pos) spos) (tAsg (tDc wi g tt tk tv (own.map (·.2))) (gName i)) := by
  refine ⟨fun pins s σ H D I h => ?_⟩
  rw [exec_Assign_Name_used _ _ _ _ hsw]
  refine wpAny_bind (wpAny_standAt (wpAny_bind ?_))
  show wpAny _ X.A (do let _ ← comprehension (.DictComp kx vx [⟨tg, iter, ifs, 0⟩] scope pos) scope X.env (firstIterPos [⟨tg, iter, ifs, 0⟩] pos) newDict false (eval iter X.env) (some (assign (.Name y py) X.env))) _ _ s
  have h : tDc wi g tt tk tv (own.map (·.2)) σ H (fun x H1 => gName i x σ H1 D.nx) := h
  refine wpAny_bind (thn (dc_core (Qf := fun _ s' => SP X pins D .next s') hc hN I hi ok hg ht hk he hs h fun L C s' m H' I' q hn f => ?_) fun _ s' hq => wpAny_pure (wpAny_pure hq))
  show wpAny _ _ (assign (.Name y py) X.env (.ref L)) _ _ _
  refine wpAny_assign_Name (store_ok2 (v := V.ref L) I' hN hy (.inl hyl) rfl (fun s2 I2 ⟨a, sb, ha⟩ => ?_) (.inr hyl))
  obtain ⟨f0, f1, f2, f3, f4, f5⟩ := f
  have other : C ≠ a := by
    rcases ha with z | z
    · rw [z]
      exact f1
    · exact fun e => f4 y a z e.symm
  exact ⟨m, hn.sameBut sb other, fun h3 sb3 => ⟨_, H', I2.turned (t' := s2.toks) (fun b o hb e => (sb3.2 b hb).trans e) f0 f1 f3 f4 f5, q⟩⟩
theorem sw_trueD {kx vx : Expr} {gs : List Comprehension} {scope : Scope} {pos py : Pos} {y : Str} {l : Nat} {env : Env} (hk : env.scope.kind = .function) (hy : env.scope.names.lookup y = some .local) (hl : (py.line == pos.line) = true)
    (ha : (scope.names.any fun (n, k) => n == y && (k == .local || k == .cell)) = false) : swapsWith (.DictComp kx vx gs scope pos) (some (.Name y py)) l env = pure true := by
  have kind : env.kindOf y = some .local := hy
  have fn : env.blockKind = .function := by
    unfold Env.blockKind
    rw [hk]
    rfl
  unfold swapsWith
  simp only [fn, kind, ha, Expr.pos, hl]
  rfl
end
end G
/-! All cuts of a text, as lists of pieces. -/
namespace G
open PySem PySem.Spec PyProof.Rows L2
def IsCut (F : Tf) (l : List Nat) (c : List Str) : Prop := (∀ y ∈ c, ∃ p, F y = some p) ∧ (c.map cs).flatten = l
/-- a list of objects that are just the cuts -/
structure CutsAt (H : Hp) (F : Tf) (l : List Nat) (ws : List (Addr × List Str)) : Prop where
  at_ : ∀ w ∈ ws, H w.1 = some (.tup (w.2.map V.str))
  all : ∀ c, (∃ w ∈ ws, w.2 = c) ↔ IsCut F l c
  len : ws.length ≤ 2 ^ l.length
theorem CutsAt.same {H H' : Hp} {F : Tf} {l : List Nat} {ws : List (Addr × List Str)} (C : CutsAt H F l ws) (s : Same H H') : CutsAt H' F l ws := ⟨fun w hw => s _ _ (C.at_ w hw), C.all, C.len⟩
theorem cut_nil {F : Tf} (G : Good F) {c : List Str} : IsCut F [] c ↔ c = [] := by
  constructor
  · rintro ⟨h1, h2⟩
    cases c with
    | nil => rfl
    | cons y r =>
      obtain ⟨p, hp⟩ := h1 y List.mem_cons_self
      have h3 := (G.len y p hp).1
      have h4 := congrArg List.length h2
      rw [List.map_cons, List.flatten_cons, List.length_append] at h4
      have h5 : (cs y).length + (r.map cs).flatten.length = 0 := h4
      omega
  · rintro rfl
    exact ⟨fun _ h => (List.not_mem_nil h).elim, rfl⟩
/-- the cuts that end with a piece that begins ahead of s -/
def CutTo (F : Tf) (l : List Nat) (s : Nat) (c : List Str) : Prop := ∃ a y, a < s ∧ (∃ p, F y = some p) ∧ (cs y) = l.drop a ∧ ∃ d, IsCut F (l.take a) d ∧ c = d ++ [y]
theorem cut_to {F : Tf} (G : Good F) {l : List Nat} (ne : l ≠ []) {c : List Str} : CutTo F l l.length c ↔ IsCut F l c := by
  constructor
  · rintro ⟨a, y, ha, hy, e, d, ⟨h1, h2⟩, rfl⟩
    refine ⟨fun z hz => ?_, ?_⟩
    · rcases List.mem_append.mp hz with h | h
      · exact h1 z h
      · rw [List.mem_singleton.mp h]
        exact hy
    · rw [List.map_append, List.flatten_append, h2]
      show _ ++ [cs y].flatten = _
      rw [List.flatten_singleton, e, List.take_append_drop]
  · rintro ⟨h1, h2⟩
    have nc : c ≠ [] := fun q => ne (by rw [← h2, q]; rfl)
    obtain ⟨d, y, rfl⟩ : ∃ d y, c = d ++ [y] := ⟨c.dropLast, c.getLast nc, (List.dropLast_concat_getLast nc).symm⟩
    rw [List.map_append, List.flatten_append] at h2
    have h2' : (d.map cs).flatten ++ cs y = l := by
      rw [← h2]
      show _ = _ ++ [cs y].flatten
      rw [List.flatten_singleton]
    obtain ⟨p, hp⟩ := h1 y (List.mem_append_right _ List.mem_cons_self)
    have n1 := (G.len y p hp).1
    have e : l.length = (d.map cs).flatten.length + (cs y).length := by rw [← h2', List.length_append]
    refine ⟨(d.map cs).flatten.length, y, by omega, ⟨p, hp⟩, ?_, d, ⟨fun z hz => h1 z (List.mem_append_left _ hz), ?_⟩, rfl⟩
    · rw [← h2', List.drop_left]
    · rw [← h2', List.take_left]
theorem cut_zero {F : Tf} {l : List Nat} {c : List Str} : ¬ CutTo F l 0 c := fun ⟨_, _, h, _⟩ => absurd h (Nat.not_lt_zero _)
theorem cut_succ {F : Tf} {l : List Nat} {s : Nat} {c : List Str} : CutTo F l (s + 1) c ↔ CutTo F l s c ∨ ∃ y, (∃ p, F y = some p) ∧ cs y = l.drop s ∧ ∃ d, IsCut F (l.take s) d ∧ c = d ++ [y] := by
  constructor
  · rintro ⟨a, y, ha, r⟩
    rcases Nat.lt_or_ge a s with h | h
    · exact Or.inl ⟨a, y, h, r⟩
    · have e : a = s := by omega
      subst e
      exact Or.inr ⟨y, r⟩
  · rintro (⟨a, y, ha, r⟩ | ⟨y, r⟩)
    · exact ⟨a, y, by omega, r⟩
    · exact ⟨s, y, by omega, r⟩
def spCuts : Sp := fun vs H Q _ => ∃ d kvs z, vs = [.ref d, .str z] ∧ H d = some (.dK kvs) ∧ Tar kvs ∧ z.length ≤ 5 ∧
  ∀ p ws H', H' p = some (.lst (ws.map fun w : Addr × List Str => V.ref w.1)) → CutsAt H' (tfD kvs) (cs z) ws → Same H H' → Q (.ref p) H'
/-! ### the cheapest cut -/
def sumOf (F : Tf) (c : List Str) : Int := (c.map fun y => (F y).getD 0).sum
theorem fee_sum {F : Tf} : ∀ {c : Ps}, (∀ p ∈ c, F p.1 = some p.2) → sumOf F (c.map (·.1)) = fee c
  | [], _ => rfl
  | q :: r, h => by
    have h1 := h q List.mem_cons_self
    have ih := fee_sum (c := r) fun p hp => h p (List.mem_cons_of_mem _ hp)
    rw [fee_cons, ← ih]
    show ((F q.1).getD 0 :: (r.map (·.1)).map fun y => (F y).getD 0).sum = _
    rw [List.sum_cons, h1]
    rfl
theorem cut_iff {F : Tf} {l : List Nat} {d : List Str} : IsCut F l d ↔ ∃ c, Cut F l c ∧ c.map (·.1) = d := by
  constructor
  · rintro ⟨h1, h2⟩
    refine ⟨d.map fun y => (y, (F y).getD 0), ⟨fun p hp => ?_, ?_⟩, ?_⟩
    · obtain ⟨y, hy, rfl⟩ := List.mem_map.mp hp
      obtain ⟨q, hq⟩ := h1 y hy
      rw [hq]
      rfl
    · rw [List.map_map]
      exact h2
    · rw [List.map_map]
      exact List.map_id' d
  · rintro ⟨c, ⟨h1, h2⟩, rfl⟩
    refine ⟨fun y hy => ?_, ?_⟩
    · obtain ⟨p, hp, rfl⟩ := List.mem_map.mp hy
      exact ⟨p.2, h1 p hp⟩
    · rw [List.map_map]
      exact h2
/-- the least of all sums is the cheapest price -/
theorem cuts_min {F : Tf} {l : List Nat} {H : Hp} {ws : List (Addr × List Str)} (G : Good F) (o : Over F l) (C : CutsAt H F l ws) : 0 < (ws.map fun w => sumOf F w.2).length ∧ ∀ m, m ∈ ws.map (fun w => sumOf F w.2) → (∀ y ∈ ws.map (fun w => sumOf F w.2), m ≤ y) → m = lp F l := by
  have mem : ∀ c, Cut F l c → fee c ∈ ws.map fun w => sumOf F w.2 := fun c hc => by
    obtain ⟨w, hw, e⟩ := (C.all _).mpr (cut_iff.mpr ⟨c, hc, rfl⟩)
    exact List.mem_map.mpr ⟨w, hw, by rw [e, fee_sum hc.1]⟩
  constructor
  · obtain ⟨c, hc, _⟩ := lp_cut G o
    exact List.length_pos_of_mem (mem c hc)
  · intro m hm hle
    refine (lp_of ⟨?_, fun c hc => hle _ (mem c hc)⟩).symm
    obtain ⟨w, hw, rfl⟩ := List.mem_map.mp hm
    obtain ⟨c, hc, e⟩ := cut_iff.mp ((C.all w.2).mp ⟨w, hw, rfl⟩)
    exact ⟨c, hc, by rw [← e, fee_sum hc.1]⟩
theorem unpaired {α β : Type} {F : α → β → Prop} {as : List α} {bs : List β} (h : Paired F as bs) : ∃ ps : List (α × β), ps.map (·.1) = as ∧ ps.map (·.2) = bs ∧ ∀ p ∈ ps, F p.1 p.2 := by
  induction h with
  | nil => exact ⟨[], rfl, rfl, fun _ h => (List.not_mem_nil h).elim⟩
  | @cons a b as bs h t ih =>
    obtain ⟨ps, h1, h2, h3⟩ := ih
    refine ⟨(a, b) :: ps, by rw [List.map_cons, h1], by rw [List.map_cons, h2], fun p hp => ?_⟩
    rcases List.mem_cons.mp hp with rfl | hp
    · exact h
    · exact h3 p hp
def Upto (kv : List (Key × V)) (up : Int) : Prop := ∀ e ∈ kv, ∀ q, e.2 = V.int q → q ≤ up
theorem Upto.put {kv : List (Key × V)} {up : Int} (h : Upto kv up) {k : Key} {p : Int} (hp : p ≤ up) : Upto (putK kv k (.int p)) up := fun e he q eq => by
  rcases put_val_mem he with e1 | h1
  · subst e1
    have := V.int.inj eq
    omega
  · exact h e h1 q eq
/-- _law_prices of these laws -/
def spPrices6 (K : PySem.W.Frag) : Sp := fun vs H Q _ => ∃ (l sa : Addr) (sg : List Nat) (many : Nat) (up : Int) (n : Nat), vs = [.ref l, .ref sa, .int (many : Int), .int up] ∧ sa ≠ l ∧ SqL K H sa (sg.map chV) ∧ 1 ≤ sg.length ∧ sg.length ≤ 4 ∧ (∀ c ∈ sg, lett c = true) ∧
  many ≤ 8 ∧ 1 ≤ up ∧ up ≤ 99 ∧ Dice H l (n + 100) ∧
  ∀ (p : Addr) (kvs : List (Key × V)) H', H p = none → p ≠ l → H' p = some (.dK kvs) → arePrices kvs = true → (kvs.map (·.1)).Nodup → (∀ c, (∃ q, tfD kvs (ch c) = some q) ↔ c ∈ sg) → kvs.length ≤ sg.length + many → (∀ z q, tfD kvs z = some q → q ≤ up) → Kp l H H' → Dice H' l n → Q (.ref p) H'
theorem g_catA {X : L2.Cx} (K : PySem.W.Frag) (e : X.K = K := by rfl) : OpR X (binaryOp .Add) (rCatA K) := by
  subst e
  exact op_catA
theorem CutsAt.updL {H : Hp} {F : Tf} {l : List Nat} {ws : List (Addr × List Str)} {D : Addr} {ys : List V} {o : HO} (C : CutsAt H F l ws) (h : H D = some (.lst ys)) : CutsAt (upd H D o) F l ws :=
  ⟨fun w hw => by
    have n : w.1 ≠ D := fun e => by
      have := C.at_ w hw
      rw [e, h] at this
      cases this
    rw [upd_ne n]
    exact C.at_ w hw, C.all, C.len⟩
theorem isCut_len {F : Tf} (G : Good F) {l : List Nat} {d : List Str} (h : IsCut F l d) (hl : l.length ≤ 1000) : d.length ≤ 1000 := by
  obtain ⟨h1, h2⟩ := h
  have h3 := congrArg List.length h2
  rw [List.length_flatten, List.map_map] at h3
  have h4 : ∀ l : List Str, (∀ y ∈ l, ∃ p, F y = some p) → l.length ≤ (l.map (List.length ∘ cs)).sum := fun l hl => by
    induction l with
    | nil => exact Nat.le_refl _
    | cons y r ih =>
      obtain ⟨p', hp'⟩ := hl y List.mem_cons_self
      have := (G.len y p' hp').1
      have := ih fun x hx => hl x (List.mem_cons_of_mem _ hx)
      rw [List.map_cons, List.sum_cons, List.length_cons]
      show _ ≤ (cs y).length + _
      omega
  have := h4 d h1
  omega
theorem _root_.G.Dice.ne_of {H : Hp} {l a : Addr} {n : Nat} {kvs : List (Key × V)} (D : Dice H l n) (h : H a = some (.dK kvs)) : a ≠ l := fun e => by
  obtain ⟨_, _, _, h2, _⟩ := D
  rw [e, h2] at h
  cases h
end G
/-! What one further piece, or another price, changes. -/
namespace G
open PySem PySem.Spec PyProof.Rows L2
def putF (F : Tf) (w : Str) (p : Int) : Tf := fun y => if y = w then some p else F y
section
variable {F : Tf} {w : Str} {p : Int} {r : V}
theorem put_at_w : putF F w p w = some p := if_pos rfl
theorem put_ne {y : Str} (h : y ≠ w) : putF F w p y = F y := if_neg h
theorem rem_put (h0 : F w = none) : remF (putF F w p) w = F := by
  funext y
  unfold remF
  by_cases h : y = w
  · rw [if_pos h, h, h0]
  · rw [if_neg h, put_ne h]
theorem fwd_iff (G : Good F) : NoDear F (putF F w p) ↔ lp F (cs w) ≤ p := by
  constructor
  · intro h
    exact h w p put_at_w
  · intro h z q hz
    by_cases e : z = w
    · subst e
      rw [put_at_w] at hz
      have e := Option.some.inj hz
      omega
    · rw [put_ne e] at hz
      exact lp_piece G hz
theorem bwd_all (Gp : Good (putF F w p)) (h0 : F w = none) : NoDear (putF F w p) F := fun z q hz => by
  have e : z ≠ w := fun e => by
    rw [e, h0] at hz
    cases hz
  exact lp_piece Gp (by rw [put_ne e]; exact hz)
theorem need_iff (h0 : F w = none) (hw : 1 < (cs w).length) : Needless (putF F w p) w ↔ lp F (cs w) ≤ p := by
  unfold Needless
  rw [rem_put h0, put_at_w]
  constructor
  · rintro ⟨q, e, _, h⟩
    have := Option.some.inj e
    omega
  · intro h
    exact ⟨p, rfl, hw, h⟩
theorem dear_fwd (G : Good F) (d : DearR F (putF F w p) r) : r = if p < lp F (cs w) then .str w else .non := by
  rcases d with ⟨h1, h2⟩ | ⟨z, q, h1, h2, h3, _⟩
  · have := (fwd_iff G).mp h2
    rw [if_neg (by omega)]
    exact h1
  · have e : z = w := by
      by_cases e : z = w
      · exact e
      · rw [put_ne e] at h2
        have := lp_piece G h2
        omega
    subst e
    rw [put_at_w] at h2
    have e := Option.some.inj h2
    rw [if_pos (by omega)]
    exact h1
theorem dear_bwd (Gp : Good (putF F w p)) (h0 : F w = none) (d : DearR (putF F w p) F r) : r = .non := by
  rcases d with ⟨h1, h2⟩ | ⟨z, q, h1, h2, h3, _⟩
  · exact h1
  · have := bwd_all Gp h0 z q h2
    omega
/-- a sign is cut in one way -/
theorem lp_sign (G : Good F) {c : Nat} {q : Int} (h : F (ch c) = some q) : lp F [c] = q := by
  have o : Over F [c] := fun d hd => ⟨q, by rw [List.mem_singleton.mp hd]; exact h⟩
  obtain ⟨z, p, a, h1, h2, h3⟩ := lp_last G o (by simp)
  have n1 := (G.len z p h1).1
  have hl := congrArg List.length h2
  rw [List.length_append, List.length_singleton] at hl
  have ea : a = [] := List.length_eq_zero_iff.mp (by omega)
  subst ea
  have ez : z = ch c := str_ext h2.symm
  subst ez
  rw [h] at h1
  have := Option.some.inj h1
  rw [h3, lp_nil G]
  omega
theorem sign_fwd (G : Good F) {c : Nat} {q : Int} (h : F (ch c) = some q) : NoDear F (putF F (ch c) p) ↔ q ≤ p := by
  rw [fwd_iff G]
  show lp F [c] ≤ p ↔ _
  rw [lp_sign G h]
theorem put_back {c : Nat} {q : Int} (h : F (ch c) = some q) : putF (putF F (ch c) p) (ch c) q = F := by
  funext y
  by_cases e : y = ch c
  · rw [e, put_at_w, h]
  · rw [put_ne e, put_ne e]
theorem sign_bwd (Gp : Good (putF F (ch c) p)) {q : Int} (h : F (ch c) = some q) : NoDear (putF F (ch c) p) F ↔ p ≤ q := by
  have e := sign_fwd (F := putF F (ch c) p) (p := q) Gp put_at_w
  rwa [put_back h] at e
end
theorem lp_most {F : Tf} (G : Good F) {B : Int} (hb : ∀ z p, F z = some p → p ≤ B) : ∀ l, Over F l → lp F l ≤ B * (l.length : Int)
  | [], _ => by
    rw [lp_nil G]
    exact Int.le_of_eq (by simp)
  | c :: r, o => by
    have o1 : Over F [c] := fun d hd => o d (by rw [List.mem_singleton.mp hd]; exact List.mem_cons_self)
    have o2 : Over F r := fun d hd => o d (List.mem_cons_of_mem _ hd)
    obtain ⟨p, hp⟩ := o c List.mem_cons_self
    have h1 := lp_sign G hp
    have h2 := hb _ _ hp
    have h3 := lp_most G hb r o2
    have h4 : lp F (c :: r) ≤ lp F [c] + lp F r := lp_add G o1 o2
    rw [List.length_cons, Int.natCast_add, Int.mul_add]
    omega
theorem lp_pos {F : Tf} (G : Good F) {l : List Nat} (o : Over F l) (ne : l ≠ []) : 1 ≤ lp F l := by
  obtain ⟨z, p, a, h1, h2, h3⟩ := lp_last G o ne
  have oa : Over F a := fun c hc => o c (by rw [h2]; exact List.mem_append_left _ hc)
  obtain ⟨d, hd, e⟩ := lp_cut G oa
  have := fee_pos G d hd.1
  have := (G.pos z p h1).1
  omega
/-! ### lists of pairs -/
def dPairs (ks : List (Str × Int)) : PyData := .list (ks.map fun e => .tuple [.str e.1, .int e.2])
theorem dp_pairs {K : PySem.W.Frag} {H : Hp} : ∀ {ps : List (Addr × Str × Int)}, (∀ z ∈ ps, H z.1 = some (.tup [.str z.2.1, .int z.2.2])) → DpAll K H (ps.map fun z => V.ref z.1) ((ps.map (·.2)).map fun e => PyData.tuple [.str e.1, .int e.2])
  | [], _ => .nil
  | z :: r, h => .cons (.tup (SqT.of (h z List.mem_cons_self)) (.cons (.str _) (.cons (.int _) .nil))) (dp_pairs fun y hy => h y (List.mem_cons_of_mem _ hy))
theorem neD_same {K : PySem.W.Frag} {H : Hp} {x y : V} {d : PyData} {Q : VK} (hx : Dp K H x d) (hy : Dp K H y d) (s : SeqAt.shaped d = true) (q : Q (.bl false) H) : rNeD K x y H Q := by
  refine ⟨d, d, hx, hy, s, s, ?_⟩
  rw [SeqAt.eqv_refl _ (SeqAt.canLay_of_shaped s)]
  exact q
theorem shaped_pairs {ks : List (Str × Int)} (h : ∀ e ∈ ks, ∀ c ∈ cs e.1, lett c = true) : SeqAt.shaped (dPairs ks) = true := by
  have h1 : ∀ l : List (Str × Int), (∀ e ∈ l, ∀ c ∈ cs e.1, lett c = true) → PyData.canLayAll0 (l.map fun e => PyData.tuple [.str e.1, .int e.2]) = true := by
    intro l hl
    induction l with
    | nil => rfl
    | cons e r ih =>
      have hs := shaped_lstrs (zs := [e.1]) fun z hz => by
        rw [List.mem_singleton.mp hz]
        exact hl e List.mem_cons_self
      have hc := SeqAt.canLay_of_shaped hs
      have h2 : PyData.canLay0 (.str e.1) = true := by
        have h3 : (PyData.canLay0 (.str e.1) && true) = true := hc
        rwa [Bool.and_true] at h3
      show (PyData.canLay0 (.tuple [.str e.1, .int e.2]) && _) = true
      rw [ih fun x hx => hl x (List.mem_cons_of_mem _ hx), Bool.and_true]
      show (PyData.canLay0 (.str e.1) && (true && true)) = true
      rw [h2]
      rfl
  have h2 : ∀ l : List (Str × Int), PyData.depthAll (l.map fun e => PyData.tuple [.str e.1, .int e.2]) ≤ 2 := by
    intro l
    induction l with
    | nil => simp [PyData.depthAll]
    | cons e r ih =>
      simp only [List.map_cons, PyData.depthAll, PyData.depth]
      omega
  unfold SeqAt.shaped dPairs
  rw [Bool.and_eq_true, decide_eq_true_eq]
  refine ⟨h1 ks h, ?_⟩
  have := h2 ks
  simp only [PyData.depth]
  omega
/-- _law_prices_of -/
def spPricesOf (C : Addr) : Sp := fun vs H Q _ => ∃ b kvs, vs = [.ref b] ∧ Book1 C H b kvs ∧ ∀ p (ps : List (Addr × Str × Int)) ys H', ys.Perm (keyStrs kvs) → sortedS ys = true → ps.map (·.2) = psOf kvs ys → H' p = some (.lst (ps.map fun z => V.ref z.1)) → (∀ z ∈ ps, H' z.1 = some (.tup [.str z.2.1, .int z.2.2])) → Same H H' → Q (.ref p) H'
/-- what the laws' parts about one book promise -/
def spPart (ok : List (Key × V) → Str → Prop) : Sp := fun vs H Q _ => ∃ (l pd : Addr) (kvs : List (Key × V)) (w : Str) (n : Nat), vs = [.ref l, .ref pd, .str w] ∧ pd ≠ l ∧ H pd = some (.dK kvs) ∧ arePrices kvs = true ∧ (kvs.map (·.1)).Nodup ∧ ok kvs w ∧ Dice H l (n + 1) ∧ ∀ H', Kp l H H' → Dice H' l n → Q (.bl true) H'
def lessK (kvs : List (Key × V)) (w : Str) : List (Key × V) := kvs.filter fun kv => !decide (kv.1 = Sum.inr w)
theorem tf_less {kvs : List (Key × V)} {w : Str} : tfD (lessK kvs w) = remF (tfD kvs) w := by
  have h : ∀ (l : List (Key × V)) (y : Str), valV (lessK l w) (Sum.inr y) = if y = w then none else valV l (Sum.inr y) := by
    intro l y
    induction l with
    | nil =>
      show (none : Option V) = _
      split <;> rfl
    | cons a r ih =>
      by_cases e : a.1 = Sum.inr w
      · have e1 : lessK (a :: r) w = lessK r w := by
          unfold lessK
          rw [List.filter_cons, if_neg (by simp [e])]
        rw [e1, ih]
        by_cases q : y = w
        · rw [if_pos q, if_pos q]
        · rw [if_neg q, if_neg q]
          unfold valV
          rw [List.find?_cons, decide_eq_false (fun z => q (Sum.inr.inj (z.symm.trans e)))]
      · have e1 : lessK (a :: r) w = a :: lessK r w := by
          unfold lessK
          rw [List.filter_cons, if_pos (by simp [e])]
        rw [e1]
        by_cases z : a.1 = Sum.inr y
        · have q : y ≠ w := fun q => e (by rw [z, q])
          rw [if_neg q]
          unfold valV
          rw [List.find?_cons, List.find?_cons, decide_eq_true z]
        · have h1 : valV (a :: lessK r w) (Sum.inr y) = valV (lessK r w) (Sum.inr y) := by
            unfold valV
            rw [List.find?_cons, decide_eq_false z]
          have h2 : valV (a :: r) (Sum.inr y) = valV r (Sum.inr y) := by
            unfold valV
            rw [List.find?_cons, decide_eq_false z]
          rw [h1, h2, ih]
  funext y
  unfold tfD remF
  rw [h]
  by_cases q : y = w
  · rw [if_pos q, if_pos q]
  · rw [if_neg q, if_neg q]
theorem less_book {kvs : List (Key × V)} {w : Str} (av : arePrices kvs = true) (nd : (kvs.map (·.1)).Nodup) (hw : 1 < (cs w).length) : arePrices (lessK kvs w) = true ∧ ((lessK kvs w).map (·.1)).Nodup := by
  have nd' : ((lessK kvs w).map (·.1)).Nodup := nd.sublist (List.filter_sublist.map _)
  refine ⟨(ap_sub av nd nd' (fun kv h => (List.mem_filter.mp h).1) (fun c hc => ?_) (Nat.le_trans (List.length_filter_le _ _) (ap_parts av).1.2)).1, nd'⟩
  obtain ⟨q, hq⟩ := hc
  refine ⟨q, ?_⟩
  rw [tf_less]
  unfold remF
  rw [if_neg fun e => ?_]
  · exact hq
  · rw [← e] at hw
    exact absurd (show 1 < 1 from hw) (by decide)
theorem bool_iff {b : Bool} {P : Prop} [Decidable P] (h : b = true ↔ P) : b = decide P := by
  by_cases q : P
  · rw [decide_eq_true q, h.mpr q]
  · rw [decide_eq_false q]
    cases b with
    | false => rfl
    | true => exact absurd (h.mp rfl) q
/-- data of a list of truths, a text or None behind them -/
theorem repr_three {K : PySem.W.Frag} {H : Hp} {a : Addr} {b1 b2 : Bool} {x : V} {d : PyData} {Q : VK} (h : H a = some (.lst [.bl b1, .bl b2, x])) (hd : Dp K H x d) (s : Shw d 0 1000) (q : Q (.str (PyData.list [.bool b1, .bool b2, d]).shown) H) : rRepr K [.ref a] H Q := by
  have S : Shw (PyData.list [.bool b1, .bool b2, d]) 1 _ := shw_list (k := 0) (n := 1000) fun e he => by
    simp only [List.mem_cons, List.not_mem_nil, or_false] at he
    rcases he with rfl | rfl | rfl
    · exact (shw_bool b1).le (Nat.le_refl _) (by omega)
    · exact (shw_bool b2).le (Nat.le_refl _) (by omega)
    · exact s
  exact ⟨_, _, rfl, .lst (SqL.of h) (.cons (.bl b1) (.cons (.bl b2) (.cons hd .nil))), S.s, S.h, Nat.le_trans S.dp (by omega), Nat.le_trans S.len (fits_sz (by show _ ≤ 100000; simp)), q⟩
theorem shw_non6 : Shw PyData.none 0 1000 := ⟨by simp [PyData.showable], by simp [PyData.hasDict], by simp [PyData.depth], by simp only [PyData.shown]; decide +kernel⟩
theorem shw_word {z : Str} (h : z.length ≤ 5) (hc : ∀ c ∈ cs z, c < 16 ^ 8) : Shw (.str z) 0 1000 :=
  ⟨by simp [PyData.showable], by simp [PyData.hasDict], by simp [PyData.depth], by simp only [PyData.shown]; exact Nat.le_trans (StrLaws.reprText_len z hc) (by omega)⟩
theorem seq_if_join {tc : TT} {ta tb tr : TS} {D : Ends} {σ : L2.St} {H : Hp} (P : L2.St → Hp → Prop) (h : ∀ N : L2.St → Hp → Prop, (∀ σ' H', P σ' H' → N σ' H') → tIfS tc ta tb { D with nx := N } σ H) (k : ∀ σ' H', P σ' H' → tr D σ' H') : tSeq (tIfS tc ta tb) tr D σ H := h _ k
def longG : Key × V → Option Str := fun kv => match kv.1 with | .inr y => if 1 < y.length then some y else none | .inl _ => none
theorem long_mem {kvs : List (Key × V)} (T : Tar kvs) {z : Str} (h : z ∈ kvs.filterMap longG) : 1 < z.length ∧ ∃ q, tfD kvs z = some q := by
  obtain ⟨kv, hkv, e⟩ := List.mem_filterMap.mp h
  obtain ⟨y, q, rfl, hq⟩ := T.mem kv hkv
  have e' : (if 1 < y.length then some y else none) = some z := e
  split at e'
  · rename_i l
    cases e'
    exact ⟨l, q, hq⟩
  · cases e'
end G
/-! != of instances that have only ==; - and others with a value of another kind. -/
namespace G
open PySem PySem.Spec PyProof.Rows L2
section
variable {prog : Program} {w : World} {A : Around} {E : Value → Shared → Prop} {s : Shared} {K : PySem.W.Frag} {x y C f : Addr} {ox : Obj} {od : Option Obj}
theorem ne_entry {Q : Fin → Shared → Prop} (X : K.In s.heap) (I : PySem.W.InstAt s.heap x ox C od) (hs : PySem.W.findIn K (.ref C) "__eq__" = some (some (.ref f))) (hf : PySem.W.isFn K (.ref f) = true) (hu : A.units < cLine)
    (h : wpAny (model prog w) A (call (.ref f) [.ref x, .ref y]) (fun v s' => ∃ b, v = .bool b ∧ Q (.done (.ret (.bool (!b)))) s') E s) : wpAny (model prog w) A (Builtin.«object.__ne__» ⟨[.ref x, .ref y], []⟩) Q E s := by
  unfold Builtin.«object.__ne__»
  repeat (first
    | with_reducible refine wpAny_cRoomFor hu ?_
    | (refine wpAny_bind (m := callSpecialIfBound? (.ref x) (Str.ofString "__eq__") [.ref y]) (PySem.W.ifBound_K X I hs hf (wpAny_mono h (fun r s' hr => ?_) fun _ _ e => e)))
    | wp_step)
  obtain ⟨b, rfl, hq⟩ := hr
  repeat (first
    | exact hq
    | exact wpAny_pure hq
    | exact wpAny_truthy_bool hq
    | (refine wpAny_bind (m := truthy (.bool _)) (wpAny_truthy_bool ?_))
    | wp_step)
theorem call_ne {Q : Value → Shared → Prop} (X : K.In s.heap) (I : PySem.W.InstAt s.heap x ox C od) (hm : PySem.W.mroIn K C (.type "object") = some true) (hs : PySem.W.findIn K (.ref C) "__eq__" = some (some (.ref f))) (hf : PySem.W.isFn K (.ref f) = true) (hu : A.in1.units < cLine)
    (h : wpAny (model prog w) A.in1 (call (.ref f) [.ref x, .ref y]) (fun v s' => ∃ b, v = .bool b ∧ Q (.bool (!b)) s') E s) : wpAny (model prog w) A (call (.builtin "object.__ne__") [.ref x, .ref y]) Q E s :=
  wpAny_call (codeAny_call_builtin F.cmp_object.ne.plain F.cmpEntry_ne (PySem.W.check_slot F.cmpKind_ne F.cmpSplit_ne (I.type.andThen (PySem.W.looks_mroIn X hm)) (F.cmpArgs_ne _ _) (ne_entry X I hs hf hu h)))
theorem bound_ne {args : List Value} {Q : Option Value → Shared → Prop} {M : Model} (X : K.In s.heap) (I : PySem.W.InstAt s.heap x ox C od) (hs : PySem.W.findIn K (.ref C) "__ne__" = some (some (.builtin "object.__ne__")))
    (h : wpAny M A (call (.builtin "object.__ne__") (.ref x :: args)) (fun v => Q (some v)) E s) : wpAny M A (callSpecialIfBound? (.ref x) "__ne__" args) Q E s := by
  simp only [callSpecialIfBound?, bindSpecialIfBound?]
  refine wpAny_holding (wpAny_bind (wpAny_bind (wpAny_bind (I.type.here ((PySem.W.looks_findIn X hs).here ?_)))))
  have go : wpAny M A (call (.builtin "object.__ne__") ([.ref x] ++ args) >>= fun v => pure (some v)) Q E s := wpAny_bind (wpAny_mono h (fun v s' q => wpAny_pure q) fun _ _ q => q)
  refine wpAny_bind (wpAny_askSetting (wpAny_ite ?_))
  split
  · exact wpAny_bind (wpAny_of_eq (F.cmp_object.ne.bind _) (wpAny_pure (by exact go)))
  · exact wpAny_tryCatch (wpAny_bind (wpAny_of_eq (F.cmp_object.ne.bind _) (wpAny_pure (by exact go))))
end
section
variable {X : L2.Cx} {k j : Nat} {C : Addr} {sp : Sp}
/-- the method run below a built-in -/
theorem met_run1 {m : Str} {pins : List (Addr × Obj)} {σ : L2.St} {H : Hp} {s : Shared} {Q : VK} {us : List Value} {vs : List V} (c : C8.Met X.prog X.w X.K X.mg X.base k C m sp []) (hr : Room j X.A) (hk : k + 1 ≤ j) (I : Inv X pins σ H s) (r : Vals vs us) (h : sp vs H Q C8.E0) :
    ∃ f : Addr, PySem.W.findIn X.K (.ref C) m = some (some (.ref f)) ∧ PySem.W.isFn X.K (.ref f) = true ∧ wpAny (model X.prog X.w) X.A.in1 (call (.ref f) us) (EP X pins σ Q) X.xe s := by
  obtain ⟨f, fd, ps, ds, hc, hm, F, b, d⟩ := c.ex
  refine ⟨f, hm.at_, hm.fn, ?_⟩
  have sb : Sub X k X.A.in1 := (Sub.in1 (n := k) ⟨hr.mono hk, rfl⟩)
  have e0 : Env0 X.prog X.w X.K X.mg X.base X.A.in1 X.stack s H := by
    have e := I.env0
    exact ⟨by rw [sb.fr]; exact e.frames, e.mod, e.bs, e.bsz, e.funs, e.frf, e.hok, e.bare⟩
  have h' : sp (vs ++ []) H Q C8.E0 := by
    rw [List.append_nil]
    exact h
  have r2 : Vals (vs ++ []) (us ++ ds) := r.append d
  have hl : (us ++ ds).length = ps.length := by
    rw [← r2.length]
    exact F.len _ _ _ _ h'
  refine wpAny_call (codeAny_mono (F.run X.A.in1 X.stack s H ⟨us, []⟩ (us ++ ds) (vs ++ []) Q C8.E0 sb.room e0 (b s us I.kIn hl) r2 h') fun r s' hq => ?_)
  cases r with
  | error e => exact C8.pass0 (E := C8.E0) pins σ H s e s' I hq
  | ok fl =>
    cases fl with
    | ret u => exact I.after hq
    | next => exact False.elim hq
    | brk => exact False.elim hq
    | cont => exact False.elim hq
def rNeO (C : Addr) (sp : Sp) : R2 := fun x y H Q => ∃ a dx fs b dy gs, x = .ref a ∧ y = .ref b ∧ H a = some (.ins C dx fs) ∧ H b = some (.ins C dy gs) ∧ sp [.ref a, .ref b] H (fun r H' => ∃ b, r = .bl b ∧ Q (.bl (!b)) H') C8.E0
theorem op_neO (c : C8.Met X.prog X.w X.K X.mg X.base k C "__eq__" sp []) (hr : Room j X.A) (hk : k + 1 ≤ j) (hu : X.A.units + 1 < cLine) (hm : PySem.W.mroIn X.K C (.type "object") = some true) (hne : PySem.W.findIn X.K (.ref C) "__ne__" = some (some (.builtin "object.__ne__"))) : OpR X (compareOp .NotEq) (rNeO C sp) := by
  intro pins s σ H x y v u Q I rx ry h
  obtain ⟨a, dx, fs, b, dy, gs, rfl, rfl, ha, hb, q⟩ := h
  cases rx
  cases ry
  obtain ⟨_, J, _⟩ := ins_get I.hok ha
  obtain ⟨_, J', _⟩ := ins_get I.hok hb
  obtain ⟨_, J, _⟩ := J.look
  obtain ⟨_, J', _⟩ := J'.look
  obtain ⟨m, hF⟩ := I.fr
  have kin := I.kIn
  obtain ⟨f, h1, h2, h3⟩ := met_run1 (us := [.ref a, .ref b]) (vs := [.ref a, .ref b]) c hr hk I (.cons rfl (.cons rfl .nil)) q
  have one : wpAny (model X.prog X.w) X.A (tryCompare (.ref a) "__ne__" (.ref b)) (fun r s' => ∃ v, r = some v ∧ EP X pins σ Q v s') X.xe s := by
    unfold tryCompare
    refine wpAny_bind (bound_ne kin J hne (call_ne kin J hm h1 h2 (show X.A.units + 1 < cLine from hu) (wpAny_mono h3 (fun r s' hq => ?_) fun _ _ e => e)))
    obtain ⟨z, H', I', rz, b', rfl, q'⟩ := hq
    cases rz
    exact ⟨b', rfl, wpAny_pure ⟨_, rfl, .bl (!b'), H', I', rfl, q'⟩⟩
  show wpAny _ _ (richCompare .NotEq (.ref a) (.ref b)) _ _ _
  unfold richCompare
  simp only [oneThing_ref]
  refine wpAny_holding (wpAny_bind (wpAny_cRoomFor (by omega) ?_))
  refine wpAny_bind (J.type.here (wpAny_bind (J'.type.here ?_)))
  split
  · rename_i q
    simp at q
  · refine wpAny_bind (wpAny_pure ?_)
    simp only [Bool.false_eq_true, if_false]
    refine wpAny_bind (wpAny_mono one (fun r s' z => ?_) fun _ _ e => e)
    obtain ⟨v, rfl, hq⟩ := z
    exact wpAny_pure hq
end
section
open PySem.W PySem.Calls
variable {prog : Program} {w : World} {A : Around} {E : Value → Shared → Prop} {s : Shared} {K : Frag} {x C f : Addr} {ox : Obj} {od : Option Obj} {T : String}
/-- an own operator whose right side is of a built-in type, wherever it lies -/
theorem bin_own {op : Operator} {b : Value} {fo ro : Option Value} {Q : Value → Shared → Prop} (X : K.In s.heap) (I : InstAt s.heap x ox C od) (hb : Looks (model prog w) s.heap (typeOf b) (.type T)) (first : selfFirst K C = true)
    (own : findIn K (.ref C) (PySem.dunder op.info.2) = some (some (.ref f))) (fn : isFn K (.ref f) = true) (back : findIn K (.ref C) (dunderR op.info.2) = some none) (tl : findIn K (.type T) (PySem.dunder op.info.2) = some fo) (tr : findIn K (.type T) (dunderR op.info.2) = some ro)
    (apart : subIn K (.type T) (.ref C) = some false) (h : wpAny (model prog w) A (call (.ref f) [.ref x, b]) (PySem.W.CmpBack Q) E s) : wpAny (model prog w) A (binaryOp op (.ref x) b) Q E s := by
  obtain ⟨cd, rest, k1, k2⟩ := ksp_first first
  rcases info : op.info with ⟨sign, nm⟩
  rw [info] at own back tl tr
  dsimp only at own back tl tr
  have go := ksp_try X I own fn h
  obtain ⟨hp, gn, dr, tk, os⟩ := s
  have a1 : Looks (model prog w) hp (typeOf (.ref x)) (.ref C) := I.type
  have a2 : Looks (model prog w) hp (typeOf b) (.type T) := hb
  have a3 : Looks (model prog w) hp (fillsNumberSlot (.ref C) nm) true := fills_K X k1 k2 own
  have a4 := ksp_fillsT (M := model prog w) X tl tr
  have a5 : Looks (model prog w) hp (isSubtype (.type T) (.ref C)) false := looks_subIn X apart
  have a6 : Looks (model prog w) hp (numberSlotInPython (.ref C) nm) true := ksp_inPy X own back (Or.inl rfl)
  have a7 : Looks (model prog w) hp (numberSlotInPython (.type T) nm) false := Looks.of_pure rfl
  have a8 : Looks (model prog w) hp (typeLookup (.type T) (dunderR nm)) ro := looks_findIn X tr
  generalize ((fo.isSome && !isSeqSlot fo) || (ro.isSome && !isSeqSlot ro)) = both at a4
  have differ : (Value.ref C == Value.type T) = false := Bool.eq_false_iff.mpr fun q => by cases beq_iff_eq.mp q
  simp only [binaryOp, info]
  unfold binaryOp1
  refine wpAny_holding (wpAny_bind (wpAny_bind (a1.at (wpAny_bind (a2.at (wpAny_bind (a3.at ?_)))))))
  simp only [differ, Bool.false_eq_true, if_false]
  cases both
  all_goals
    ksp_lk
    refine wpAny_mono go (fun r s' hr' => ?_) fun _ _ e => e
    obtain ⟨v, rfl, hq⟩ := hr'
    ksp_lk
    exact hq
end
section
variable {X : L2.Cx} {k j : Nat} {C : Addr} {sp : Sp}
def rSubO (K : PySem.W.Frag) (C : Addr) (sp : Sp) : R2 := fun x y H Q => ∃ a dx fs t xs, x = .ref a ∧ y = .ref t ∧ H a = some (.ins C dx fs) ∧ SqT K H t xs ∧ sp [.ref a, .ref t] H (fun r H' => (∃ b, r = .ref b) ∧ Q r H') C8.E0
theorem op_subO (K : PySem.W.Frag) (c : C8.Met X.prog X.w X.K X.mg X.base k C "__sub__" sp []) (hr : Room j X.A) (hk : k ≤ j) (first : PySem.W.selfFirst X.K C = true) (back : PySem.W.findIn X.K (.ref C) "__rsub__" = some none)
    (tl : PySem.W.findIn X.K (.type "tuple") "__sub__" = some none) (tr : PySem.W.findIn X.K (.type "tuple") "__rsub__" = some none) (apart : PySem.W.subIn X.K (.type "tuple") (.ref C) = some false) (e : X.K = K := by rfl) : OpR X (binaryOp .Sub) (rSubO K C sp) := by
  subst e
  intro pins s σ H x y v u Q I rx ry h
  obtain ⟨a, dx, fs, t, xs, rfl, rfl, ha, ht, q⟩ := h
  cases rx
  cases ry
  obtain ⟨_, J, _⟩ := ins_get I.hok ha
  obtain ⟨_, J, _⟩ := J.look
  obtain ⟨its, _, p1, _⟩ := I.tuple ht
  obtain ⟨f, h1, h2, h3⟩ := met_run (us := [.ref a, .ref t]) (vs := [.ref a, .ref t]) c hr hk I (.cons rfl (.cons rfl .nil)) q
  obtain ⟨ob, g1, g2, n, g3⟩ := p1
  refine bin_own (op := .Sub) I.kIn J (b := .ref t) (T := "tuple") ?_ first h1 h2 back tl tr apart (wpAny_mono h3 (fun r s' hq => ?_) fun _ _ e => e)
  · intro A Q E s' k q
    exact wpAny_typeOf_ref (k _ _ g1) (by rw [g2]; exact q)
  · obtain ⟨z, H', I', rz, ⟨b, rfl⟩, q⟩ := hq
    cases rz
    exact ⟨.ref b, H', I', rfl, q⟩
end
/-! ### == of dicts with texts and ints, different only in their sizes; not in, of data -/
def rEqDB : R2 := fun x y H Q => ∃ a b ks ls, x = .ref a ∧ y = .ref b ∧ Rd H a (.dK ks) ∧ Rd H b (.dK ls) ∧
  ((ks.length = ls.length ∧ (∀ p ∈ ks, valV ls p.1 = some p.2 ∧ flatB p.2 = true) ∧ Q (.bl true) H) ∨ (ks.length ≠ ls.length ∧ Q (.bl false) H))
section
variable {X : L2.Cx}
theorem op_eqDB (hu : X.A.units + 64 < cLine) : OpR X (compareOp .Eq) rEqDB := by
  intro pins s σ H x y v u Q I rx ry h
  obtain ⟨a, b, ks, ls, rfl, rfl, ea, eb, q⟩ := h
  cases rx
  cases ry
  obtain ⟨_, la, va, ra, da⟩ := dk_rd I.hok ea
  obtain ⟨_, lb, vb, rb, db⟩ := dk_rd I.hok eb
  have na := Paired.length ra
  have nb := Paired.length rb
  rcases q with ⟨hl, hp, q⟩ | ⟨hl, q⟩
  · exact PySem.W.keq_eq (knd := mixKind X.prog X.w) (r := true) la lb da db (by omega) (fun _ => hits_all rb ra hp) (fin_bl I q (by simp [show va.length = vb.length by omega]))
  · exact PySem.W.keq_eq (knd := mixKind X.prog X.w) (r := true) la lb da db (by omega) (fun e => absurd e (by omega)) (fin_bl I q (by simp [show ¬ va.length = vb.length by omega]))
theorem units65 {k : Nat} {A : Around} (r : Room k A) : A.units + 65 < cLine := by
  have := r.un
  omega
theorem g_notInD (K : PySem.W.Frag) (hu : X.A.units + 65 < cLine) (e : X.K = K := by rfl) : OpR X (compareOp .NotIn) (rNotInD K) := by
  subst e
  exact op_notInD hu
end
/-! ### dicts that are equal, their sizes not asked -/
def rNeDS : R2 := fun x y H Q => ∃ a b ks ls, x = .ref a ∧ y = .ref b ∧ Rd H a (.dK ks) ∧ Rd H b (.dK ls) ∧ (∀ p ∈ ks, ∃ v, valV ks p.1 = some v ∧ valV ls p.1 = some v ∧ flatB v = true) ∧ (∀ p ∈ ls, p.1 ∈ ks.map (·.1)) ∧ Q (.bl false) H
theorem kvR_keys : ∀ {ks : List (Key × V)} {vs : List (Key × Value)}, KV ks vs → ks.map (·.1) = vs.map (·.1)
  | [], _, h => by
    cases h
    rfl
  | k :: r, _, h => by
    cases h with
    | cons h1 t => rw [List.map_cons, List.map_cons, kvR_keys t, h1.1]
theorem nd_le {α : Type} [DecidableEq α] {l1 l2 : List α} (nd : l1.Nodup) (h : ∀ a ∈ l1, a ∈ l2) : l1.length ≤ l2.length := @nd_sub_len α instBEqOfDecidableEq inferInstance l1 l2 nd h
theorem op_neDS {X : L2.Cx} (hu : X.A.units + 64 < cLine) : OpR X (compareOp .NotEq) rNeDS := by
  intro pins s σ H x y v u Q I rx ry h
  obtain ⟨a, b, ks, ls, rfl, rfl, ea, eb, h0, h2, q⟩ := h
  cases rx
  cases ry
  obtain ⟨_, la, va, ra, da⟩ := dk_rd I.hok ea
  obtain ⟨_, lb, vb, rb, db⟩ := dk_rd I.hok eb
  have na := Paired.length ra
  have nb := Paired.length rb
  have nda : (ks.map (·.1)).Nodup := by
    rw [kvR_keys ra]
    obtain ⟨_, _, _, _, _, _, _, _, nd⟩ := da
    exact nd
  have ndb : (ls.map (·.1)).Nodup := by
    rw [kvR_keys rb]
    obtain ⟨_, _, _, _, _, _, _, _, nd⟩ := db
    exact nd
  have h1 : ∀ p ∈ ks, valV ls p.1 = some p.2 ∧ flatB p.2 = true := fun p hp => by
    obtain ⟨v, e1, e2, e3⟩ := h0 p hp
    rw [val_nodup nda p hp] at e1
    cases e1
    exact ⟨e2, e3⟩
  have i1 := nd_le (l2 := ls.map (·.1)) nda fun k hk => by
    obtain ⟨p, hp, rfl⟩ := List.mem_map.mp hk
    exact valV_in (h1 p hp).1
  have i2 := nd_le (l2 := ks.map (·.1)) ndb fun k hk => by
    obtain ⟨p, hp, rfl⟩ := List.mem_map.mp hk
    exact h2 p hp
  rw [List.length_map, List.length_map] at i1 i2
  exact PySem.W.keq_ne (knd := mixKind X.prog X.w) (r := true) la lb da db (by omega) (fun _ => hits_all rb ra h1) (fin_bl I q (by simp [show va.length = vb.length by omega]))
end G
/-! Least books, in plain Lean; what more of Book's methods promise. -/
namespace G
open PySem PySem.Spec PyProof.Rows L2
def spAsc1 : Sp := fun vs H Q _ => ∃ t x, vs = [.ref t] ∧ H t = some (.tup [x]) ∧ ∀ H', Same H H' → Q (.bl true) H'
def spPo1 (C : Addr) : Sp := fun vs H Q _ => ∃ b t kvs z q, vs = [.ref b, .ref t] ∧ Book1 C H b kvs ∧ H t = some (.tup [.str z]) ∧ tfD kvs z = some q ∧ ∀ H', Same H H' → Q (.bl true) H'
def spSub1 (C : Addr) : Sp := fun vs H Q _ => ∃ b t kvs z q, vs = [.ref b, .ref t] ∧ Book1 C H b kvs ∧ H t = some (.tup [.str z]) ∧ tfD kvs z = some q ∧ 1 < (cs z).length ∧ ∀ b' kvs' H', Book1 C H' b' kvs' → tfD kvs' = remF (tfD kvs) z → Same H H' → Q (.ref b') H'
def spPieces (C : Addr) : Sp := fun vs H Q _ => ∃ b kvs, vs = [.ref b] ∧ Book1 C H b kvs ∧ ∀ t ys, ys.Perm (keyStrs kvs) → sortedS ys = true → H t = some (.tup (ys.map V.str)) → Q (.ref t) H
def spEqB (C : Addr) : Sp := fun vs H Q _ => ∃ a b k1 k2, vs = [.ref a, .ref b] ∧ Book1 C H a k1 ∧ Book1 C H b k2 ∧ (∀ z q, tfD k1 z = some q → tfD k2 z = some q) ∧ ∀ r, (r = true ↔ tfD k1 = tfD k2) → Q (.bl r) H
theorem nd_full {α : Type} [DecidableEq α] : ∀ {l m : List α}, l.Nodup → (∀ x ∈ l, x ∈ m) → m.length ≤ l.length → ∀ x ∈ m, x ∈ l
  | l, m, nd, inc, len, x, hx => by
    by_cases h : x ∈ l
    · exact h
    · exfalso
      have nd' : (x :: l).Nodup := List.nodup_cons.mpr ⟨h, nd⟩
      have h2 := nd_sub_len (l2 := m) nd' fun y hy => by
        rcases List.mem_cons.mp hy with rfl | hy
        · exact hx
        · exact inc y hy
      rw [List.length_cons] at h2
      omega
/-! ### the least tariff -/
open Classical in
noncomputable def leastF (F : Tf) : Tf := fun z => if Needless F z then none else F z
section
variable {F F' : Tf}
theorem least_sub {z : Str} {q : Int} (h : leastF F z = some q) : F z = some q := by
  unfold leastF at h
  split at h
  · cases h
  · exact h
theorem least_not {z : Str} {q : Int} (h : leastF F z = some q) : ¬ Needless F z := fun n => by
  unfold leastF at h
  rw [if_pos n] at h
  cases h
theorem least_in {z : Str} {q : Int} (h : F z = some q) (n : ¬ Needless F z) : leastF F z = some q := by
  unfold leastF
  rw [if_neg n]
  exact h
theorem least_ext (h : ∀ z q, F' z = some q ↔ F z = some q ∧ ¬ Needless F z) : F' = leastF F := by
  funext z
  cases e : F' z with
  | some q =>
    obtain ⟨h1, h2⟩ := (h z q).mp e
    exact (least_in h1 h2).symm
  | none =>
    cases e2 : leastF F z with
    | none => rfl
    | some q =>
      have := (h z q).mpr ⟨least_sub e2, least_not e2⟩
      rw [e] at this
      cases this
/-- part of a tariff, with all its signs -/
structure Sub1 (F F' : Tf) : Prop where
  sub : ∀ z q, F' z = some q → F z = some q
  one : ∀ c q, F (ch c) = some q → F' (ch c) = some q
theorem Sub1.good (G : Good F) (S : Sub1 F F') : Good F' := ⟨fun z p h => G.pos z p (S.sub z p h), fun z p h => G.len z p (S.sub z p h), fun z p h c hc => by
  obtain ⟨q, hq⟩ := G.cov z p (S.sub z p h) c hc
  exact ⟨q, S.one c q hq⟩⟩
theorem Sub1.over (S : Sub1 F F') {l : List Nat} : Over F' l ↔ Over F l := ⟨fun o c hc => by obtain ⟨q, hq⟩ := o c hc; exact ⟨q, S.sub _ _ hq⟩, fun o c hc => by obtain ⟨q, hq⟩ := o c hc; exact ⟨q, S.one c q hq⟩⟩
theorem Sub1.le (G : Good F) (S : Sub1 F F') {l : List Nat} (o : Over F l) : lp F l ≤ lp F' l :=
  lp_mono G (S.good G) (fun z p h => ⟨G.cov z p (S.sub z p h), lp_piece G (S.sub z p h)⟩) o (S.over.mpr o)
theorem sub_least : Sub1 F (leastF F) := ⟨fun z q h => least_sub h, fun c q h => least_in h need_sign⟩
theorem sub_rem {z : Str} (hz : 1 < (cs z).length) : Sub1 F (remF F z) := ⟨fun y q h => by
  unfold remF at h
  split at h
  · cases h
  · exact h, fun c q h => by
  unfold remF
  rw [if_neg fun e => ?_]
  · exact h
  · rw [← e] at hz
    exact absurd (show 1 < 1 from hz) (by decide)⟩
/-- a cut's pieces that do not reach the whole are shorter -/
theorem cut_short (G : Good F) {l : List Nat} {c : Ps} (h : Cut F l c) {y : Str × Int} (hy : y ∈ c) (ne : cs y.1 ≠ l) : (cs y.1).length < l.length := by
  obtain ⟨a, b, rfl⟩ := List.append_of_mem hy
  have e := h.2
  rw [List.map_append, List.map_cons, List.flatten_append, List.flatten_cons] at e
  have hl := congrArg List.length e
  rw [List.length_append, List.length_append] at hl
  rcases Nat.lt_or_ge (cs y.1).length l.length with h1 | h1
  · exact h1
  · exfalso
    have e1 : (a.map fun p => cs p.1).flatten = [] := List.length_eq_zero_iff.mp (by omega)
    have e2 : (b.map fun p => cs p.1).flatten = [] := List.length_eq_zero_iff.mp (by omega)
    rw [e1, e2, List.nil_append, List.append_nil] at e
    exact ne e
theorem fee_mono {F1 : Tf} {g : Str → Int} : ∀ {c : Ps}, (∀ p ∈ c, g p.1 ≤ p.2) → (c.map fun p => g p.1).sum ≤ fee c
  | [], _ => Int.le_refl _
  | q :: r, h => by
    have h1 := h q List.mem_cons_self
    have h2 := fee_mono (F1 := F1) (c := r) fun p hp => h p (List.mem_cons_of_mem _ hp)
    rw [fee_cons, List.map_cons, List.sum_cons]
    omega
theorem lp_flat (G : Good F) : ∀ {c : Ps}, (∀ p ∈ c, Over F (cs p.1)) → lp F (c.map fun p => cs p.1).flatten ≤ (c.map fun p => lp F (cs p.1)).sum
  | [], _ => by
    rw [List.map_nil, List.flatten_nil, lp_nil G]
    exact Int.le_refl _
  | q :: r, h => by
    have h1 := h q List.mem_cons_self
    have hr := fun p hp => h p (List.mem_cons_of_mem q hp)
    have h2 := lp_flat G (c := r) hr
    rw [List.map_cons, List.flatten_cons, List.map_cons, List.sum_cons]
    have o2 : Over F (r.map fun p => cs p.1).flatten := fun d hd => by
      obtain ⟨l, hl, hd'⟩ := List.mem_flatten.mp hd
      obtain ⟨p, hp, rfl⟩ := List.mem_map.mp hl
      exact hr p hp d hd'
    have h3 := lp_add G h1 o2
    omega
/-- without all needless pieces every piece can be had as cheaply -/
theorem least_piece (G : Good F) : ∀ (n : Nat) (z : Str) (p : Int), (cs z).length ≤ n → F z = some p → lp (leastF F) (cs z) ≤ p
  | 0, z, p, hn, hz => by
    have := (G.len z p hz).1
    omega
  | n + 1, z, p, hn, hz => by
    have Gl := sub_least.good (F := F) G
    by_cases nd : Needless F z
    · obtain ⟨q, hq, h1, h2⟩ := nd
      rw [hz] at hq
      have eq : p = q := Option.some.inj hq
      subst eq
      have Gr := rem_good G h1
      obtain ⟨c, hc, e⟩ := lp_cut Gr (rem_over h1 (G.cov z p hz))
      have each : ∀ y ∈ c, y.1 ≠ z ∧ F y.1 = some y.2 := fun y hy => by
        have := hc.1 y hy
        unfold remF at this
        split at this
        · cases this
        · rename_i ne
          exact ⟨ne, this⟩
      have h3 : ∀ y ∈ c, lp (leastF F) (cs y.1) ≤ y.2 := fun y hy => by
        obtain ⟨ne, hF⟩ := each y hy
        have hs := cut_short Gr hc hy fun e => ne (str_ext e)
        exact least_piece G n y.1 y.2 (by omega) hF
      have h4 := lp_flat Gl (c := c) fun y hy => sub_least.over.mpr (G.cov _ _ (each y hy).2)
      rw [hc.2] at h4
      have h5 := fee_mono (F1 := F) (g := fun y => lp (leastF F) (cs y)) h3
      omega
    · exact lp_piece Gl (least_in hz nd)
theorem least_same (G : Good F) {l : List Nat} (o : Over F l) : lp (leastF F) l = lp F l := by
  have h1 := sub_least.le (F := F) G o
  have h2 := lp_mono (sub_least.good (F := F) G) G (fun z p h => ⟨sub_least.over.mpr (G.cov z p h), least_piece G _ z p (Nat.le_refl _) h⟩) (sub_least.over.mpr o) o
  omega
/-- a part between both is as cheap -/
theorem between (G : Good F) (S : Sub1 F F') (h : ∀ z q, leastF F z = some q → F' z = some q) {l : List Nat} (o : Over F l) : lp F' l = lp F l := by
  have h1 := S.le G o
  have S2 : Sub1 F' (leastF F) := ⟨h, fun c q hq => least_in (S.sub _ _ hq) need_sign⟩
  have h2 := S2.le (S.good G) (S.over.mpr o)
  rw [least_same G o] at h2
  omega
/-- a longer piece of the least book is dearer without it -/
theorem least_tight (G : Good F) {z : Str} {p : Int} (h : leastF F z = some p) (hz : 1 < (cs z).length) (S : Sub1 F F') (no : F' z = none) : p < lp F' (cs z) := by
  have n := least_not h
  have hF := least_sub h
  have h1 : p < lp (remF F z) (cs z) := by
    rcases Int.lt_or_le p (lp (remF F z) (cs z)) with q | q
    · exact q
    · exact absurd ⟨p, hF, hz, q⟩ n
  have S2 : Sub1 (remF F z) F' := ⟨fun y q hq => by
    unfold remF
    rw [if_neg fun e => by
      rw [e, no] at hq
      cases hq]
    exact S.sub y q hq, fun c q hq => S.one c q ((sub_rem hz).sub _ _ hq)⟩
  have h2 := S2.le (rem_good G hz) (rem_over hz (G.cov z p hF))
  omega
/-- what is as cheap has all pieces of the least book, and the other way about -/
theorem choice_iff (G : Good F) (S : Sub1 F F') : NoDear F' F ↔ ∀ z q, leastF F z = some q → F' z = some q := by
  constructor
  · intro h z q hz
    by_cases l1 : 1 < (cs z).length
    · cases e : F' z with
      | some q' =>
        have h1 := S.sub z q' e
        rw [least_sub hz] at h1
        exact h1.symm
      | none =>
        have h1 := least_tight G hz l1 S e
        have h2 := h z q (least_sub hz)
        omega
    · have n1 := (G.len z q (least_sub hz)).1
      obtain ⟨c, rfl⟩ := _root_.G.one_sign (z := z) (by omega)
      exact S.one c q (least_sub hz)
  · intro h z p hz
    rw [between G S h (G.cov z p hz)]
    exact lp_piece G hz
theorem sub_nodear (G : Good F) (S : Sub1 F F') : NoDear F F' := fun z p h => lp_piece G (S.sub z p h)
theorem least_between (G : Good F) (S : Sub1 F F') (h : ∀ z q, leastF F z = some q → F' z = some q) : leastF F' = leastF F := by
  have key : ∀ z q, leastF F' z = some q ↔ leastF F z = some q := fun z q => by
    constructor
    · intro hz
      have h1 := least_sub hz
      have h2 := S.sub z q h1
      refine least_in h2 fun n => least_not hz ?_
      obtain ⟨p, hp, l1, le⟩ := id n
      rw [h2] at hp
      have ep : q = p := Option.some.inj hp
      subst ep
      have S2 : Sub1 (remF F' z) (leastF F) := ⟨fun y r hy => by
        unfold remF
        rw [if_neg fun e => by
          rw [e] at hy
          exact least_not hy n]
        exact h y r hy, fun c r hr => least_in (S.sub _ _ ((sub_rem l1).sub _ _ hr)) need_sign⟩
      have G' := S.good G
      have o := G.cov z q h2
      have h3 := S2.le (rem_good G' l1) (rem_over l1 (S.over.mpr o))
      rw [least_same G o] at h3
      have h4 := lp_piece G h2
      exact ⟨q, h1, l1, by omega⟩
    · intro hz
      have h1 := h z q hz
      refine least_in h1 fun n => ?_
      obtain ⟨p, hp, l1, le⟩ := n
      rw [h1] at hp
      have ep : q = p := Option.some.inj hp
      subst ep
      have S2 : Sub1 F (remF F' z) := ⟨fun y r hy => S.sub y r ((sub_rem l1).sub y r hy), fun c r hr => (sub_rem l1).one c r (S.one c r hr)⟩
      have h2 := least_tight G hz l1 S2 (if_pos rfl)
      omega
  funext z
  cases e : leastF F' z with
  | some q => exact ((key z q).mp e).symm
  | none =>
    cases e2 : leastF F z with
    | none => rfl
    | some q =>
      have := (key z q).mpr e2
      rw [e] at this
      cases this
end
def sizeL (n : Nat) : Nat := if n = 1 then 8 else if n = 2 then 6 else if n = 3 then 4 else 3
theorem sizeL_at {n : Nat} (h1 : 1 ≤ n) (h4 : n ≤ 4) : atI [V.int 8, .int 6, .int 4, .int 3] ((n : Int) - 1) = some (.int ((sizeL n : Nat) : Int)) := by
  have : n = 1 ∨ n = 2 ∨ n = 3 ∨ n = 4 := by omega
  rcases this with rfl | rfl | rfl | rfl <;> rfl
theorem sizeL_le (n : Nat) : sizeL n ≤ 8 := by
  unfold sizeL
  repeat' split
  all_goals omega
/-- _law_same -/
def spSame (K : PySem.W.Frag) : Sp := fun vs H Q _ => ∃ (d1 d2 sa ta : Addr) (k1 k2 : List (Key × V)) (sg : List Nat) (ts : List Str), vs = [.ref d1, .ref d2, .ref sa, .ref ta] ∧ H d1 = some (.dK k1) ∧ H d2 = some (.dK k2) ∧ Tar k1 ∧ Tar k2 ∧ SqL K H sa (sg.map chV) ∧ 1 ≤ sg.length ∧ sg.length ≤ 4 ∧
  (∀ c ∈ sg, (∃ p, tfD k1 (ch c) = some p) ∧ ∃ p, tfD k2 (ch c) = some p) ∧ SqL K H ta (ts.map V.str) ∧ ts.length ≤ 1000 ∧ (∀ t ∈ ts, (cs t).length ≤ 100 ∧ ∀ c ∈ cs t, c ∈ sg) ∧ (∀ l, Over (tfD k1) l → lp (tfD k1) l = lp (tfD k2) l) ∧ ∀ H', Same H H' → Q (.bl true) H'
/-- _law_tight -/
def spTight (C : Addr) : Sp := fun vs H Q _ => ∃ b kvs, vs = [.ref b] ∧ Book1 C H b kvs ∧ (∀ z q, tfD kvs z = some q → 1 < (cs z).length → q < lp (remF (tfD kvs) z) (cs z)) ∧ ∀ H', Same H H' → Q (.bl true) H'
theorem shaped_ints (is : List Int) : SeqAt.shaped (.list (is.map PyData.int)) = true := by
  have h1 : PyData.canLayAll0 (is.map PyData.int) = true := by
    induction is with
    | nil => rfl
    | cons i r ih =>
      show (PyData.canLay0 (.int i) && _) = true
      rw [ih]
      rfl
  have h2 : PyData.depthAll (is.map PyData.int) ≤ 1 := by
    induction is with
    | nil => simp [PyData.depthAll]
    | cons i r ih =>
      have ih' := ih (by
        have h3 : (PyData.canLay0 (.int i) && PyData.canLayAll0 (r.map PyData.int)) = true := h1
        rw [Bool.and_eq_true] at h3
        exact h3.2)
      simp only [List.map_cons, PyData.depthAll, PyData.depth]
      omega
  unfold SeqAt.shaped
  rw [Bool.and_eq_true, decide_eq_true_eq]
  refine ⟨h1, ?_⟩
  simp only [PyData.depth]
  omega
theorem dp_intsL {K : PySem.W.Frag} {H : Hp} : ∀ is : List Int, DpAll K H (is.map V.int) (is.map PyData.int)
  | [] => .nil
  | i :: r => .cons (.int i) (dp_intsL r)
theorem eqD_same {K : PySem.W.Frag} {H : Hp} {x y : V} {d : PyData} {Q : VK} (hx : Dp K H x d) (hy : Dp K H y d) (s : SeqAt.shaped d = true) (q : Q (.bl true) H) : rEqD K x y H Q := by
  refine ⟨d, d, hx, hy, s, s, ?_⟩
  rw [SeqAt.eqv_refl _ (SeqAt.canLay_of_shaped s)]
  exact q
theorem shaped_str {z : Str} (h : ∀ c ∈ cs z, lett c = true) : SeqAt.shaped (.str z) = true := by
  have hs := shaped_lstrs (zs := [z]) fun y hy => by
    rw [List.mem_singleton.mp hy]
    exact h
  have hc := SeqAt.canLay_of_shaped hs
  have h3 : (PyData.canLay0 (.str z) && true) = true := hc
  rw [Bool.and_true] at h3
  unfold SeqAt.shaped
  rw [h3]
  simp [PyData.depth]
theorem put_rem {F : Tf} {z : Str} {q : Int} (h : F z = some q) : putF (remF F z) z q = F := by
  funext y
  by_cases e : y = z
  · rw [e, put_at_w, h]
  · rw [put_ne e]
    exact if_neg e
theorem whole_book {kvs : List (Key × V)} {ys : List Str} (av : arePrices kvs = true) (nd : (kvs.map (·.1)).Nodup) (pm : ys.Perm (keyStrs kvs)) : arePrices (kvOf (psOf kvs ys)) = true ∧ ((kvOf (psOf kvs ys)).map (·.1)).Nodup ∧ tfD (kvOf (psOf kvs ys)) = tfD kvs := by
  have e0 : partK kvs ys (fun _ => true) = kvOf (psOf kvs ys) := by
    unfold partK
    rw [List.filter_eq_self.mpr fun _ _ => rfl, kvOf_ps]
  obtain ⟨h1, h2⟩ := part_book (q := fun _ => true) av nd pm fun _ _ => rfl
  rw [e0] at h1 h2
  exact ⟨h1, h2, tf_psOf (ap_parts av).2.1 pm⟩
theorem no_need {F : Tf} (G : Good F) {z : Str} : ¬ Needless (leastF F) z := fun n => by
  obtain ⟨p, hp, hz, le⟩ := n
  have := least_tight G hp hz (F' := remF (leastF F) z) ⟨fun y q h => least_sub ((sub_rem hz).sub y q h), fun c q h => (sub_rem hz).one c q (sub_least.one c q h)⟩ (if_pos rfl)
  omega
theorem least_twice {F : Tf} (G : Good F) : leastF (leastF F) = leastF F := least_between G sub_least fun z q h => h
theorem least_cheap {F : Tf} (G : Good F) : NoDear F (leastF F) ∧ NoDear (leastF F) F := ⟨sub_nodear G sub_least, (choice_iff G sub_least).mpr fun z q h => h⟩
theorem least_all {F : Tf} : leastF F = F ↔ ∀ z, ¬ Needless F z := by
  constructor
  · intro h z n
    obtain ⟨q, hq, _⟩ := id n
    rw [← h] at hq
    exact least_not hq n
  · intro h
    funext z
    exact if_neg (h z)
/-- a tuple of texts == () -/
theorem eq_nilT {K : PySem.W.Frag} {H : Hp} {a p : Addr} {zs : List Str} {Q : VK} (h : SqT K H a (zs.map V.str)) (hp : H p = some (.tup [])) (hl : ∀ z ∈ zs, ∀ c ∈ cs z, lett c = true) (q : Q (.bl zs.isEmpty) H) : rEqD K (.ref a) (.ref p) H Q := by
  refine ⟨.tuple (zs.map PyData.str), .tuple [], .tup h (dpAll_strs zs), .tup (SqT.of hp) .nil, shaped_strs hl, by decide +kernel, ?_⟩
  have e : PyData.eqv (.tuple (zs.map PyData.str)) (.tuple []) = zs.isEmpty := by
    cases zs with
    | nil => rfl
    | cons z r => rfl
  rw [e]
  exact q
theorem shw_unit : Shw (.tuple []) 1 10 := ⟨by simp [PyData.showable, PyData.showableAll], by simp [PyData.hasDict, PyData.hasDictAll], by simp [PyData.depth, PyData.depthAll], by simp only [PyData.shown]; decide +kernel⟩
def dTold (b : Bool) : PyData := .list [.tuple [], .bool true, .bool true, .bool b]
theorem repr_told {K : PySem.W.Frag} {H : Hp} {a t : Addr} {b : Bool} {Q : VK} (h : H a = some (.lst [.ref t, .bl true, .bl true, .bl b])) (ht : H t = some (.tup [])) (q : Q (.str (dTold b).shown) H) : rRepr K [.ref a] H Q := by
  have S : Shw (dTold b) 2 _ := shw_list (k := 1) (n := 1000) fun e he => by
    simp only [List.mem_cons, List.not_mem_nil, or_false] at he
    rcases he with rfl | rfl | rfl | rfl
    · exact shw_unit.le (Nat.le_refl _) (by omega)
    · exact (shw_bool true).le (by omega) (by omega)
    · exact (shw_bool true).le (by omega) (by omega)
    · exact (shw_bool b).le (by omega) (by omega)
  exact ⟨_, _, rfl, .lst (SqL.of h) (.cons (.tup (SqT.of ht) .nil) (.cons (.bl true) (.cons (.bl true) (.cons (.bl b) .nil)))), S.s, S.h, Nat.le_trans S.dp (by omega), Nat.le_trans S.len (fits_sz (by show _ ≤ 100000; simp)), q⟩
/-! ### pairs in a list -/
theorem shaped_ent {z : Str} {q : Int} (h : ∀ c ∈ cs z, lett c = true) : SeqAt.shaped (.tuple [.str z, .int q]) = true := by
  have hs := shaped_lstrs (zs := [z]) fun y hy => by
    rw [List.mem_singleton.mp hy]
    exact h
  have hc := SeqAt.canLay_of_shaped hs
  have h2 : PyData.canLay0 (.str z) = true := by
    have h3 : (PyData.canLay0 (.str z) && true) = true := hc
    rwa [Bool.and_true] at h3
  unfold SeqAt.shaped
  rw [Bool.and_eq_true, decide_eq_true_eq]
  constructor
  · show (PyData.canLay0 (.str z) && (true && true)) = true
    rw [h2]
    rfl
  · simp only [PyData.depth, PyData.depthAll]
    omega
theorem dp_paired {K : PySem.W.Frag} {H : Hp} : ∀ {ts : List Addr} {ks : List (Str × Int)}, Paired (fun (t : Addr) (q : Key × V) => H t = some (.tup [kV q.1, q.2])) ts (ks.map entS) → DpAll K H (ts.map V.ref) (ks.map fun e => PyData.tuple [.str e.1, .int e.2])
  | [], [], _ => .nil
  | [], _ :: _, h => by cases h
  | _ :: _, [], h => by cases h
  | t :: r, e :: l, h => by
    rcases h with _ | ⟨h1, h2⟩
    exact .cons (.tup (SqT.of h1) (.cons (.str _) (.cons (.int _) .nil))) (dp_paired h2)
theorem dp_pairedS {K : PySem.W.Frag} {H H' : Hp} (s : Same H H') : ∀ {ts : List Addr} {ks : List (Str × Int)}, Paired (fun (t : Addr) (q : Key × V) => H t = some (.tup [kV q.1, q.2])) ts (ks.map entS) → DpAll K H' (ts.map V.ref) (ks.map fun e => PyData.tuple [.str e.1, .int e.2])
  | [], [], _ => .nil
  | [], _ :: _, h => by cases h
  | _ :: _, [], h => by cases h
  | t :: r, e :: l, h => by
    rcases h with _ | ⟨h1, h2⟩
    exact .cons (.tup (SqT.of (s _ _ h1)) (.cons (.str _) (.cons (.int _) .nil))) (dp_pairedS s h2)
theorem any_ent {ks : List (Str × Int)} {e : Str × Int} (h : e ∈ ks) (s : SeqAt.shaped (.tuple [.str e.1, .int e.2]) = true) : (ks.map fun e => PyData.tuple [.str e.1, .int e.2]).any (fun z => PyData.eqv z (.tuple [.str e.1, .int e.2])) = true := by
  rw [List.any_eq_true]
  exact ⟨_, List.mem_map.mpr ⟨e, h, rfl⟩, SeqAt.eqv_refl _ (SeqAt.canLay_of_shaped s)⟩
/-! ### a choice of the pieces -/
def pickK (kvs : List (Key × V)) (S : List Str) : List (Key × V) := S.map fun y => (Sum.inr y, V.int ((tfD kvs y).getD 0))
theorem valV_pick {kvs : List (Key × V)} {z : Str} : ∀ {S : List Str} {ks : List (Key × V)}, valV (mergeK ks (pickK kvs S)) (Sum.inr z) = if z ∈ S then some (V.int ((tfD kvs z).getD 0)) else valV ks (Sum.inr z)
  | [], ks => by
    rw [if_neg (List.not_mem_nil)]
    rfl
  | y :: r, ks => by
    show valV (mergeK (putK ks (Sum.inr y) (V.int ((tfD kvs y).getD 0))) (pickK kvs r)) (Sum.inr z) = _
    rw [valV_pick, valV_put]
    by_cases h1 : z ∈ r
    · rw [if_pos h1, if_pos (List.mem_cons_of_mem _ h1)]
    · rw [if_neg h1]
      by_cases h2 : z = y
      · rw [if_pos (by rw [h2]), if_pos (by rw [h2]; exact List.mem_cons_self), h2]
      · rw [if_neg fun e => h2 (Sum.inr.inj e), if_neg fun e => (List.mem_cons.mp e).elim h2 h1]
theorem tf_pick {kvs : List (Key × V)} {S : List Str} (h : ∀ y ∈ S, ∃ q, tfD kvs y = some q) (z : Str) : tfD (mergeK [] (pickK kvs S)) z = if z ∈ S then tfD kvs z else none := by
  have e := valV_pick (kvs := kvs) (z := z) (S := S) (ks := [])
  by_cases hz : z ∈ S
  · rw [if_pos hz] at e ⊢
    obtain ⟨q, hq⟩ := h z hz
    rw [hq] at e
    rw [tf_some.mpr e, hq]
    rfl
  · rw [if_neg hz] at e ⊢
    unfold tfD
    rw [e]
    rfl
/-- what a choice of the pieces gives -/
theorem pick_book {kvs : List (Key × V)} {S : List Str} {sg : List Nat} (av : arePrices kvs = true) (nd : (kvs.map (·.1)).Nodup) (sgns : ∀ c, (∃ q, tfD kvs (ch c) = some q) ↔ c ∈ sg) (h : ∀ y ∈ S, ∃ q, tfD kvs y = some q) (hs : ∀ c ∈ sg, ch c ∈ S) :
    arePrices (mergeK [] (pickK kvs S)) = true ∧ ((mergeK [] (pickK kvs S)).map (·.1)).Nodup ∧ Sub1 (tfD kvs) (tfD (mergeK [] (pickK kvs S))) ∧ ∀ z q, tfD (mergeK [] (pickK kvs S)) z = some q ↔ z ∈ S ∧ tfD kvs z = some q := by
  have good := good_of av
  have al := (ap_parts av).2.1
  have T := tf_pick h
  have key : ∀ z q, tfD (mergeK [] (pickK kvs S)) z = some q ↔ z ∈ S ∧ tfD kvs z = some q := fun z q => by
    rw [T]
    by_cases hz : z ∈ S
    · rw [if_pos hz]
      exact ⟨fun e => ⟨hz, e⟩, fun e => e.2⟩
    · rw [if_neg hz]
      exact ⟨fun e => (nomatch e), fun e => absurd e.1 hz⟩
  obtain ⟨P, _⟩ := PrOk.merge (sg := sg) (more := pickK kvs S) PrOk.nil fun kv hkv => by
    obtain ⟨y, hy, rfl⟩ := List.mem_map.mp hkv
    obtain ⟨q, hq⟩ := h y hy
    refine ⟨y, q, by rw [hq]; rfl, good.len y q hq, fun c hc => (sgns c).mp (good.cov y q hq c hc), ?_⟩
    have hk := (tf_key al).mpr ⟨q, hq⟩
    obtain ⟨h1, h2, h3⟩ := price_of_key al hk
    rw [tf_some] at hq
    rw [h1] at hq
    cases hq
    exact ⟨h2, h3⟩
  have nd' := P.nd
  refine ⟨(ap_sub av nd nd' (fun kv hkv => ?_) (fun c hc => ?_) ?_).1, nd', ⟨fun z q e => ((key z q).mp e).2, fun c q e => (key _ q).mpr ⟨hs c ((sgns c).mp ⟨q, e⟩), e⟩⟩, key⟩
  · obtain ⟨z, q, rfl, _⟩ := P.mem kv hkv
    have h1 := tf_some.mpr (val_nodup nd' _ hkv)
    exact valV_mem (tf_some.mp ((key z q).mp h1).2)
  · obtain ⟨q, hq⟩ := hc
    exact ⟨q, (key _ q).mpr ⟨hs c ((sgns c).mp ⟨q, hq⟩), hq⟩⟩
  · refine Nat.le_trans (?_ : (mergeK [] (pickK kvs S)).length ≤ kvs.length) (ap_parts av).1.2
    have h1 := nd_le (l2 := kvs.map (·.1)) nd' fun k hk => by
      obtain ⟨kv, hkv, rfl⟩ := List.mem_map.mp hk
      obtain ⟨z, q, rfl, _⟩ := P.mem kv hkv
      have h1 := tf_some.mpr (val_nodup nd' _ hkv)
      exact valV_in (tf_some.mp ((key z q).mp h1).2)
    rwa [List.length_map, List.length_map] at h1
theorem fm_out {S : List Str} : ∀ zs : List Str, (zs.filterMap fun z => if decide (z ∈ S) = true then none else some (V.str z)) = (zs.filter fun z => !decide (z ∈ S)).map V.str
  | [] => rfl
  | z :: r => by
    have ih := fm_out (S := S) r
    by_cases h : z ∈ S
    · rw [List.filterMap_cons, List.filter_cons, if_pos (decide_eq_true h), decide_eq_true h, ih]
      rfl
    · rw [List.filterMap_cons, List.filter_cons, if_neg (by rw [decide_eq_false h]; exact Bool.false_ne_true), decide_eq_false h, ih]
      rfl
theorem out_none {S zs : List Str} : (zs.filter fun z => !decide (z ∈ S)).isEmpty = true ↔ ∀ z ∈ zs, z ∈ S := by
  rw [List.isEmpty_iff, List.filter_eq_nil_iff]
  refine forall_congr' fun z => forall_congr' fun _ => ?_
  by_cases h : z ∈ S
  · simp [h]
  · simp [h]
/-- _law_choices_right -/
def spChoices (K : PySem.W.Frag) (C : Addr) : Sp := fun vs H Q _ => ∃ (l b pd sa la : Addr) (kvs : List (Key × V)) (sg : List Nat) (zs : List Str) (n : Nat), vs = [.ref l, .ref b, .ref pd, .ref sa, .ref la] ∧ pd ≠ l ∧ sa ≠ l ∧ la ≠ l ∧ Book1 C H b kvs ∧ H pd = some (.dK kvs) ∧ H sa = some (.lst (sg.map chV)) ∧
  (∀ c, (∃ q, tfD kvs (ch c) = some q) ↔ c ∈ sg) ∧ sg.length ≤ 4 ∧ H la = some (.lst (zs.map V.str)) ∧ (∀ z, z ∈ zs ↔ ∃ q, leastF (tfD kvs) z = some q) ∧ zs.length ≤ 12 ∧ Dice H l (n + 200) ∧ ∀ H', Kp l H H' → Dice H' l n → Q (.bl true) H'
end G
/-! Keys of dicts that are tuples whose items are texts or tuples of ints. -/
namespace PySem.Nk
open PySem PySem.Spec
inductive It where
  | tx (z : Str)
  | ns (l : List Int)
deriving DecidableEq
section
variable {prog : Program} {w : World} {A : Around} {E : Value → Shared → Prop} {s : Shared}
def ItIs (prog : Program) (w : World) (h : Heap) : It → Value → Prop
  | .tx z, v => (strKind prog w).is z v = true
  | .ns l, v => ∃ a, v = .ref a ∧ IsTupleKey (intKind prog w) h l a
inductive ItsAre (prog : Program) (w : World) (h : Heap) : List It → List Value → Prop
  | nil : ItsAre prog w h [] []
  | cons {k : It} {v : Value} {ks : List It} {vs : List Value} : ItIs prog w h k v → ItsAre prog w h ks vs → ItsAre prog w h (k :: ks) (v :: vs)
def IsNest (prog : Program) (w : World) (h : Heap) (ks : List It) (a : Addr) : Prop := ∃ o items n, h.get? a = some o ∧ o.cls = .type "tuple" ∧ o.data = .seq items n ∧ ItsAre prog w h ks items.toList
theorem ItIs.inj {h : Heap} {x y : It} {v : Value} (hx : ItIs prog w h x v) (hy : ItIs prog w h y v) : x = y := by
  cases x with
  | tx z =>
    cases y with
    | tx z' => rw [(strKind prog w).inj _ _ _ hx hy]
    | ns l =>
      obtain ⟨a, rfl, _⟩ := hy
      have h := (strKind prog w).byValue _ _ hx
      cases h
  | ns l =>
    obtain ⟨a, rfl, hx⟩ := hx
    cases y with
    | tx z =>
      have h := (strKind prog w).byValue _ _ hy
      cases h
    | ns l' =>
      obtain ⟨a', e, hy⟩ := hy
      cases e
      rw [hx.inj hy]
theorem ItsAre.inj {h : Heap} {x y : List It} {vs : List Value} (hx : ItsAre prog w h x vs) (hy : ItsAre prog w h y vs) : x = y := by
  induction hx generalizing y with
  | nil => cases hy; rfl
  | cons h1 _ ih =>
    cases hy with
    | cons h2 t2 => rw [h1.inj h2, ih t2]
theorem IsNest.typeIs {ks : List It} {a : Addr} (x : IsNest prog w s.heap ks a) : s.TypeIs (.ref a) "tuple" := let ⟨o, _, _, ho, hc, _⟩ := x; ⟨o, ho, hc⟩
theorem IsNest.inj {h : Heap} {a : Addr} {x y : List It} (hx : IsNest prog w h x a) (hy : IsNest prog w h y a) : x = y := by
  obtain ⟨o, items, n, ho, _, hd, hi⟩ := hx
  obtain ⟨o', items', n', ho', _, hd', hi'⟩ := hy
  obtain rfl : o = o' := Option.some.inj (ho.symm.trans ho')
  rw [hd] at hd'
  injection hd' with h1 _
  subst h1
  exact hi.inj hi'
theorem ItIs.keeps {h h' : Heap} {k : It} {v : Value} {d : Addr} {o : Obj} {es ep} (x : ItIs prog w h k v) (ho : h.get? d = some o) (hd : o.data = .dict es ep) (hs : Heap.SameBut d h h') : ItIs prog w h' k v := by
  cases k with
  | tx z => exact x
  | ns l =>
    obtain ⟨a, rfl, hx⟩ := x
    exact ⟨a, rfl, hx.keeps ho hd hs⟩
theorem ItsAre.keeps {h h' : Heap} {ks : List It} {vs : List Value} {d : Addr} {o : Obj} {es ep} (x : ItsAre prog w h ks vs) (ho : h.get? d = some o) (hd : o.data = .dict es ep) (hs : Heap.SameBut d h h') : ItsAre prog w h' ks vs := by
  induction x with
  | nil => exact .nil
  | cons h1 _ ih => exact .cons (h1.keeps ho hd hs) ih
theorem IsNest.keeps {h h' : Heap} {ks : List It} {a d : Addr} {o : Obj} {es ep} (x : IsNest prog w h ks a) (ho : h.get? d = some o) (hd : o.data = .dict es ep) (hs : Heap.SameBut d h h') : IsNest prog w h' ks a := by
  obtain ⟨o', items, n, ho', hc, hd', hi⟩ := x
  have hne : a ≠ d := by
    rintro rfl
    obtain rfl : o' = o := Option.some.inj (ho'.symm.trans ho)
    rw [hd] at hd'; exact nomatch hd'
  exact ⟨o', items, n, (hs.2 a hne).trans ho', hc, hd', hi.keeps ho hd hs⟩
def itHash (prog : Program) (w : World) : It → Int
  | .tx z => (strKind prog w).hash z
  | .ns l => tupleKeyHash (intKind prog w) l
def itDraws : It → Nat
  | .tx _ => 1
  | .ns l => l.length + 1
def nestHash (prog : Program) (w : World) (ks : List It) : Int := reduceHash (Builtin.Tuple.tupleHashOf (ks.map (itHash prog w)))
def nestDraws (ks : List It) : Nat := (ks.map itDraws).sum + 1
theorem it_pyHash {k : It} {v : Value} {Q : Int → Shared → Prop} (hu : A.units < cLine) (hk : ItIs prog w s.heap k v) (h : Q (itHash prog w k) { s with toks := s.toks + itDraws k }) : wpAny (model prog w) A (pyHash v) Q E s := by
  cases k with
  | tx z => exact (strKind prog w).pyHash hk h
  | ns l =>
    obtain ⟨a, rfl, hx⟩ := hk
    exact wpAny_pyHash_tuple hu hx h
theorem wp_hash {ks : List It} {a : Addr} {Q : Int → Shared → Prop} (hu : A.units < cLine ∧ A.in1.units < cLine) (hk : IsNest prog w s.heap ks a) (h : Q (nestHash prog w ks) { s with toks := s.toks + nestDraws ks }) :
    wpAny (model prog w) A (pyHash (.ref a)) Q E s := by
  have hT := hk.typeIs
  obtain ⟨o, items, n, ho, _, hd, hi⟩ := hk
  unfold pyHash
  first | unfold pyHashByItsType | skip
  first | refine wpAny_bind (wpAny_cRoomFor_or (.inr hu.1) ?_) | skip
  refine wpAny_bind (wpAny_specialOf hT F.slot_tuple_hash.lookup ?_)
  show wpAny _ _ (if (some (Value.builtin "tuple.__hash__") == some Value.none) = true then _ else _) Q E s
  rw [if_neg (by rw [beq_builtin_none]; exact Bool.false_ne_true)]
  refine wpAny_bind (wpAny_specialOf hT F.slot_tuple_hash.lookup ?_)
  show wpAny _ _ (callSpecialIfBoundUnlessNone? (.ref a) "__hash__" _ >>= _) Q E s
  refine wpAny_bind (wpAny_callSpecialIfBoundUnlessNone?_slot hT F.slot_tuple_hash (wpAny_call_entry F.slot_tuple_hash hT F.entry_tuple_hash ?_ (F.args_tuple_hash_1 _)))
  show wpAny _ _ (Builtin.Tuple.tupleItemsOf (.ref a) >>= _) _ _ s
  refine wpAny_bind (wpAny_tupleItemsOf ho hd ?_)
  refine wpAny_bind ?_
  rw [← Array.forIn_toList]
  refine wpAny_forIn_list _
    (fun rest (b : Array Int) s' => ∃ done left, ks = done ++ left ∧ ItsAre prog w s.heap left rest ∧ b.toList = done.map (itHash prog w) ∧ s' = { s with toks := s.toks + (done.map itDraws).sum })
    _ ?_ ?_ _ _ ⟨[], ks, rfl, hi, rfl, rfl⟩
  · rintro x rest b s' ⟨done, left, rfl, hl, hb, rfl⟩
    cases hl with
    | @cons k _ ks' _ h1 hl' =>
      refine wpAny_bind (it_pyHash hu.2 h1 ?_)
      first
        | exact wpAny_pure ⟨done ++ [k], ks', by simp, hl', by simp [hb], by simp [Nat.add_assoc]⟩
        | exact wpAny_bind (wpAny_pure (wpAny_pure ⟨done ++ [k], ks', by simp, hl', by simp [hb], by simp [Nat.add_assoc]⟩))
  · rintro b s' ⟨done, left, rfl, hl, hb, rfl⟩
    cases hl
    rw [List.append_nil] at h
    show wpAny _ _ (retInt (Builtin.Tuple.tupleHashOf b.toList)) _ _ _
    rw [hb]
    refine wpAny_ret_mkInt ?_
    show wpAny _ _ (if (decide (-(2 : Int) ^ 63 ≤ Builtin.Tuple.tupleHashOf (done.map (itHash prog w))) && decide (Builtin.Tuple.tupleHashOf (done.map (itHash prog w)) < 2 ^ 63)) = true then _ else _) Q E _
    unfold nestHash reduceHash at h
    unfold nestDraws at h
    by_cases hr : (decide (-(2 : Int) ^ 63 ≤ Builtin.Tuple.tupleHashOf (done.map (itHash prog w))) && decide (Builtin.Tuple.tupleHashOf (done.map (itHash prog w)) < 2 ^ 63)) = true
    · rw [if_pos hr]
      rw [if_pos hr] at h
      exact wpAny_pure (by simpa [Nat.add_assoc] using h)
    · rw [if_neg hr]
      rw [if_neg hr] at h
      exact wpAny_bind (wpAny_rule (wpAny_pure (by simpa [Nat.add_assoc] using h)))
theorem it_eq {x y : It} {u v : Value} {Q : Bool → Shared → Prop} (hu : A.units < cLine) (hx : ItIs prog w s.heap x u) (hy : ItIs prog w s.heap y v) (hk : (∃ z, x = .tx z) ↔ (∃ z, y = .tx z)) (h : Q (decide (x = y)) s) : wpAny (model prog w) A (eqBool u v) Q E s := by
  cases x with
  | tx z =>
    obtain ⟨z', rfl⟩ := hk.mp ⟨_, rfl⟩
    refine (strKind prog w).eqBool (a := z) (b := z') hx hy ?_
    simpa using h
  | ns l =>
    cases y with
    | tx z =>
      obtain ⟨_, e⟩ := hk.mpr ⟨_, rfl⟩
      cases e
    | ns l' =>
      obtain ⟨a, rfl, hx⟩ := hx
      obtain ⟨b, rfl, hy⟩ := hy
      refine wpAny_eqBool_tuple hu hx hy ?_
      simpa using h
/-- item by item of one kind, as far as both reach -/
inductive Alike : List It → List It → Prop
  | nil {y : List It} : Alike [] y
  | nil' {x : List It} : Alike x []
  | cons {a b : It} {x y : List It} : ((∃ z, a = .tx z) ↔ (∃ z, b = .tx z)) → Alike x y → Alike (a :: x) (b :: y)
theorem eq_tree {x y : List It} {a b : Addr} {P : Fin → Shared → Prop} (hu : A.units < cLine) (al : Alike x y) (hx : IsNest prog w s.heap x a) (hy : IsNest prog w s.heap y b) (h : P (.done (.ret (.bool (decide (x = y))))) s) :
    wpAny (model prog w) A (Builtin.«tuple.__eq__» ⟨[.ref a, .ref b], []⟩) P E s := by
  have hTb := hy.typeIs
  obtain ⟨oa, xs, na, hoa, _, hda, hia⟩ := hx
  obtain ⟨ob, ys, nb, hob, _, hdb, hib⟩ := hy
  show wpAny _ _ (isInstance (.ref b) (.type "tuple") >>= _) _ _ s
  refine wpAny_bind (wpAny_isInstance hTb isSubtype_tuple_tuple ?_)
  simp only [Bool.not_true, Bool.false_eq_true, if_false]
  refine wpAny_bind (wpAny_tupleItemsOf hoa hda ?_)
  refine wpAny_bind (wpAny_tupleItemsOf hob hdb ?_)
  refine wpAny_bind ?_
  refine wpAny_forIn_list _
    (fun rest r s' => r.1 = none ∧ s' = s ∧ ∃ x' y' xs' ys', rest = List.zip xs' ys' ∧ ItsAre prog w s.heap x' xs' ∧ ItsAre prog w s.heap y' ys' ∧ Alike x' y' ∧ decide (x' = y') = decide (x = y) ∧ (xs'.length == ys'.length) = (xs.size == ys.size))
    _ ?_ ?_ _ _ ⟨rfl, rfl, x, y, xs.toList, ys.toList, rfl, hia, hib, al, rfl, by simp⟩
  · rintro ⟨u, v⟩ rest r s' ⟨hr, rfl, x', y', xs', ys', hz, hx', hy', al', hdec, hlen⟩
    cases hx' with
    | nil => simp at hz
    | @cons k1 u' x'' xs'' h1 hx'' =>
      cases hy' with
      | nil => simp at hz
      | @cons k2 v' y'' ys'' h2 hy'' =>
        cases al' with
        | cons same al'' =>
        simp only [List.zip_cons_cons, List.cons.injEq, Prod.mk.injEq] at hz
        obtain ⟨⟨rfl, rfl⟩, rfl⟩ := hz
        refine wpAny_bind (it_eq hu h1 h2 same ?_)
        by_cases hk : k1 = k2
        · subst hk
          rw [decide_eq_true rfl]
          simp only [Bool.not_true, Bool.false_eq_true, if_false]
          refine wpAny_pure ⟨rfl, rfl, x'', y'', xs'', ys'', rfl, hx'', hy'', al'', ?_, by simpa using hlen⟩
          rw [← hdec]
          by_cases hxy : x'' = y'' <;> simp [hxy]
        · rw [decide_eq_false hk]
          simp only [Bool.not_false, if_true]
          have hf : decide (x = y) = false := by rw [← hdec]; simp [hk]
          rw [hf] at h
          exact wpAny_bind (wpAny_pure (wpAny_pure (wpAny_pure h)))
  · rintro ⟨r1, r2⟩ s' ⟨hr, rfl, x', y', xs', ys', hz, hx', hy', al', hdec, hlen⟩
    simp only at hr
    subst hr
    refine wpAny_pure ?_
    have hfin : (xs.size == ys.size) = decide (x = y) := by
      rw [← hdec, ← hlen]
      cases hx' with
      | nil =>
        cases hy' with
        | nil => simp
        | cons _ _ => simp
      | cons _ _ =>
        cases hy' with
        | nil => simp
        | cons _ _ => simp at hz
    show P (.done (.ret (.bool (xs.size == ys.size)))) s'
    rw [hfin]; exact h
theorem wp_eq {x y : List It} {a b : Addr} {Q : Bool → Shared → Prop} (hu : A.units < cLine ∧ A.in1.units < cLine) (al : Alike x y) (hx : IsNest prog w s.heap x a) (hy : IsNest prog w s.heap y b) (h : Q (decide (x = y)) s) :
    wpAny (model prog w) A (eqBool (.ref a) (.ref b)) Q E s := by
  unfold eqBool
  try with_reducible refine wpAny_holding ?_
  show wpAny _ _ (if (Value.ref a == Value.ref b) = true then _ else _) Q E s
  by_cases hab : (Value.ref a == Value.ref b) = true
  · rw [if_pos hab]
    have e : a = b := by have := eq_of_beq hab; injection this
    subst e
    obtain rfl := hx.inj hy
    exact wpAny_bind (wpAny_rule (wpAny_pure (by simpa using h)))
  · rw [if_neg hab]
    exact wpAny_bind (wpAny_richCompare_same_room (op := .Eq) hx.typeIs hy.typeIs F.slot_tuple_eq
      (wpAny_call_entry F.slot_tuple_eq hx.typeIs F.entry_tuple_eq (eq_tree hu.2 al hx hy ⟨_, rfl, (fun e => nomatch e), wpAny_truthy_bool h⟩) (F.args_tuple_eq_2 _ _)) hu.1)
theorem quiet_tup {K : Type} [DecidableEq K] {knd : KeyKind prog w K} {ks : List K} {a : Addr} {m : Nat} {Q : Bool → Shared → Prop} (hk : IsTupleKey knd s.heap ks a) (h : Q true s) : wpAny (model prog w) A (eqIsQuiet (m + 1) (.ref a)) Q E s := by
  have hT := hk.typeIs
  obtain ⟨o, items, n, ho, _, hd, hi⟩ := hk
  unfold eqIsQuiet
  refine wpAny_bind (wpAny_specialOf hT F.slot_tuple_eq.lookup ?_)
  show wpAny _ _ (isInstance (.ref a) (.type "tuple") >>= _) _ _ s
  refine wpAny_bind (wpAny_isInstance hT isSubtype_tuple_tuple ?_)
  simp only [Bool.not_true, Bool.false_eq_true, if_false]
  refine wpAny_bind (wpAny_seqItems ho hd ?_)
  refine wpAny_bind ?_
  show wpAny _ _ (forIn items _ _) _ _ s
  rw [← Array.forIn_toList]
  refine wpAny_forIn_list _ (fun rest r s' => r.1 = none ∧ s' = s ∧ ∀ v ∈ rest, carriedByValue v = true) _ ?_ ?_ _ _ ⟨rfl, rfl, hi.byValue⟩
  · rintro v rest r s' ⟨hr, rfl, hall⟩
    rw [eqIsQuiet_byValue _ (hall v List.mem_cons_self)]
    refine wpAny_bind (wpAny_pure ?_)
    simp only [Bool.not_true, Bool.false_eq_true, if_false]
    exact wpAny_pure ⟨rfl, rfl, fun u hu' => hall u (List.mem_cons_of_mem _ hu')⟩
  · rintro ⟨r1, r2⟩ s' ⟨hr, rfl, _⟩
    simp only at hr
    subst hr
    exact wpAny_pure h
theorem wp_quiet {ks : List It} {a : Addr} {Q : Bool → Shared → Prop} (hk : IsNest prog w s.heap ks a) (h : Q true s) : wpAny (model prog w) A (eqIsQuiet 8 (.ref a)) Q E s := by
  have hT := hk.typeIs
  obtain ⟨o, items, n, ho, _, hd, hi⟩ := hk
  unfold eqIsQuiet
  refine wpAny_bind (wpAny_specialOf hT F.slot_tuple_eq.lookup ?_)
  show wpAny _ _ (isInstance (.ref a) (.type "tuple") >>= _) _ _ s
  refine wpAny_bind (wpAny_isInstance hT isSubtype_tuple_tuple ?_)
  simp only [Bool.not_true, Bool.false_eq_true, if_false]
  refine wpAny_bind (wpAny_seqItems ho hd ?_)
  refine wpAny_bind ?_
  show wpAny _ _ (forIn items _ _) _ _ s
  rw [← Array.forIn_toList]
  refine wpAny_forIn_list _ (fun rest r s' => r.1 = none ∧ s' = s ∧ ∃ left, ItsAre prog w s.heap left rest) _ ?_ ?_ _ _ ⟨rfl, rfl, ks, hi⟩
  · rintro v rest r s' ⟨hr, rfl, left, hl⟩
    cases hl with
    | @cons k _ ks' _ h1 hl' =>
      have go : ∀ {Q' : Bool → Shared → Prop}, Q' true s' → wpAny (model prog w) A (eqIsQuiet 7 v) Q' E s' := fun {Q'} q => by
        cases k with
        | tx z =>
          rw [eqIsQuiet_byValue _ ((strKind prog w).byValue _ _ h1)]
          exact wpAny_pure q
        | ns l =>
          obtain ⟨b, rfl, hb⟩ := h1
          exact quiet_tup hb q
      refine wpAny_bind (go ?_)
      simp only [Bool.not_true, Bool.false_eq_true, if_false]
      exact wpAny_pure ⟨rfl, rfl, ks', hl'⟩
  · rintro ⟨r1, r2⟩ s' ⟨hr, rfl, _⟩
    simp only at hr
    subst hr
    exact wpAny_pure h
/-- a key: a text and a tuple of ints -/
def frontKind (prog : Program) (w : World) : HeapKind prog w (Str × List Int) where
  is := fun h k a => IsNest prog w h [.tx k.1, .ns k.2] a
  hash := fun k => nestHash prog w [.tx k.1, .ns k.2]
  draws := fun k => nestDraws [.tx k.1, .ns k.2]
  room := fun A => A.units < cLine ∧ A.in1.units < cLine
  inj := fun {h a x y} hx hy => by
    have e := hx.inj hy
    injection e with e1 e2
    injection e1 with e1
    injection e2 with e2 _
    injection e2 with e2
    exact Prod.ext e1 e2
  keeps := fun x ho hd hs => x.keeps ho hd hs
  pyHash := fun hu hk h => wp_hash hu hk h
  eqBool := fun {A E s x y a b Q} hu hx hy h => by
    refine wp_eq hu (.cons ⟨fun _ => ⟨_, rfl⟩, fun _ => ⟨_, rfl⟩⟩ (.cons ⟨fun ⟨_, e⟩ => (nomatch e), fun ⟨_, e⟩ => (nomatch e)⟩ .nil)) hx hy ?_
    have e : decide ([It.tx x.1, It.ns x.2] = [It.tx y.1, It.ns y.2]) = decide (x = y) := decide_eq_decide.mpr ⟨fun e => by
      injection e with e1 e2
      injection e1 with e1
      injection e2 with e2 _
      injection e2 with e2
      exact Prod.ext e1 e2, fun e => by rw [e]⟩
    rw [e]
    exact h
  quiet := fun hk h => wp_quiet hk h
end
end PySem.Nk
/-! Dicts whose keys are pairs of a text and a tuple of ints, as tracked things. -/
namespace G
open PySem PySem.Spec PyProof.Rows L2
abbrev FK := Str × List Int
/-- the tuple at a is the key k -/
def KeyAt (K : PySem.W.Frag) (H : Hp) (k : FK) (a : Addr) : Prop := ∃ b, SqT K H a [.str k.1, .ref b] ∧ SqT K H b (k.2.map V.int)
theorem ints_are {P : Program} {w : World} : ∀ {ds : List Int} {vs : List Value}, Vals (ds.map V.int) vs → ItemsAre (intKind P w) ds vs
  | [], _, h => by cases h; exact .nil
  | d :: r, _, h => by
    cases h with
    | cons r1 t =>
      obtain ⟨tk, rfl⟩ := r1
      exact .cons (intKind_is P w d tk) (ints_are t)
theorem key_of {X : Cx} {pins : List (Addr × Obj)} {σ : L2.St} {H : Hp} {s : Shared} {k : FK} {a : Addr} (I : Inv X pins σ H s) (x : KeyAt X.K H k a) : (Nk.frontKind X.prog X.w).is s.heap k a := by
  obtain ⟨b, ha, hb⟩ := x
  obtain ⟨ia, va, ta, _⟩ := I.tuple ha
  obtain ⟨ib, vb, tb, _⟩ := I.tuple hb
  cases va with
  | cons r1 va =>
    cases va with
    | cons r2 va =>
      cases va
      obtain ⟨tk, rfl⟩ := r1
      cases r2
      obtain ⟨oa, ga, ca, na, da⟩ := ta
      obtain ⟨ob, gb, cb, nb, db⟩ := tb
      exact ⟨oa, _, na, ga, ca, da, .cons (strKind_is _ _ _ _) (.cons ⟨b, rfl, ob, _, nb, gb, cb, db, ints_are vb⟩ .nil)⟩
/-- one entry: the key, where its tuple stands, the value -/
abbrev FE := FK × Addr × V
/-- the dict at a -/
def FD (P : Program) (w : World) (a : Addr) (es : List FE) : HO := .ext fun h => (a == sysModules) = false ∧ es.length ≤ sizeLine ∧ ∃ xs : List (FK × Addr × Value), Paired (fun (p : FE) (q : FK × Addr × Value) => p.1 = q.1 ∧ p.2.1 = q.2.1 ∧ RelV p.2.2 q.2.2) es xs ∧
  ∃ o ds ep, h.get? a = some o ∧ o.ExactDict ∧ o.data = .dict ds ep ∧ ds.toList = xs.map (entryOfKey (Nk.frontKind P w)) ∧ (xs.map (·.1)).Nodup
/-- the keys' tuples stand -/
def KeysAt (K : PySem.W.Frag) (H : Hp) (es : List FE) : Prop := ∀ e ∈ es, KeyAt K H e.1 e.2.1
theorem fd_new {P : Program} {w : World} {H : Hp} {h : Heap} {a : Addr} {es : List FE} {xs : List (FK × Addr × Value)} (hm : (a == sysModules) = false) (hl : es.length ≤ sizeLine) (pr : Paired (fun (p : FE) (q : FK × Addr × Value) => p.1 = q.1 ∧ p.2.1 = q.2.1 ∧ RelV p.2.2 q.2.2) es xs)
    (R : h.DictOfH (Nk.frontKind P w) a xs) : ObjOk P w H h a (FD P w a es) := by
  obtain ⟨o, ds, ep, ho, hc, hd, he, _, hn⟩ := R
  refine ⟨⟨hm, hl, xs, pr, o, ds, ep, ho, hc, hd, he, hn⟩, ⟨o, ho⟩, fun h1 h2 p k => ?_⟩
  obtain ⟨hm, hl, xs, pr, o, ds, ep, ho, r⟩ := p
  exact ⟨hm, hl, xs, pr, o, ds, ep, k o ho, r⟩
theorem paired_mem {α β : Type} {F : α → β → Prop} : ∀ {as : List α} {bs : List β}, Paired F as bs → ∀ b ∈ bs, ∃ a ∈ as, F a b
  | _, _, .nil, _, h => (List.not_mem_nil h).elim
  | _, _, .cons f t, b, h => by
    rcases List.mem_cons.mp h with rfl | h
    · exact ⟨_, List.mem_cons_self, f⟩
    · obtain ⟨a, ha, fa⟩ := paired_mem t b h
      exact ⟨a, List.mem_cons_of_mem _ ha, fa⟩
theorem fd_get {X : Cx} {pins : List (Addr × Obj)} {σ : L2.St} {H : Hp} {s : Shared} {a : Addr} {es : List FE} (I : Inv X pins σ H s) (ha : H a = some (FD X.prog X.w a es)) (ks : KeysAt X.K H es) : (a == sysModules) = false ∧ es.length ≤ sizeLine ∧
    ∃ xs : List (FK × Addr × Value), Paired (fun (p : FE) (q : FK × Addr × Value) => p.1 = q.1 ∧ p.2.1 = q.2.1 ∧ RelV p.2.2 q.2.2) es xs ∧ s.heap.DictOfH (Nk.frontKind X.prog X.w) a xs := by
  obtain ⟨⟨hm, hl, xs, pr, o, ds, ep, ho, hc, hd, he, hn⟩, _⟩ := I.hok a _ ha
  refine ⟨hm, hl, xs, pr, o, ds, ep, ho, hc, hd, he, fun x hx => ?_, hn⟩
  obtain ⟨e, hem, e1, e2, _⟩ := paired_mem pr x hx
  have := key_of I (ks e hem)
  rw [e1, e2] at this
  exact this
/-- what the dict holds under a key -/
def lookF (es : List FE) (k : FK) : Option V := (es.find? fun e => decide (e.1 = k)).map (·.2.2)
theorem look_at {k : FK} : ∀ {es : List FE} {xs : List (FK × Addr × Value)}, Paired (fun (p : FE) (q : FK × Addr × Value) => p.1 = q.1 ∧ p.2.1 = q.2.1 ∧ RelV p.2.2 q.2.2) es xs →
    (lookF es k = none ∧ atKey xs k = none) ∨ ∃ v a u, lookF es k = some v ∧ atKey xs k = some (a, u) ∧ RelV v u
  | [], _, h => by cases h; exact .inl ⟨rfl, rfl⟩
  | e :: r, _, h => by
    cases h with
    | @cons _ q _ ys h1 t =>
      obtain ⟨e1, e2, e3⟩ := h1
      by_cases hk : e.1 = k
      · refine .inr ⟨e.2.2, q.2.1, q.2.2, ?_, ?_, e3⟩
        · unfold lookF
          rw [List.find?_cons_of_pos (by simpa using hk)]
          rfl
        · unfold atKey
          rw [List.find?_cons_of_pos (by rw [← e1]; simpa using hk)]
          rfl
      · have ih := look_at (k := k) t
        unfold lookF atKey at ih ⊢
        rw [List.find?_cons_of_neg (by simpa using hk), List.find?_cons_of_neg (by rw [← e1]; simpa using hk)]
        exact ih
theorem front_room {P : Program} {w : World} {A : Around} (hu : A.units + 64 < cLine) : (Nk.frontKind P w).room A.in1 := by
  have e1 : A.in1.units = A.units + 1 := rfl
  have e2 : A.in1.in1.units = A.units + 2 := rfl
  exact ⟨by omega, by omega⟩
section
variable {X : Cx}
def rFIn (K : PySem.W.Frag) (P : Program) (w : World) (neg : Bool) : V → V → Hp → VK → Prop := fun x y H Q => ∃ (t d : Addr) (k : FK) (es : List FE), x = .ref t ∧ y = .ref d ∧ KeyAt K H k t ∧ H d = some (FD P w d es) ∧ KeysAt K H es ∧ Q (.bl (if neg then !(lookF es k).isSome else (lookF es k).isSome)) H
theorem or_fin (hu : X.A.units + 64 < cLine) : OpR X (compareOp .In) (rFIn X.K X.prog X.w false) := by
  intro pins s σ H x y v u Q I rx ry h
  obtain ⟨t, d, k, es, rfl, rfl, hk, hd, ks, q⟩ := h
  cases rx
  cases ry
  obtain ⟨hm, hl, xs, pr, R⟩ := fd_get I hd ks
  refine wpAny_in_heap (knd := Nk.frontKind X.prog X.w) ?_ (key_of I hk) hm R ?_
  · exact front_room hu
  · have e : (atKey xs k).isSome = (lookF es k).isSome := by
      rcases look_at (k := k) pr with ⟨a, b⟩ | ⟨_, _, _, a, b, _⟩ <;> rw [a, b] <;> rfl
    rw [e]
    exact ⟨.bl _, H, I.tok _, rfl, q⟩
theorem or_fnotin (hu : X.A.units + 64 < cLine) : OpR X (compareOp .NotIn) (rFIn X.K X.prog X.w true) := by
  intro pins s σ H x y v u Q I rx ry h
  obtain ⟨t, d, k, es, rfl, rfl, hk, hd, ks, q⟩ := h
  cases rx
  cases ry
  obtain ⟨hm, hl, xs, pr, R⟩ := fd_get I hd ks
  refine wpAny_notIn_heap (knd := Nk.frontKind X.prog X.w) (front_room hu) (key_of I hk) hm R ?_
  have e : (atKey xs k).isSome = (lookF es k).isSome := by
    rcases look_at (k := k) pr with ⟨a, b⟩ | ⟨_, _, _, a, b, _⟩ <;> rw [a, b] <;> rfl
  rw [e]
  exact ⟨.bl _, H, I.tok _, rfl, q⟩
/-- d[k] -/
def rFGet (K : PySem.W.Frag) (P : Program) (w : World) : R2 := fun x y H Q => ∃ (d t : Addr) (k : FK) (es : List FE) (v : V), x = .ref d ∧ y = .ref t ∧ KeyAt K H k t ∧ H d = some (FD P w d es) ∧ KeysAt K H es ∧ lookF es k = some v ∧ Q v H
/-- d[k] = v -/
def storeF (es : List FE) (k : FK) (a : Addr) (v : V) : List FE := if (lookF es k).isSome = true then es.map (fun e => if e.1 = k then (e.1, e.2.1, v) else e) else es ++ [(k, a, v)]
theorem put_pair {k : FK} {t : Addr} {v : V} {u : Value} (rv : RelV v u) {es : List FE} {xs : List (FK × Addr × Value)} (pr : Paired (fun (p : FE) (q : FK × Addr × Value) => p.1 = q.1 ∧ p.2.1 = q.2.1 ∧ RelV p.2.2 q.2.2) es xs) :
    Paired (fun (p : FE) (q : FK × Addr × Value) => p.1 = q.1 ∧ p.2.1 = q.2.1 ∧ RelV p.2.2 q.2.2) (storeF es k t v) (storedH xs k t u) := by
  have e : (atKey xs k).isSome = (lookF es k).isSome := by
    rcases look_at (k := k) pr with ⟨a, b⟩ | ⟨_, _, _, a, b, _⟩ <;> rw [a, b] <;> rfl
  unfold storeF storedH
  rw [e]
  cases (lookF es k).isSome with
  | false =>
    simp only [Bool.false_eq_true, if_false]
    clear e
    induction pr with
    | nil => exact .cons ⟨rfl, rfl, rv⟩ .nil
    | cons h _ ih => exact .cons h ih
  | true =>
    simp only [if_true]
    clear e
    induction pr with
    | nil => exact .nil
    | @cons p q _ _ h _ ih =>
      refine .cons ?_ ih
      obtain ⟨h1, h2, h3⟩ := h
      unfold putAt
      dsimp only
      rw [← h1]
      by_cases hk : p.1 = k
      · rw [if_pos hk, if_pos hk]
        exact ⟨rfl, h2, rv⟩
      · rw [if_neg hk, if_neg hk]
        exact ⟨h1, h2, h3⟩
def rFPut (K : PySem.W.Frag) (P : Program) (w : World) : TSet := fun o i v H Q => ∃ (d t : Addr) (k : FK) (es : List FE), o = .ref d ∧ i = .ref t ∧ KeyAt K H k t ∧ H d = some (FD P w d es) ∧ KeysAt K H es ∧ es.length < sizeLine ∧ Q (upd H d (FD P w d (storeF es k t v)))
theorem storeF_len {es : List FE} {k : FK} {t : Addr} {v : V} : (storeF es k t v).length ≤ es.length + 1 := by
  unfold storeF
  split
  · rw [List.length_map]
    omega
  · rw [List.length_append]
    exact Nat.le_refl _
theorem set_fd (hu : X.A.units + 64 < cLine) : PSet X (rFPut X.K X.prog X.w) := by
  intro pins s σ H o i v ov iv u Q I ro ri rv h
  obtain ⟨d, t, k, es, rfl, rfl, hk, hd, ks, hl, q⟩ := h
  cases ro
  cases ri
  obtain ⟨hm, hz, xs, pr, R⟩ := fd_get I hd ks
  have hz' : xs.length ≤ sizeLine := by rw [← Paired.length pr]; exact hz
  refine wpAny_setItem_heap (hsz := hz') (knd := Nk.frontKind X.prog X.w) (front_room hu) (key_of I hk) R fun h' R' hs => ?_
  have he : ∃ q, h'.get? d = some q := let ⟨q, _, _, hq, _⟩ := R'; ⟨q, hq⟩
  exact ⟨_, d_write I (by rw [hd]; exact True.intro) hs he (fd_new hm (Nat.le_trans storeF_len hl) (put_pair rv pr) R'), q⟩
theorem ix_fd (hu : X.A.units + 64 < cLine) : IxR X (rFGet X.K X.prog X.w) := by
  intro value slice pins s σ H x y v u Q I rx ry h hs
  obtain ⟨d, t, k, es, z, rfl, rfl, hk, hd, ks, hl, q⟩ := h
  cases rx
  cases ry
  obtain ⟨hm, hz, xs, pr, R⟩ := fd_get I hd ks
  rcases look_at (k := k) pr with ⟨a, b⟩ | ⟨z', p, r, a, b, rv⟩
  · rw [hl] at a
    cases a
  · rw [hl] at a
    cases a
    exact subscriptTail_builtinR (x := r) R.typeIs PySem.F.slot_dict_getitem.lookup
      (wpAny_getItem_heap (knd := Nk.frontKind X.prog X.w) (Q := fun r' s' => r' = r ∧ EP X pins σ Q r' s') (front_room hu) (key_of I hk) R b ⟨rfl, z, H, I.tok _, rv, q⟩) hs
/-- len(d) -/
theorem meets_len {prog : Program} {w : World} (d : Addr) (hd : (d == sysModules) = false) : MeetsIn prog w (Builtin.«dict.__len__» ⟨[.ref d], []⟩) (fun _ R s => ∃ xs : List (FK × Addr × Value), s.heap.DictOfH (Nk.frontKind prog w) d xs ∧ R (.ok (.ret (.int xs.length s.toks))) { s with toks := s.toks + 1 }) :=
  .of_wp fun A R s ⟨xs, hm, h⟩ => by
    obtain ⟨o, es, ep, ho, hc, hdat, he, _, hn⟩ := hm
    show wpAny _ _ (dictSize d >>= _) _ _ s
    unfold dictSize
    refine wpAny_bind (wpAny_bind (wpAny_dictEntries ho hdat (wpAny_pure ?_)))
    show wpAny _ _ (Builtin.Dict.pendingCount d >>= _) _ _ s
    refine wpAny_bind (wpAny_pendingCount_other hd ?_)
    refine wpAny_ret_mkInt ?_
    have : es.size = xs.length := by
      have h2 := congrArg List.length he
      rw [List.length_map] at h2
      simpa using h2
    rw [Nat.add_zero, this]
    exact h
theorem len_body {prog : Program} {w : World} {A : Around} {E : Value → Shared → Prop} {s : Shared} {d : Addr} {xs : List (FK × Addr × Value)} {Q : Value → Shared → Prop} (hd : (d == sysModules) = false) (hm : s.heap.DictOfH (Nk.frontKind prog w) d xs) (hfit : (xs.length : Int) < 2 ^ 63)
    (h : Q (.int xs.length (s.toks + 1)) { s with toks := s.toks + 1 + 1 }) : wpAny (model prog w) A (Builtin.«len» ⟨[.ref d], []⟩) (fun fin s' => ∃ r, fin = .done (.ret r) ∧ Q r s') E s := by
  unfold Builtin.«len»
  refine wpAny_bind (m := oneArg "len" _) (wpAny_pure ?_)
  refine wpAny_bind (m := callSpecial? (.ref d) (Str.ofString "__len__")) (wpAny_callSpecial?_slot (name := Str.ofString "__len__") hm.typeIs F.slot_dict_len
    (call_meetsIn F.slot_dict_len hm.typeIs F.entry_dict_len (F.args_dict_len_1 _) (meets_len d hd) ⟨xs, hm, ?_⟩))
  show wpAny _ _ _ _ _ { s with toks := s.toks + 1 }
  refine wpAny_bind (wpAny_holding (wpAny_pure ?_))
  refine wpAny_bind (wpAny_letGo ?_)
  show wpAny _ _ (if ((xs.length : Nat) : Int) < 0 then _ else _) _ _ _
  rw [if_neg (by omega)]
  show wpAny _ _ (if ((xs.length : Nat) : Int) ≥ 2 ^ 63 then _ else _) _ _ _
  rw [if_neg (by omega)]
  exact wpAny_bind (wpAny_mkInt (wpAny_pure ⟨_, rfl, h⟩))
theorem call_lenFD : CallR X (.builtin "len") (fun xs H Q => ∃ (d : Addr) (es : List FE), xs = [V.ref d] ∧ H d = some (FD X.prog X.w d es) ∧ KeysAt X.K H es ∧ Q (.int (es.length : Int)) H) := by
  intro pins s σ H xs us Q I rs h
  obtain ⟨d, es, rfl, hd, ks, q⟩ := h
  obtain ⟨u, rfl, ru⟩ := vals1 rs
  cases ru
  obtain ⟨hm, hl, ys, pr, R⟩ := fd_get I hd ks
  have el := Paired.length pr
  have hs := sizeLine_eq
  refine Calls.call_function_entry kind_len plain_len entry_len (args_len1 _) (len_body hm R (by omega) ?_)
  exact ⟨.int es.length, H, I.tok _, ⟨_, by rw [← el]⟩, q⟩
end
end G
/-! Dicts of front keys, further: a display with one pair, list(d), sorted(a list of such keys). -/
namespace G
open PySem PySem.Spec PyProof.Rows L2
section
variable {X : Cx}
/-- {k: v} -/
def tDispF (K : PySem.W.Frag) (P : Program) (w : World) (tk tv : TE) : TE := fun σ H Q => ∀ p, H p = none → tk σ (upd H p (FD P w p [])) fun x H1 => tv σ H1 fun y H2 => ∃ (t : Addr) (k : FK), x = .ref t ∧ KeyAt K H2 k t ∧ H2 p = some (FD P w p []) ∧ Q (.ref p) (upd H2 p (FD P w p [(k, t, y)]))
theorem pe_dispF {pos : Pos} {k v : Expr} {tk tv : TE} (hu : X.A.units + 64 < cLine) (hk : PE X k tk) (hv : PE X v tv) : PE X (.Dict [some k] [v] pos) (tDispF X.K X.prog X.w tk tv) := by
  refine ⟨fun pins s σ H Q I q => ?_⟩
  have hn := I.hok.fresh (Nat.le_refl s.heap.objs.size)
  have hm : (s.heap.objs.size == sysModules) = false := beq_eq_false_iff_ne.mpr (Ne.symm (Nat.ne_of_lt I.big))
  have new0 : ObjOk X.prog X.w H (s.heap.push { cls := .type "dict", data := .dict #[] }) s.heap.objs.size (FD X.prog X.w s.heap.objs.size []) := fd_new hm (Nat.zero_le _) .nil (Heap.DictOfH.new s.heap)
  have I1 := I.laid (a := s.heap.objs.size) (o := FD X.prog X.w s.heap.objs.size []) (h' := s.heap.push { cls := .type "dict", data := .dict #[] }) (t' := s.toks) (fun _ _ q => Heap.get?_push_of_some _ q) (Nat.le_refl _) new0
  have room : (Nk.frontKind X.prog X.w).room X.A := by
    have e1 : X.A.in1.units = X.A.units + 1 := rfl
    exact ⟨by omega, by omega⟩
  have hz := zip_pairTrees [some k] [v] X.env pos rfl rfl
  rw [arm_eval_Dict, hz, dictDisplay_pairs (pairTrees [some k] [v] X.env pos) (by intro e; cases e) (by show 1 < 17; decide)]
  refine wpAny_bind (wpAny_standAt (wpAny_bind (wpAny_subDictH (knd := Nk.frontKind X.prog X.w) (Q := fun d s' => wpAny (model X.prog X.w) X.A (pure (Value.ref d)) (EP X pins σ Q) X.xe s') room (by show 1 ≤ 15; decide) ?_)))
  refine pairTrees_cons_walk (thn (hk.run pins _ σ _ _ I1 (q _ hn)) fun u s1 ⟨x, H1, I2, rx, q1⟩ => thn (hv.run pins s1 σ H1 _ I2 q1) fun u2 s2 ⟨y, H2, I3, ry, q2⟩ => pairTrees_nil_walk ?_)
  obtain ⟨t, kk, rfl, hkk, e, q3⟩ := q2
  cases rx
  have ko := key_of I3 hkk
  obtain ⟨hm2, _, xs0, pr0, R0⟩ := fd_get I3 e fun e he => (List.not_mem_nil he).elim
  cases pr0
  refine ⟨[(kk, t, u2)], ⟨rfl, rfl, ko, True.intro⟩, R0, fun h' tk dd' hs => wpAny_pure ⟨.ref s.heap.objs.size, _, ?_, rfl, q3⟩⟩
  have he : ∃ q, h'.get? s.heap.objs.size = some q := let ⟨q, _, _, hq, _⟩ := dd'; ⟨q, hq⟩
  have I4 : Inv X pins σ H2 { s2 with toks := tk } := I3.tok tk
  exact d_write (s := { s2 with toks := tk }) I4 (by rw [e]; exact True.intro) hs he (fd_new (es := [(kk, t, y)]) hm (by show 1 ≤ sizeLine; decide) (.cons ⟨rfl, rfl, ry⟩ .nil) dd')
theorem paired_at {α β : Type} {F : α → β → Prop} : ∀ {as : List α} {bs : List β}, Paired F as bs → ∀ {j : Nat} {a : α} {b : β}, as[j]? = some a → bs[j]? = some b → F a b
  | _, _, .nil, _, _, _, h, _ => by cases h
  | _, _, .cons f t, j, a, b, h, k => by
    cases j with
    | zero =>
      have e1 := Option.some.inj h
      have e2 := Option.some.inj k
      subst e1
      subst e2
      exact f
    | succ j => exact paired_at t h k
theorem refs_vals : ∀ {es : List FE} {us : List Value}, us.length = es.length → (∀ (j : Nat) (v : Value), us[j]? = some v → ∃ e, es[j]? = some e ∧ v = .ref e.2.1) → Vals (es.map fun e => V.ref e.2.1) us
  | [], [], _, _ => .nil
  | e :: r, u :: us, hl, h => by
    obtain ⟨e', h1, rfl⟩ := h 0 u rfl
    have h1' : e = e' := Option.some.inj h1
    subst h1'
    exact .cons rfl (refs_vals (Nat.succ.inj hl) fun j v hv => h (j + 1) v hv)
/-- list(d) -/
theorem call_listFD (hc : X.calm = true) : CallR X (.type "list") (fun xs H Q => ∃ (d : Addr) (es : List FE), xs = [V.ref d] ∧ H d = some (FD X.prog X.w d es) ∧ KeysAt X.K H es ∧ ∀ p, H p = none → Q (.ref p) (upd H p (.lst (es.map fun e => V.ref e.2.1)))) := by
  intro pins s σ H xs us Q I r h
  obtain ⟨d, es, rfl, hd, ks, q⟩ := h
  obtain ⟨u, rfl, ru⟩ := vals1 r
  cases ru
  obtain ⟨hm, hl, ys, pr, R⟩ := fd_get I hd ks
  obtain ⟨ds, ep, raw, sz, at'⟩ := Heap.DictOfH.raw R
  have le := Paired.length pr
  refine PySem.W.kdl_call (KdlSrc.rawDict (ep := ep) hm) (I.ok.hd hc) raw (by rw [sz, ← le]; exact hl) fun h' tk acc c' hk hD hacc => ?_
  have hv : Vals (es.map fun e => V.ref e.2.1) acc.toList := refs_vals (by rw [Array.length_toList, hacc.1, sz, ← le]) fun j v e => by
    obtain ⟨hj, ev⟩ := hacc.2 j v (by rw [← Array.getElem?_toList]; exact e)
    obtain ⟨y, h1, h2, _⟩ := at' j hj
    have lt : j < es.length := by rw [le, ← sz]; exact hj
    refine ⟨es[j], List.getElem?_eq_getElem lt, ?_⟩
    rw [ev, h2, (paired_at pr (List.getElem?_eq_getElem lt) h1).2.1]
  exact ⟨.ref s.heap.objs.size, upd H s.heap.objs.size (.lst (es.map fun e => V.ref e.2.1)), I.laid (t' := tk) hk (Nat.le_refl _)
    (show ObjOk X.prog X.w _ _ _ (.lst (es.map fun e => V.ref e.2.1)) from ⟨by rw [List.length_map]; exact hl, acc.toList, c', hv, by rw [Array.toArray_toList]; exact hD⟩), rfl, q _ (I.hok.fresh (Nat.le_refl _))⟩
end
/-! ### sorting keys -/
def dKey (k : FK) : PyData := .tuple [.str k.1, .tuple (k.2.map PyData.int)]
theorem dpA_ints {K : PySem.W.Frag} {H : Hp} : ∀ ds : List Int, DpAll K H (ds.map V.int) (ds.map PyData.int)
  | [] => .nil
  | d :: r => .cons (.int d) (dpA_ints r)
theorem dp_key {K : PySem.W.Frag} {H : Hp} {k : FK} {a : Addr} (x : KeyAt K H k a) : Dp K H (.ref a) (dKey k) := by
  obtain ⟨b, h1, h2⟩ := x
  exact .tup h1 (.cons (.str _) (.cons (.tup h2 (dpA_ints _)) .nil))
theorem alike_key (a b : FK) : PySem.W.alike (dKey a) (dKey b) = true := by
  have h := PySem.W.alike_ints a.2 b.2
  simp [dKey, PySem.W.alike, PySem.W.alikeAll, h]
theorem depth_key (k : FK) : (dKey k).depth ≤ 4 := by
  have h := PySem.W.depth_ints k.2
  simp only [dKey, PyData.depth, PyData.depthAll, h]
  omega
theorem toks_ints : ∀ {as bs : List Int}, PySem.W.keyToksAll (as.map PyData.int) = PySem.W.keyToksAll (bs.map PyData.int) → as = bs
  | [], [], _ => rfl
  | [], b :: r, h => by
    simp [PySem.W.keyToksAll, PySem.W.keyToks] at h
  | a :: r, [], h => by
    simp [PySem.W.keyToksAll, PySem.W.keyToks] at h
  | a :: r, b :: q, h => by
    simp only [List.map_cons, PySem.W.keyToksAll, PySem.W.keyToks, List.cons_append, List.nil_append, List.cons.injEq, Sum.inl.injEq, true_and] at h
    rw [h.1, toks_ints h.2]
theorem toks_key {a b : FK} (h : PySem.W.keyToks (dKey a) = PySem.W.keyToks (dKey b)) : a = b := by
  unfold dKey at h
  simp only [PySem.W.keyToksAll, PySem.W.keyToks, List.cons_append, List.nil_append, List.cons.injEq, Sum.inr.injEq, true_and] at h
  obtain ⟨h1, h2⟩ := h
  refine Prod.ext (PySem.W.str_of_cps h1) (toks_ints ?_)
  exact List.append_cancel_right h2
def leK : FK → FK → Bool := PySem.W.dataLe false dKey
/-- the keys, ascending -/
def srtK (ks : List FK) : List FK := ks.mergeSort leK
theorem leK_anti (a b : FK) (h1 : leK a b = true) (h2 : leK b a = true) : a = b := by
  refine toks_key ((PyProof.Rows.listOrd PyProof.Rows.itemOrd).total _ _ ?_ ?_)
  · simpa [leK, PySem.W.dataLe, PySem.W.sortLe] using h2
  · simpa [leK, PySem.W.dataLe, PySem.W.sortLe] using h1
theorem leK_total : PySem.W.TotalLe leK := PySem.W.sortLe_total (PyProof.Rows.listOrd PyProof.Rows.itemOrd) false fun b => PySem.W.keyToks (dKey b)
theorem srtK_perm {as bs : List FK} (h : as.Perm bs) : srtK as = srtK bs := by
  have t : ∀ x y, (leK x y || leK y x) = true := fun x y => by
    rw [Bool.or_eq_true]
    exact leK_total.total x y
  exact PySem.W.Srt.the_of_perm leK leK_total.trans t leK_anti ((List.mergeSort_perm as leK).trans h) (List.pairwise_mergeSort leK_total.trans t as)
theorem srtK_mem {ks : List FK} : (srtK ks).Perm ks := List.mergeSort_perm ks leK
section
variable {X : Cx}
/-- sorted(a list of keys) -/
def rSortK (K : PySem.W.Frag) : List V → Hp → VK → Prop := fun vs H Q => ∃ (a : Addr) (ps : List (Addr × FK)), vs = [V.ref a] ∧ SqL K H a (ps.map fun p => V.ref p.1) ∧ (∀ p ∈ ps, KeyAt K H p.2 p.1) ∧
  ∀ q, H q = none → ∀ qs : List (Addr × FK), qs.Perm ps → qs.map (·.2) = srtK (ps.map (·.2)) → Q (.ref q) (upd H q (.lst (qs.map fun p => V.ref p.1)))
theorem vals_refs : ∀ {ps : List (Addr × FK)} {us : List Value}, Vals (ps.map fun p => V.ref p.1) us → PySem.W.EachIs (fun v (b : Addr × FK) => v = .ref b.1) us ps
  | [], _, h => by cases h; exact .nil
  | p :: r, _, h => by
    cases h with
    | cons e t => exact .cons e (vals_refs t)
theorem refs_of : ∀ {ps : List (Addr × FK)} {us : List Value}, PySem.W.EachIs (fun v (b : Addr × FK) => v = .ref b.1) us ps → Vals (ps.map fun p => V.ref p.1) us
  | _, _, .nil => .nil
  | _, _, .cons e t => .cons e (refs_of t)
theorem reads_keys {pins : List (Addr × Obj)} {σ : L2.St} {H : Hp} {s : Shared} (I : Inv X pins σ H s) : ∀ {ps : List (Addr × FK)} {us : List Value}, PySem.W.EachIs (fun v (b : Addr × FK) => v = .ref b.1) us ps → (∀ p ∈ ps, KeyAt X.K H p.2 p.1) →
    PySem.W.EachIs (fun v b => ∃ as, Reads s.heap v (dKey b.2) as) us ps
  | _, _, .nil, _ => .nil
  | _, _, .cons e t, h => .cons (Dp.reads I _ _ _ (dp_key (h _ List.mem_cons_self)) e) (reads_keys I t fun p hp => h p (List.mem_cons_of_mem _ hp))
theorem cr_sortK (K : PySem.W.Frag) (hu : X.A.units + 64 < cLine) (e : X.K = K := by rfl) : CallR X (.builtin "sorted") (rSortK K) := by
  subst e
  intro pins s σ H vs us Q I r h
  obtain ⟨a, ps, rfl, hs, hk, q⟩ := h
  obtain ⟨its, rv, hl, hz⟩ := I.list hs
  rw [Vals.ref1 r]
  have ei := vals_refs rv
  have hz' : ps.length ≤ sizeLine := by
    rw [List.length_map] at hz
    exact hz
  refine PySem.W.sorted_data (enc := fun b : Addr × FK => dKey b.2) (bs := ps) hl.isList ei (reads_keys I ei hk) (PySem.W.AllAlike.of fun b b' => alike_key _ _) (PySem.W.Sortable.tuples fun b => ⟨_, _, rfl⟩) hz' (fun b _ => by
    have := depth_key b.2
    show X.A.units + 2 + (dKey b.2).depth < cLine
    omega) fun out ol eo => ?_
  obtain ⟨ep, he'⟩ := PyProof.Rows.sortedAll_at s.heap its out.toArray
  have pm : (ps.mergeSort (PySem.W.dataLe false fun b : Addr × FK => dKey b.2)).Perm ps := List.mergeSort_perm _ _
  have hlen : ((ps.mergeSort (PySem.W.dataLe false fun b : Addr × FK => dKey b.2)).map fun p => V.ref p.1).length ≤ sizeLine := by
    rw [List.length_map, pm.length_eq]
    exact hz'
  exact ⟨.ref _, upd H (s.heap.objs.size + 1) (.lst ((ps.mergeSort (PySem.W.dataLe false fun b : Addr × FK => dKey b.2)).map fun p => V.ref p.1)), I.laid (t' := s.toks) (fun _ _ => PyProof.Rows.sortedAll_old) (Nat.le_succ _) ⟨hlen, out, ep, refs_of eo, he'⟩, rfl,
    q _ (I.hok.fresh (Nat.le_succ _)) _ pm (PySem.W.sort_maps (fun p : Addr × FK => p.2) fun a _ b _ => rfl)⟩
end
end G
/-! The reached fronts of a book, in plain Lean: the walk from layer to layer. -/
namespace G
open PySem PySem.Spec PyProof.Rows L2
noncomputable def fr (F : Tf) (L : Nat) (l : List Nat) : FK := (sOf (frontW L l), frontD F L l)
section
variable {F : Tf} {L : Nat}
theorem snoc_cases {l : List Nat} (ne : l ≠ []) : ∃ l0 x, l = l0 ++ [x] := by
  rcases List.eq_nil_or_concat l with e | ⟨l0, x, e⟩
  · exact absurd e ne
  · exact ⟨l0, x, by rw [e, List.concat_eq_append]⟩
theorem over_of {l : List Nat} {c : Nat} (o : Over F l) (oc : Over F [c]) : Over F (l ++ [c]) := fun d hd => by
  rcases List.mem_append.mp hd with h | h
  · exact o d h
  · exact oc d h
theorem over_init {l : List Nat} {c : Nat} (o : Over F (l ++ [c])) : Over F l ∧ Over F [c] := ⟨fun d hd => o d (List.mem_append_left _ hd), fun d hd => o d (List.mem_append_right _ hd)⟩
/-- a step's front, by the front alone -/
theorem fr_next (G : Good F) (W : Wide F L) (hL : 1 ≤ L) {l : List Nat} {c : Nat} (o : Over F (l ++ [c])) {m : Int} (h : StepR F (frontW L l) (frontD F L l) c m) : fr F L (l ++ [c]) = (sOf (stepW L (frontW L l) c), stepD L (frontW L l) (frontD F L l) c m) ∧ m = lp F (l ++ [c]) - lp F l := by
  have e := h.uniq (front_change G W o)
  subst e
  exact ⟨by unfold fr; rw [front_stepW hL, front_stepD hL], rfl⟩
theorem fr_inj {l l' : List Nat} (h : fr F L l = fr F L l') : frontW L l = frontW L l' ∧ frontD F L l = frontD F L l' := by
  have h1 := congrArg (fun k : FK => cs k.1) h
  have h2 := congrArg (fun k : FK => k.2) h
  unfold fr at h1 h2
  dsimp only at h1 h2
  rw [cs_sOf, cs_sOf] at h1
  exact ⟨h1, h2⟩
theorem fr_step (G : Good F) (W : Wide F L) (hL : 1 ≤ L) {l l' : List Nat} {c : Nat} (h : fr F L l = fr F L l') (o : Over F (l ++ [c])) (o' : Over F (l' ++ [c])) : fr F L (l ++ [c]) = fr F L (l' ++ [c]) := by
  obtain ⟨h1, h2⟩ := fr_inj h
  have s := front_change G W o
  have s' := s
  rw [h1, h2] at s'
  rw [(fr_next G W hL o s).1, (fr_next G W hL o' s').1, h1, h2]
theorem fr_nil : fr F L [] = (sOf [], []) := by
  unfold fr frontW frontD
  rw [List.drop_nil, List.length_nil, Nat.min_zero]
  rfl
/-- an entry: the front, where its tuple stands, a shortest text -/
abbrev BE := FK × Addr × List Nat
def keysE (E : List BE) : List FK := E.map (·.1)
theorem keysE_app {E E' : List BE} : keysE (E ++ E') = keysE E ++ keysE E' := List.map_append
/-- behind n layers -/
structure Bfs (F : Tf) (L n : Nat) (E lay : List BE) : Prop where
  nd : (keysE E).Nodup
  ok : ∀ e ∈ E, Over F e.2.2 ∧ fr F L e.2.2 = e.1 ∧ e.2.2.length ≤ n ∧ ∀ l, Over F l → fr F L l = e.1 → e.2.2.length ≤ l.length
  all : ∀ l, Over F l → l.length ≤ n → fr F L l ∈ keysE E
  lay1 : ∀ e ∈ E, e.2.2.length = n → ∃ p ∈ lay, p.1 = e.1 ∧ p.2.2 = e.2.2
  lay2 : ∀ p ∈ lay, ∃ e ∈ E, e.1 = p.1 ∧ e.2.2 = p.2.2 ∧ e.2.2.length = n
theorem bfs_start (a b : Addr) : Bfs F L 0 [((sOf [], []), a, [])] [((sOf [], []), b, [])] where
  nd := List.nodup_cons.mpr ⟨List.not_mem_nil, .nil⟩
  ok := fun e he => by
    rw [List.mem_singleton.mp he]
    exact ⟨fun _ h => (List.not_mem_nil h).elim, fr_nil, Nat.le_refl _, fun _ _ _ => Nat.zero_le _⟩
  all := fun l _ h => by
    have e : l = [] := List.length_eq_zero_iff.mp (Nat.le_zero.mp h)
    rw [e, fr_nil]
    exact List.mem_cons_self
  lay1 := fun e he _ => ⟨_, List.mem_cons_self, by rw [List.mem_singleton.mp he], by rw [List.mem_singleton.mp he]⟩
  lay2 := fun p hp => ⟨_, List.mem_cons_self, by rw [List.mem_singleton.mp hp], by rw [List.mem_singleton.mp hp], rfl⟩
/-- within a layer -/
structure Mid (F : Tf) (L n : Nat) (E nw : List BE) : Prop where
  nd : (keysE (E ++ nw)).Nodup
  new : ∀ e ∈ nw, Over F e.2.2 ∧ fr F L e.2.2 = e.1 ∧ e.2.2.length = n + 1
theorem Bfs.mid {n : Nat} {E lay : List BE} (B : Bfs F L n E lay) : Mid F L n E [] := ⟨by rw [List.append_nil]; exact B.nd, fun _ h => (List.not_mem_nil h).elim⟩
theorem Mid.add {n : Nat} {E nw : List BE} (M : Mid F L n E nw) {k : FK} {a : Addr} {t : List Nat} (h : k ∉ keysE (E ++ nw)) (o : Over F t) (e : fr F L t = k) (ln : t.length = n + 1) : Mid F L n E (nw ++ [(k, a, t)]) := by
  refine ⟨?_, fun x hx => ?_⟩
  · rw [← List.append_assoc, keysE_app]
    refine List.nodup_append.mpr ⟨M.nd, List.nodup_cons.mpr ⟨List.not_mem_nil, .nil⟩, fun x hx y hy => ?_⟩
    rw [List.mem_singleton.mp hy]
    intro q
    rw [q] at hx
    exact h hx
  · rcases List.mem_append.mp hx with hx | hx
    · exact M.new x hx
    · rw [List.mem_singleton.mp hx]
      exact ⟨o, e, ln⟩
theorem Mid.next (G : Good F) (W : Wide F L) (hL : 1 ≤ L) {n : Nat} {E lay nw : List BE} (B : Bfs F L n E lay) (M : Mid F L n E nw) (dn : ∀ p ∈ lay, ∀ c, Over F [c] → fr F L (p.2.2 ++ [c]) ∈ keysE (E ++ nw)) : Bfs F L (n + 1) (E ++ nw) nw where
  nd := M.nd
  ok := fun e he => by
    rcases List.mem_append.mp he with h | h
    · obtain ⟨h1, h2, h3, h4⟩ := B.ok e h
      exact ⟨h1, h2, by omega, h4⟩
    · obtain ⟨h1, h2, h3⟩ := M.new e h
      refine ⟨h1, h2, by omega, fun l o q => ?_⟩
      rcases Nat.lt_or_ge n l.length with c | c
      · omega
      · have h5 := B.all l o c
        have nd := M.nd
        rw [keysE_app] at nd
        exact absurd rfl ((List.nodup_append.mp nd).2.2 _ h5 _ (by rw [q]; exact List.mem_map.mpr ⟨e, h, rfl⟩))
  all := fun l o hl => by
    rcases Nat.lt_or_ge l.length (n + 1) with c | c
    · rw [keysE_app]
      exact List.mem_append_left _ (B.all l o (by omega))
    · have ne : l ≠ [] := fun e => by rw [e] at c; exact absurd c (by simp)
      obtain ⟨l0, x, rfl⟩ : ∃ l0 x, l = l0 ++ [x] := snoc_cases ne
      rw [List.length_append, List.length_singleton] at hl c
      obtain ⟨o0, ox⟩ := over_init o
      obtain ⟨e, he, ee⟩ := List.mem_map.mp (B.all l0 o0 (by omega))
      obtain ⟨h1, h2, h3, h4⟩ := B.ok e he
      have st : fr F L (l0 ++ [x]) = fr F L (e.2.2 ++ [x]) := fr_step G W hL (by rw [h2, ee]) o (over_of h1 ox)
      rw [st]
      rcases Nat.lt_or_ge e.2.2.length n with q | q
      · rw [keysE_app]
        exact List.mem_append_left _ (B.all _ (over_of h1 ox) (by rw [List.length_append, List.length_singleton]; omega))
      · obtain ⟨p, hp, _, p2⟩ := B.lay1 e he (by omega)
        have := dn p hp x ox
        rwa [p2] at this
  lay1 := fun e he hl => by
    rcases List.mem_append.mp he with h | h
    · have := (B.ok e h).2.2.1
      omega
    · exact ⟨e, h, rfl, rfl⟩
  lay2 := fun p hp => ⟨p, List.mem_append_right _ hp, rfl, rfl, (M.new p hp).2.2⟩
/-- no layer is left: all fronts are there -/
theorem Bfs.done (G : Good F) (W : Wide F L) (hL : 1 ≤ L) {n : Nat} {E : List BE} (B : Bfs F L n E []) : ∀ (k : Nat) (l : List Nat), l.length ≤ k → Over F l → fr F L l ∈ keysE E := by
  intro k
  induction k with
  | zero => exact fun l h o => B.all l o (by omega)
  | succ k ih =>
    intro l h o
    rcases Nat.lt_or_ge n l.length with c | c
    · have ne : l ≠ [] := fun e => by rw [e] at c; exact absurd c (by simp)
      obtain ⟨l0, x, rfl⟩ : ∃ l0 x, l = l0 ++ [x] := snoc_cases ne
      rw [List.length_append, List.length_singleton] at h c
      obtain ⟨o0, ox⟩ := over_init o
      obtain ⟨e, he, ee⟩ := List.mem_map.mp (ih l0 (by omega) o0)
      obtain ⟨h1, h2, h3, h4⟩ := B.ok e he
      have st : fr F L (l0 ++ [x]) = fr F L (e.2.2 ++ [x]) := fr_step G W hL (by rw [h2, ee]) o (over_of h1 ox)
      rw [st]
      have lt : e.2.2.length < n := by
        rcases Nat.lt_or_ge e.2.2.length n with q | q
        · exact q
        · obtain ⟨p, hp, _⟩ := B.lay1 e he (by omega)
          exact (List.not_mem_nil hp).elim
      exact B.all _ (over_of h1 ox) (by rw [List.length_append, List.length_singleton]; omega)
    · exact B.all l o c
/-- a front that some text has -/
def Rch (F : Tf) (L : Nat) (k : FK) : Prop := ∃ l, Over F l ∧ fr F L l = k
/-- at most so many fronts -/
def Few (F : Tf) (L b : Nat) : Prop := ∃ ks : List FK, ks.length ≤ b ∧ ∀ k, Rch F L k → k ∈ ks
theorem Bfs.count {n b : Nat} {E lay : List BE} (B : Bfs F L n E lay) (fw : Few F L b) : E.length ≤ b := by
  obtain ⟨ks, h1, h2⟩ := fw
  have := nd_sub_len (l1 := keysE E) (l2 := ks) B.nd fun k hk => by
    obtain ⟨e, he, rfl⟩ := List.mem_map.mp hk
    obtain ⟨o, q, _⟩ := B.ok e he
    exact h2 _ ⟨_, o, q⟩
  unfold keysE at this
  rw [List.length_map] at this
  omega
theorem Mid.count {n b : Nat} {E lay nw : List BE} (B : Bfs F L n E lay) (M : Mid F L n E nw) (fw : Few F L b) : (E ++ nw).length ≤ b := by
  obtain ⟨ks, h1, h2⟩ := fw
  have := nd_sub_len (l1 := keysE (E ++ nw)) (l2 := ks) M.nd fun k hk => by
    obtain ⟨e, he, rfl⟩ := List.mem_map.mp hk
    rcases List.mem_append.mp he with h | h
    · obtain ⟨o, q, _⟩ := B.ok e h
      exact h2 _ ⟨_, o, q⟩
    · obtain ⟨o, q, _⟩ := M.new e h
      exact h2 _ ⟨_, o, q⟩
  unfold keysE at this
  rw [List.length_map] at this
  omega
/-- what the walk leaves: each reached front once, with a shortest text -/
structure Whole (F : Tf) (L : Nat) (E : List BE) : Prop where
  nd : (keysE E).Nodup
  ok : ∀ e ∈ E, Over F e.2.2 ∧ fr F L e.2.2 = e.1 ∧ ∀ l, Over F l → fr F L l = e.1 → e.2.2.length ≤ l.length
  all : ∀ l, Over F l → fr F L l ∈ keysE E
theorem Bfs.whole (G : Good F) (W : Wide F L) (hL : 1 ≤ L) {n : Nat} {E : List BE} (B : Bfs F L n E []) : Whole F L E := ⟨B.nd, fun e he => let ⟨h1, h2, _, h4⟩ := B.ok e he; ⟨h1, h2, h4⟩, fun l o => B.done G W hL _ l (Nat.le_refl _) o⟩
theorem Whole.few {E : List BE} {b : Nat} (w : Whole F L E) (h : E.length ≤ b) : Few F L b := ⟨keysE E, by unfold keysE; rw [List.length_map]; exact h, fun k ⟨l, o, e⟩ => e ▸ w.all l o⟩
theorem Whole.mem {E : List BE} (w : Whole F L E) {k : FK} : k ∈ keysE E ↔ Rch F L k := ⟨fun h => by
  obtain ⟨e, he, rfl⟩ := List.mem_map.mp h
  obtain ⟨o, q, _⟩ := w.ok e he
  exact ⟨_, o, q⟩, fun ⟨l, o, e⟩ => e ▸ w.all l o⟩
theorem whole_perm {F' : Tf} {L' : Nat} {E E' : List BE} (w : Whole F L E) (w' : Whole F' L' E') (h : ∀ k, Rch F L k ↔ Rch F' L' k) : (keysE E).Perm (keysE E') :=
  (List.perm_ext_iff_of_nodup w.nd w'.nd).mpr fun k => by rw [w.mem, w'.mem, h]
/-- a list of fronts that holds the first one and all that follow -/
theorem rch_closed (G : Good F) (W : Wide F L) (hL : 1 ≤ L) {ks : List FK} (h0 : (sOf [], []) ∈ ks) (h : ∀ l c, Over F (l ++ [c]) → fr F L l ∈ ks → fr F L (l ++ [c]) ∈ ks) : ∀ (n : Nat) (l : List Nat), l.length ≤ n → Over F l → fr F L l ∈ ks := by
  intro n
  induction n with
  | zero =>
    intro l hl _
    rw [List.length_eq_zero_iff.mp (Nat.le_zero.mp hl), fr_nil]
    exact h0
  | succ n ih =>
    intro l hl o
    by_cases ne : l = []
    · rw [ne, fr_nil]
      exact h0
    · obtain ⟨l0, x, rfl⟩ : ∃ l0 x, l = l0 ++ [x] := snoc_cases ne
      rw [List.length_append, List.length_singleton] at hl
      exact h _ _ o (ih l0 (by omega) (over_init o).1)
/-- the same cheapest prices and letters: the same fronts -/
theorem fr_congr {F' : Tf} {l : List Nat} (h : ∀ l, Over F l → lp F' l = lp F l) (o : Over F l) : fr F' L l = fr F L l := by
  unfold fr frontD
  rw [h l o]
  congr 2
  funext i
  rw [h _ (o.take _)]
theorem rch_congr {F' : Tf} (ov : ∀ l, Over F' l ↔ Over F l) (h : ∀ l, Over F l → lp F' l = lp F l) (k : FK) : Rch F' L k ↔ Rch F L k :=
  ⟨fun ⟨l, o, e⟩ => ⟨l, (ov l).mp o, (fr_congr h ((ov l).mp o)).symm.trans e⟩, fun ⟨l, o, e⟩ => ⟨l, (ov l).mpr o, (fr_congr h o).trans e⟩⟩
/-- a shorter front is a part of the longer one -/
def cutFr (L' : Nat) (k : FK) : FK := (sOf ((cs k.1).drop ((cs k.1).length - (L' - 1))), k.2.take (L' - 1))
theorem fr_cut {L' : Nat} (hl : L' ≤ L) (l : List Nat) : fr F L' l = cutFr L' (fr F L l) := by
  unfold fr cutFr
  dsimp only
  rw [cs_sOf, frontW_len]
  congr 1
  · congr 1
    unfold frontW
    rw [List.drop_drop]
    congr 1
    omega
  · unfold frontD
    rw [← List.map_take, List.take_range]
    congr 2
    omega
theorem few_cut {F' : Tf} {L' b : Nat} (hl : L' ≤ L) (ov : ∀ l, Over F' l ↔ Over F l) (h : ∀ l, Over F l → lp F' l = lp F l) (fw : Few F L b) : Few F' L' b := by
  obtain ⟨ks, h1, h2⟩ := fw
  refine ⟨ks.map (cutFr L'), by rw [List.length_map]; exact h1, fun k ⟨l, o, e⟩ => List.mem_map.mpr ⟨fr F L l, h2 _ ⟨l, (ov l).mp o, rfl⟩, ?_⟩⟩
  rw [← fr_cut hl, ← e]
  exact (fr_congr h ((ov l).mp o)).symm
end
end G
/-! Reached fronts on the heap: the dicts of the walk, the class of the program, its promises; len of an instance. -/
namespace G
open PySem PySem.Spec PyProof.Rows L2
/-! ### keys stand -/
section
variable {K : PySem.W.Frag} {H H' : Hp} {k : FK} {a : Addr}
theorem rd_keep {o : HO} (s : Same H H') (h : Rd H a o) : Rd H' a o := by
  rcases h with h | ⟨q, h⟩
  · exact .inl (s _ _ h)
  · exact .inr ⟨q, s _ _ h⟩
theorem sqt_same {xs : List V} (s : Same H H') (h : SqT K H a xs) : SqT K H' a xs := by
  rcases h with h | h
  · exact .inl (rd_keep s h)
  · exact .inr h
theorem KeyAt.same (x : KeyAt K H k a) (s : Same H H') : KeyAt K H' k a := by
  obtain ⟨b, h1, h2⟩ := x
  exact ⟨b, sqt_same s h1, sqt_same s h2⟩
theorem FrontAt.key {l : List Nat} {ds : List Int} (f : FrontAt H a l ds) : KeyAt K H (sOf l, ds) a := by
  obtain ⟨b, h1, h2⟩ := f
  exact ⟨b, SqT.of h1, SqT.of h2⟩
/-- a thing that is no tuple changes -/
theorem sqt_upd {D : Addr} {o p : HO} {xs : List V} (hD : H D = some o) (no : (∀ ys, o ≠ .tup ys) ∧ ∀ q u, o ≠ .frz q u) (h : SqT K H a xs) : SqT K (upd H D p) a xs := by
  rcases h with h | h
  · rcases h with h | ⟨q, h⟩
    · refine .inl (.inl ?_)
      rw [upd_ne fun e => ?_]
      · exact h
      · rw [e, hD] at h
        exact no.1 _ (Option.some.inj h)
    · refine .inl (.inr ⟨q, ?_⟩)
      rw [upd_ne fun e => ?_]
      · exact h
      · rw [e, hD] at h
        exact no.2 _ _ (Option.some.inj h)
  · exact .inr h
theorem KeyAt.upd {D : Addr} {o p : HO} (x : KeyAt K H k a) (hD : H D = some o) (no : (∀ ys, o ≠ .tup ys) ∧ ∀ q u, o ≠ .frz q u) : KeyAt K (upd H D p) k a := by
  obtain ⟨b, h1, h2⟩ := x
  exact ⟨b, sqt_upd hD no h1, sqt_upd hD no h2⟩
theorem no_lst {ys : List V} : (∀ zs, HO.lst ys ≠ .tup zs) ∧ ∀ q u, HO.lst ys ≠ .frz q u := ⟨fun _ e => (nomatch e), fun _ _ e => (nomatch e)⟩
theorem no_fd {P : Program} {w : World} {d : Addr} {es : List FE} : (∀ zs, FD P w d es ≠ .tup zs) ∧ ∀ q u, FD P w d es ≠ .frz q u := ⟨fun _ e => (nomatch e), fun _ _ e => (nomatch e)⟩
/-- a written tuple -/
def InT (K : PySem.W.Frag) (a : Addr) (xs : List V) : Prop := ∃ (o : Obj) (its : Array Value) (n : Nat), K.lookup a = some o ∧ o.cls = .type "tuple" ∧ o.data = .seq its n ∧ its.size ≤ sizeLine ∧ Vals xs its.toList
def KeyK (K : PySem.W.Frag) (k : FK) (a : Addr) : Prop := ∃ b, InT K a [.str k.1, .ref b] ∧ InT K b (k.2.map V.int)
theorem KeyK.at (x : KeyK K k a) : KeyAt K H k a := by
  obtain ⟨b, h1, h2⟩ := x
  exact ⟨b, .inr h1, .inr h2⟩
theorem keyK_of {aF bF : Addr} {dF dF2 : Option Addr} {iF iF2 : Array Value} {mF mF2 : Nat} {sF sF2 : Array (Option Value)} {tF : Tok} {zF : Str} (l1 : K.lookup aF = some ⟨.type "tuple", dF, .seq iF mF, sF⟩) (e1 : iF.toList = [.str zF tF, .ref bF]) (ez : zF = sOf [])
    (l2 : K.lookup bF = some ⟨.type "tuple", dF2, .seq iF2 mF2, sF2⟩) (e2 : iF2.toList = []) : KeyK K (sOf [], []) aF := by
  subst ez
  refine ⟨bF, ⟨_, iF, mF, l1, rfl, rfl, ?_, ?_⟩, ⟨_, iF2, mF2, l2, rfl, rfl, ?_, ?_⟩⟩
  · rw [← Array.length_toList, e1]
    show 2 ≤ sizeLine
    decide
  · rw [e1]
    exact .cons ⟨tF, rfl⟩ (.cons rfl .nil)
  · rw [← Array.length_toList, e2]
    exact Nat.zero_le _
  · rw [e2]
    exact .nil
end
/-! ### the dicts of the walk -/
def textV (t : List Nat) : V := .str (sOf t)
def sizeV (t : List Nat) : V := .int (t.length : Int)
def feOf (val : List Nat → V) (E : List BE) : List FE := E.map fun e => (e.1, e.2.1, val e.2.2)
section
variable {val : List Nat → V} {E : List BE} {k : FK} {a : Addr} {t : List Nat}
theorem look_in (h : k ∈ keysE E) : (lookF (feOf val E) k).isSome = true := by
  unfold lookF feOf
  rw [Option.isSome_map, List.find?_isSome]
  obtain ⟨e, he, rfl⟩ := List.mem_map.mp h
  exact ⟨_, List.mem_map.mpr ⟨e, he, rfl⟩, by simp⟩
theorem look_out (h : k ∉ keysE E) : lookF (feOf val E) k = none := by
  unfold lookF feOf
  rw [Option.map_eq_none_iff, List.find?_eq_none]
  intro x hx
  obtain ⟨e, he, rfl⟩ := List.mem_map.mp hx
  have : e.1 ≠ k := fun q => h (q ▸ List.mem_map.mpr ⟨e, he, rfl⟩)
  simpa using this
theorem look_iff : (lookF (feOf val E) k).isSome = decide (k ∈ keysE E) := by
  by_cases h : k ∈ keysE E
  · rw [look_in h, decide_eq_true h]
  · rw [look_out h, decide_eq_false h]
    rfl
theorem look_val {e : BE} (nd : (keysE E).Nodup) (h : e ∈ E) : lookF (feOf val E) e.1 = some (val e.2.2) := by
  induction E with
  | nil => cases h
  | cons x r ih =>
    obtain ⟨n1, n2⟩ := List.nodup_cons.mp nd
    unfold lookF feOf
    rw [List.map_cons]
    rcases List.mem_cons.mp h with rfl | h
    · rw [List.find?_cons_of_pos (by simp)]
      rfl
    · have ne : x.1 ≠ e.1 := fun q => n1 (by
        show x.1 ∈ keysE r
        rw [q]
        exact List.mem_map.mpr ⟨e, h, rfl⟩)
      rw [List.find?_cons_of_neg (by simpa using ne)]
      exact ih n2 h
theorem put_new (h : k ∉ keysE E) : storeF (feOf val E) k a (val t) = feOf val (E ++ [(k, a, t)]) := by
  unfold storeF
  rw [look_out h]
  unfold feOf
  simp
theorem feOf_len : (feOf val E).length = E.length := List.length_map _
def StandE (K : PySem.W.Frag) (H : Hp) (E : List BE) : Prop := ∀ e ∈ E, KeyAt K H e.1 e.2.1
theorem StandE.keys {K : PySem.W.Frag} {H : Hp} (h : StandE K H E) : KeysAt K H (feOf val E) := fun x hx => by
  obtain ⟨e, he, rfl⟩ := List.mem_map.mp hx
  exact h e he
theorem StandE.same {K : PySem.W.Frag} {H H' : Hp} (h : StandE K H E) (s : Same H H') : StandE K H' E := fun e he => (h e he).same s
theorem StandE.upd {K : PySem.W.Frag} {H : Hp} {D : Addr} {o p : HO} (h : StandE K H E) (hD : H D = some o) (no : (∀ ys, o ≠ .tup ys) ∧ ∀ q u, o ≠ .frz q u) : StandE K (L2.upd H D p) E := fun e he => (h e he).upd hD no
theorem StandE.add {K : PySem.W.Frag} {H : Hp} {e : BE} (h : StandE K H E) (he : KeyAt K H e.1 e.2.1) : StandE K H (E ++ [e]) := fun x hx => by
  rcases List.mem_append.mp hx with hx | hx
  · exact h x hx
  · rw [List.mem_singleton.mp hx]
    exact he
theorem feOf_keys : (feOf val E).map (fun e => V.ref e.2.1) = E.map fun e => V.ref e.2.1 := by
  unfold feOf
  rw [List.map_map]
  rfl
end
/-! ### the class -/
def frF (b d t : Addr) : List (Str × V) := [("own_book", .ref b), ("own_texts", .ref d), ("own_fronts", .ref t)]
/-- an instance of Fronts, of a book with the prices F -/
structure FrsAt (K : PySem.W.Frag) (P : Program) (w : World) (Cf : Addr) (H : Hp) (p b : Addr) (F : Tf) (L : Nat) (E : List BE) (qs : List (Addr × FK)) (dx d t : Addr) : Prop where
  ob : H p = some (.ins Cf dx (frF b d t))
  dc : H d = some (FD P w d (feOf textV E))
  st : StandE K H E
  tp : H t = some (.tup (qs.map fun q => V.ref q.1))
  pm : qs.Perm (E.map fun e => (e.2.1, e.1))
  so : qs.map (·.2) = srtK (keysE E)
  wh : Whole F L E
theorem FrsAt.same {K : PySem.W.Frag} {P : Program} {w : World} {Cf : Addr} {H H' : Hp} {p b : Addr} {F : Tf} {L : Nat} {E : List BE} {qs : List (Addr × FK)} {dx d t : Addr} (x : FrsAt K P w Cf H p b F L E qs dx d t) (s : Same H H') : FrsAt K P w Cf H' p b F L E qs dx d t :=
  ⟨s _ _ x.ob, s _ _ x.dc, x.st.same s, s _ _ x.tp, x.pm, x.so, x.wh⟩
theorem FrsAt.keys {K : PySem.W.Frag} {P : Program} {w : World} {Cf : Addr} {H : Hp} {p b : Addr} {F : Tf} {L : Nat} {E : List BE} {qs : List (Addr × FK)} {dx d t : Addr} (x : FrsAt K P w Cf H p b F L E qs dx d t) : ∀ q ∈ qs, KeyAt K H q.2 q.1 := fun q hq => by
  obtain ⟨e, he, rfl⟩ := List.mem_map.mp (x.pm.mem_iff.mp hq)
  exact x.st e he
theorem ff_book {b d t : Addr} : (frF b d t).lookup ("own_book" : Str) = some (.ref b) := lk_at
theorem ff_texts {b d t : Addr} : (frF b d t).lookup ("own_texts" : Str) = some (.ref d) := (lk_by (by decide +kernel)).trans lk_at
theorem ff_fronts {b d t : Addr} : (frF b d t).lookup ("own_fronts" : Str) = some (.ref t) := (lk_by (by decide +kernel)).trans ((lk_by (by decide +kernel)).trans lk_at)
/-! ### promises -/
/-- step_in, the front written or made -/
def spStepK (K : PySem.W.Frag) (C : Addr) : Sp := fun vs H Q _ => ∃ (b f : Addr) (kvs : List (Key × V)) (l : List Nat) (ds : List Int) (c L : Nat), vs = [.ref b, .ref f, .str (ch c)] ∧ Book1 C H b kvs ∧ KeyAt K H (sOf l, ds) f ∧ Wide (tfD kvs) L ∧ Over (tfD kvs) l ∧ Over (tfD kvs) [c] ∧ l.length < L ∧ ds.length = l.length ∧ (∀ x ∈ l, lett x = true) ∧
  (∀ x ∈ ds, isInteger (.int x) = true) ∧ ∀ t m H', StepR (tfD kvs) l ds c m → StepAt H' t (stepW L l c) (stepD L l ds c m) m → Same H H' → Q (.ref t) H'
/-- fronts_reached -/
def spReached (C : Addr) (K : PySem.W.Frag) (P : Program) (w : World) : Sp := fun vs H Q _ => ∃ b kvs L, vs = [.ref b] ∧ Book1 C H b kvs ∧ Wide (tfD kvs) L ∧ Few (tfD kvs) L 2000 ∧ ∀ d E H', Whole (tfD kvs) L E → E.length ≤ 2000 → H' d = some (FD P w d (feOf textV E)) → StandE K H' E → Same H H' → Q (.ref d) H'
/-- Fronts.__init__ -/
def spFronts (C Cf : Addr) (K : PySem.W.Frag) (P : Program) (w : World) : Sp := fun vs H Q _ => ∃ p dx b kvs L, vs = [.ref p, .ref b] ∧ H p = some (.ins Cf dx []) ∧ Book1 C H b kvs ∧ Wide (tfD kvs) L ∧ Few (tfD kvs) L 2000 ∧
  ∀ H' E qs d t, FrsAt K P w Cf H' p b (tfD kvs) L E qs dx d t → (∀ c o, H c = some o → c ≠ p → H' c = some o) → Q .non H'
theorem made_fronts {C Cf x dx b : Addr} {K : PySem.W.Frag} {P : Program} {w : World} {H : Hp} {kvs : List (Key × V)} {L : Nat} {Q : VK} {E : XK} (hx : H x = none) (hdx : H dx = none) (B : Book1 C H b kvs) (wd : Wide (tfD kvs) L) (fw : Few (tfD kvs) L 2000)
    (q : ∀ H' E qs d t, FrsAt K P w Cf H' x b (tfD kvs) L E qs dx d t → Same H H' → Q .non H') : spFronts C Cf K P w (.ref x :: ([.ref b] ++ [])) (upd (upd H dx (.own x)) x (.ins Cf dx [])) Q E := by
  have s1 : Same H (upd (upd H dx (.own x)) x (.ins Cf dx [])) := fun c o e => by
    rw [upd_ne (ne_of_none e hx), upd_ne (ne_of_none e hdx)]
    exact e
  refine ⟨x, dx, b, kvs, L, rfl, upd_same, B.same s1, wd, fw, fun H' E qs d t A k => q H' E qs d t A fun c o e => k c o (s1 _ _ e) (ne_of_none e hx)⟩
/-- Fronts.rows -/
def spRows (Cf : Addr) (K : PySem.W.Frag) (P : Program) (w : World) : Sp := fun vs H Q _ => ∃ p b F L E qs dx d t, vs = [.ref p] ∧ FrsAt K P w Cf H p b F L E qs dx d t ∧ Q (.ref t) H
/-- Fronts.__len__ -/
def spLenF (Cf : Addr) (K : PySem.W.Frag) (P : Program) (w : World) : Sp := fun vs H Q _ => ∃ p b F L E qs dx d t, vs = [.ref p] ∧ FrsAt K P w Cf H p b F L E qs dx d t ∧ E.length ≤ 2000 ∧ Q (.int (E.length : Int)) H
/-- _law_signs -/
def spSigns (K : PySem.W.Frag) : Sp := fun vs H Q _ => ∃ (d : Addr) (kvs : List (Key × V)), vs = [.ref d] ∧ H d = some (.dK kvs) ∧ arePrices kvs = true ∧ (kvs.map (·.1)).Nodup ∧ ∀ p (sg : List Nat) H', H p = none → H' p = some (.lst (sg.map chV)) → sg.length ≤ 100 → (∀ c, c ∈ sg ↔ Over (tfD kvs) [c]) → Same H H' → Q (.ref p) H'
/-- _law_fronts -/
def spLawFronts (K : PySem.W.Frag) (P : Program) (w : World) : Sp := fun vs H Q _ => ∃ (d : Addr) (kvs : List (Key × V)) (L m : Nat), vs = [.ref d, .int (m : Int)] ∧ H d = some (.dK kvs) ∧ arePrices kvs = true ∧ (kvs.map (·.1)).Nodup ∧ Wide (tfD kvs) L ∧ m ≤ 2000 ∧
  ∀ p (E : List BE) H', (m < E.length ∨ Whole (tfD kvs) L E) → E.length ≤ 1000000 → H' p = some (FD P w p (feOf sizeV E)) → StandE K H' E → Same H H' → Q (.ref p) H'
/-! ### len of an instance -/
section
variable {X : L2.Cx} {k j : Nat} {C : Addr} {sp : Sp}
def rLenO (C : Addr) (sp : Sp) : List V → Hp → VK → Prop := fun xs H Q => ∃ a dx fs, xs = [.ref a] ∧ H a = some (.ins C dx fs) ∧ sp [.ref a] H (fun r H' => ∃ n : Nat, r = .int (n : Int) ∧ n ≤ 1000000 ∧ Q (.int (n : Int)) H') C8.E0
theorem call_lenO (c : C8.Met X.prog X.w X.K X.mg X.base k C "__len__" sp []) (hr : Room j X.A) (hk : k + 1 ≤ j) : CallR X (.builtin "len") (rLenO C sp) := by
  intro pins s σ H xs us Q I rs h
  obtain ⟨a, dx, fs, rfl, ha, q⟩ := h
  obtain ⟨u, rfl, ru⟩ := vals1 rs
  cases ru
  obtain ⟨_, J, _⟩ := ins_get I.hok ha
  obtain ⟨_, J, _⟩ := J.look
  obtain ⟨f, h1, h2, h3⟩ := met_run1 (us := [.ref a]) (vs := [.ref a]) c hr hk I (.cons rfl .nil) q
  refine Calls.call_function_entry kind_len plain_len entry_len (args_len1 _) ?_
  unfold Builtin.«len»
  refine wpAny_bind (m := oneArg "len" _) (wpAny_pure ?_)
  refine wpAny_bind (m := callSpecial? (.ref a) (Str.ofString "__len__")) (PySem.W.special_fn I.kIn J h1 (beq_iff_eq.mp h2) (wpAny_mono h3 (fun r s' hq => ?_) fun _ _ e => e))
  obtain ⟨z, H', I', rz, n, rfl, hn, q⟩ := hq
  obtain ⟨tk, rfl⟩ := rz
  refine wpAny_bind (wpAny_holding (wpAny_pure ?_))
  refine wpAny_bind (wpAny_letGo ?_)
  show wpAny _ _ (if ((n : Nat) : Int) < 0 then _ else _) _ _ _
  rw [if_neg (by omega)]
  show wpAny _ _ (if ((n : Nat) : Int) ≥ 2 ^ 63 then _ else _) _ _ _
  rw [if_neg (by omega)]
  exact wpAny_bind (wpAny_mkInt (wpAny_pure ⟨_, rfl, .int (n : Int), H', I'.tok _, ⟨_, rfl⟩, q⟩))
end
end G
namespace G
open PySem PySem.Spec PyProof.Rows L2
section
variable {X : L2.Cx}
/-- xs != [] of any list -/
def rNeNil : R2 := fun x y H Q => ∃ a p xs, x = .ref a ∧ y = .ref p ∧ H a = some (.lst xs) ∧ H p = some (.lst []) ∧ Q (.bl (!xs.isEmpty)) H
theorem op_neNil (hu : X.A.units < cLine) : OpR X (compareOp .NotEq) rNeNil := by
  intro pins s σ H x y v u Q I rx ry h
  obtain ⟨a, p, xs, rfl, rfl, ha, hp, q⟩ := h
  cases rx
  cases ry
  obtain ⟨z1, i1, n1, r1, e1⟩ := I.hok a _ ha
  obtain ⟨z2, i2, n2, r2, e2⟩ := I.hok p _ hp
  have hi2 : i2 = [] := List.eq_nil_of_length_eq_zero r2.length.symm
  subst hi2
  have l1 : s.heap.IsList a i1.toArray := ⟨_, e1, rfl, _, rfl⟩
  have l2 : s.heap.IsList p ([] : List Value).toArray := ⟨_, e2, rfl, _, rfl⟩
  cases xs with
  | nil =>
    have hi1 : i1 = [] := List.eq_nil_of_length_eq_zero r1.length.symm
    subst hi1
    exact SeqAt.RcNeAt.lists (e := fun _ => true) l1 l2 rfl hu (fun j h1 => absurd h1 (by simp)) X.prog X.w _ _ ⟨.bl false, H, I, rfl, q⟩
  | cons w r =>
    refine SeqAt.RcNeAt.lists_lengths l1 l2 ?_ hu X.prog X.w _ _ ⟨.bl true, H, I, rfl, q⟩
    have := r1.length
    rw [List.size_toArray, List.size_toArray, ← this, List.length_cons, List.length_nil]
    exact bne_iff_ne.mpr (by omega)
end
end G
namespace G
open PySem PySem.Spec PyProof.Rows L2
/-- Book.longest -/
def spLongest (C : Addr) : Sp := fun vs H Q _ => ∃ b kvs, vs = [.ref b] ∧ Book1 C H b kvs ∧ ∀ L : Nat, Wide (tfD kvs) L → Q (.int (L : Int)) H
/-- _law_prices: a right dict over the signs -/
def spPricesM (K : PySem.W.Frag) : Sp := fun vs H Q _ => ∃ (l sa ma : Addr) (sg : List Nat) (ms : List Int) (n mo sz : Nat), vs = [.ref l, .ref sa, .int (mo : Int), .int (sz : Int), .ref ma] ∧ mo ≤ 6 ∧ 2 ≤ sz ∧ sz ≤ 5 ∧ sa ≠ l ∧ ma ≠ l ∧ SqL K H sa (sg.map chV) ∧ SqL K H ma (ms.map V.int) ∧ 1 ≤ sg.length ∧ sg.length ≤ 4 ∧ (∀ c ∈ sg, lett c = true) ∧
  1 ≤ ms.length ∧ ms.length ≤ 100 ∧ (∀ i ∈ ms, 1 ≤ i ∧ i ≤ 99) ∧ Dice H l (n + 100) ∧
  ∀ (p : Addr) (kvs : List (Key × V)) H', H p = none → p ≠ l → H' p = some (.dK kvs) → arePrices kvs = true → (kvs.map (·.1)).Nodup → (∀ c, (∃ q, tfD kvs (ch c) = some q) ↔ c ∈ sg) → Kp l H H' → Dice H' l n → Q (.ref p) H'
end G
namespace G
open PySem PySem.Spec PyProof.Rows L2
theorem ff2 {x y : V} : L2.putF "own_texts" y [(("own_book" : Str), x)] = [(("own_book" : Str), x), ("own_texts", y)] := by
  rw [pf_by (by decide +kernel)]
  rfl
theorem ff3 {x y z : V} : L2.putF "own_fronts" z [(("own_book" : Str), x), ("own_texts", y)] = [(("own_book" : Str), x), ("own_texts", y), ("own_fronts", z)] := by
  rw [pf_by (by decide +kernel), pf_by (by decide +kernel)]
  rfl
theorem Book1.updI {C b p Cf : Addr} {dx : Addr} {H : Hp} {kvs : List (Key × V)} {fs : List (Str × V)} {o : HO} (B : Book1 C H b kvs) (hp : H p = some (.ins Cf dx fs)) (n : b ≠ p) : Book1 C (L2.upd H p o) b kvs := by
  obtain ⟨ys, L, M, bx, d, tp, ta, od, h1, h2, A⟩ := B.ex
  have ne : ∀ {c : Addr} {u : HO}, H c = some u → (∀ Cf dx fs, u ≠ .ins Cf dx fs) → c ≠ p := fun h no e => by
    rw [e, hp] at h
    exact no _ _ _ (Option.some.inj h).symm
  refine ⟨B.av, B.nd, ys, L, M, bx, d, tp, ta, od, h1, h2, ?_, ?_, ?_, ?_, A.lo, A.de⟩
  · rw [upd_ne n]
    exact A.ob
  · rw [upd_ne (ne A.dc fun _ _ _ e => nomatch e)]
    exact A.dc
  · rw [upd_ne (ne A.pi fun _ _ _ e => nomatch e)]
    exact A.pi
  · rw [upd_ne (ne A.al fun _ _ _ e => nomatch e)]
    exact A.al
theorem no_ins {Cf dx : Addr} {fs : List (Str × V)} : (∀ zs, HO.ins Cf dx fs ≠ .tup zs) ∧ ∀ q u, HO.ins Cf dx fs ≠ .frz q u := ⟨fun _ e => (nomatch e), fun _ _ e => (nomatch e)⟩
end G
namespace G
open PySem PySem.Spec PyProof.Rows L2
/-- a book's signs, as they stand -/
theorem alpha_of {kvs : List (Key × V)} {ys : List Str} (av : arePrices kvs = true) (pm : ys.Perm (keyStrs kvs)) : ∃ sg : List Nat, (sgn (psOf kvs ys)).map V.str = sg.map chV ∧ sg.length ≤ 12 ∧ ∀ c, c ∈ sg ↔ Over (tfD kvs) [c] := by
  obtain ⟨⟨_, n2⟩, al, _, _⟩ := ap_parts av
  have mem : ∀ z, z ∈ sgn (psOf kvs ys) ↔ z ∈ keyStrs kvs ∧ z.length = 1 := fun z => by
    unfold sgn psOf
    rw [List.map_map, List.mem_filter, decide_eq_true_eq]
    have e : ys.map ((fun p : Str × Int => p.1) ∘ fun y => (y, priceIn kvs y)) = ys := by
      show ys.map (fun y => y) = ys
      exact List.map_id _
    rw [e, pm.mem_iff]
  obtain ⟨sg, e, _⟩ := lift_ch (P := fun _ => True) (ys := sgn (psOf kvs ys)) fun z hz => by
    obtain ⟨d, rfl⟩ := G.one_sign (z := z) (by rw [cs_len]; exact ((mem z).mp hz).2)
    exact ⟨d, rfl, trivial⟩
  refine ⟨sg, by rw [e, List.map_map]; rfl, ?_, fun c => ?_⟩
  · have h1 : sg.length = (sgn (psOf kvs ys)).length := by rw [e, List.length_map]
    have h2 : (sgn (psOf kvs ys)).length ≤ ys.length := by
      unfold sgn psOf
      refine Nat.le_trans (List.length_filter_le _ _) ?_
      rw [List.length_map, List.length_map]
      exact Nat.le_refl _
    have h3 := congrArg List.length (keys_of al)
    rw [List.length_map, List.length_map] at h3
    have h4 := pm.length_eq
    omega
  · have h1 : c ∈ sg ↔ ch c ∈ sgn (psOf kvs ys) := by
      rw [e]
      exact ⟨fun h => List.mem_map.mpr ⟨c, h, rfl⟩, fun h => by
        obtain ⟨d, hd, q⟩ := List.mem_map.mp h
        have : d = c := by
          have := congrArg cs q
          simpa [cs] using this
        exact this ▸ hd⟩
    rw [h1, mem, tf_key al]
    exact ⟨fun ⟨h, _⟩ d hd => by rw [List.mem_singleton.mp hd]; exact h, fun h => ⟨h c List.mem_cons_self, rfl⟩⟩
theorem lett_over {kvs : List (Key × V)} (av : arePrices kvs = true) (nd : (kvs.map (·.1)).Nodup) {c : Nat} (o : Over (tfD kvs) [c]) : lett c = true := by
  obtain ⟨sg, S⟩ := sgs_of av nd
  exact S.lt c ((S.tf c).mp (o c List.mem_cons_self))
end G
namespace G
open PySem PySem.Spec PyProof.Rows L2
/-! ### the rules with their parts named -/
section
variable {X : L2.Cx}
theorem g_dispF (K : PySem.W.Frag) (P : Program) (w : World) {pos : Pos} {k v : Expr} {tk tv : TE} (hu : X.A.units + 64 < cLine) (hk : PE X k tk) (hv : PE X v tv) (e1 : X.K = K := by rfl) (e2 : X.prog = P := by rfl) (e3 : X.w = w := by rfl) : PE X (.Dict [some k] [v] pos) (tDispF K P w tk tv) := by
  subst e1; subst e2; subst e3
  exact pe_dispF hu hk hv
theorem g_fin (K : PySem.W.Frag) (P : Program) (w : World) (hu : X.A.units + 64 < cLine) (e1 : X.K = K := by rfl) (e2 : X.prog = P := by rfl) (e3 : X.w = w := by rfl) : OpR X (compareOp .In) (rFIn K P w false) := by
  subst e1; subst e2; subst e3
  exact or_fin hu
theorem g_fnotin (K : PySem.W.Frag) (P : Program) (w : World) (hu : X.A.units + 64 < cLine) (e1 : X.K = K := by rfl) (e2 : X.prog = P := by rfl) (e3 : X.w = w := by rfl) : OpR X (compareOp .NotIn) (rFIn K P w true) := by
  subst e1; subst e2; subst e3
  exact or_fnotin hu
theorem g_ixfd (K : PySem.W.Frag) (P : Program) (w : World) (hu : X.A.units + 64 < cLine) (e1 : X.K = K := by rfl) (e2 : X.prog = P := by rfl) (e3 : X.w = w := by rfl) : IxR X (rFGet K P w) := by
  subst e1; subst e2; subst e3
  exact ix_fd hu
theorem g_setfd (K : PySem.W.Frag) (P : Program) (w : World) (hu : X.A.units + 64 < cLine) (e1 : X.K = K := by rfl) (e2 : X.prog = P := by rfl) (e3 : X.w = w := by rfl) : PSet X (rFPut K P w) := by
  subst e1; subst e2; subst e3
  exact set_fd hu
def rFLen (K : PySem.W.Frag) (P : Program) (w : World) : List V → Hp → VK → Prop := fun xs H Q => ∃ (d : Addr) (es : List FE), xs = [V.ref d] ∧ H d = some (FD P w d es) ∧ KeysAt K H es ∧ Q (.int (es.length : Int)) H
theorem g_lenfd (K : PySem.W.Frag) (P : Program) (w : World) (e1 : X.K = K := by rfl) (e2 : X.prog = P := by rfl) (e3 : X.w = w := by rfl) : CallR X (.builtin "len") (rFLen K P w) := by
  subst e1; subst e2; subst e3
  exact call_lenFD
def rFList (K : PySem.W.Frag) (P : Program) (w : World) : List V → Hp → VK → Prop := fun xs H Q => ∃ (d : Addr) (es : List FE), xs = [V.ref d] ∧ H d = some (FD P w d es) ∧ KeysAt K H es ∧ ∀ p, H p = none → Q (.ref p) (upd H p (.lst (es.map fun e => V.ref e.2.1)))
theorem g_listfd (K : PySem.W.Frag) (P : Program) (w : World) (hc : X.calm = true) (e1 : X.K = K := by rfl) (e2 : X.prog = P := by rfl) (e3 : X.w = w := by rfl) : CallR X (.type "list") (rFList K P w) := by
  subst e1; subst e2; subst e3
  exact call_listFD hc
theorem g_setTx (P : Program) (w : World) (hc : X.calm = true) (e2 : X.prog = P := by rfl) (e3 : X.w = w := by rfl) : CallR X (.type "set") (rSetTx P w) := by
  subst e2; subst e3
  exact cr_setTx hc
theorem g_sortTx (P : Program) (w : World) (hc : X.calm = true) (e2 : X.prog = P := by rfl) (e3 : X.w = w := by rfl) : CallR X (.builtin "sorted") (rSortTx P w) := by
  subst e2; subst e3
  exact cr_sortTx hc
end
end G
namespace G
open PySem PySem.Spec PyProof.Rows L2
theorem joinL_flat : ∀ ls : List (List Nat), TL.joinL [] ls = ls.flatten
  | [] => rfl
  | [a] => by
    show a = [a].flatten
    simp
  | a :: b :: r => by
    show a ++ ([] ++ TL.joinL [] (b :: r)) = _
    rw [joinL_flat (b :: r), List.nil_append]
    rfl
theorem join_flat (zs : List Str) : cs (Txt.join "" zs) = (zs.map cs).flatten := by
  rw [TL.join_eq]
  have h := TL.tl_join "" zs
  exact h.trans (joinL_flat _)
theorem sizes_le {zs : List Str} (h : ∀ z ∈ zs, z.length ≤ 5) : (zs.map (·.length)).sum ≤ 5 * zs.length := by
  induction zs with
  | nil => exact Nat.le_refl _
  | cons a r ih =>
    have h1 := ih fun z hz => h z (List.mem_cons_of_mem _ hz)
    have h2 := h a List.mem_cons_self
    rw [List.map_cons, List.sum_cons, List.length_cons]
    omega
theorem pieces_len {zs : List Str} : ((zs.map cs).flatten).length = (zs.map (·.length)).sum := by
  rw [List.length_flatten, List.map_map]
  congr 1
end G
namespace G
open PySem PySem.Spec PyProof.Rows L2
/-- _law_step, the front written or made -/
def spLawStepK (K : PySem.W.Frag) : Sp := fun vs H Q _ => ∃ (d f : Addr) (kvs : List (Key × V)) (l : List Nat) (ds : List Int) (c L : Nat), vs = [.ref d, .ref f, .str (ch c)] ∧ H d = some (.dK kvs) ∧ Tar kvs ∧ kvs ≠ [] ∧ KeyAt K H (sOf l, ds) f ∧ Wide (tfD kvs) L ∧ Over (tfD kvs) [c] ∧ l.length < L ∧ ds.length = l.length ∧
  ∀ t m H', StepR (tfD kvs) l ds c m → StepAt H' t (stepW L l c) (stepD L l ds c m) m → Same H H' → Q (.ref t) H'
end G
/-! Fronts of a book and of one with needless pieces; bounds of the differences; written books; keys as data. -/
namespace G
open PySem PySem.Spec PyProof.Rows L2
section
variable {F F' : Tf} {L : Nat}
/-- pieces that others make as cheaply change no cheapest price -/
theorem more_same (G : Good F) (G' : Good F') (ov : ∀ l, Over F' l ↔ Over F l) (sub : ∀ z q, F z = some q → F' z = some q) (new : ∀ z q, F' z = some q → lp F (cs z) ≤ q) {l : List Nat} (o : Over F l) : lp F' l = lp F l := by
  have h1 : lp F l ≤ lp F' l := lp_mono G G' (fun z p h => ⟨(ov _).mp (G'.cov z p h), new z p h⟩) o ((ov l).mpr o)
  have h2 : lp F' l ≤ lp F l := lp_mono G' G (fun z p h => ⟨(ov _).mpr (G.cov z p h), lp_piece G' (sub z p h)⟩) ((ov l).mpr o) o
  omega
/-- the prices of signs, added up -/
def feeS (F : Tf) (b : List Nat) : Int := (b.map fun c => (F (ch c)).getD 0).sum
theorem lp_feeS (G : Good F) : ∀ b, Over F b → lp F b ≤ feeS F b
  | [], _ => by
    rw [lp_nil G]
    exact Int.le_refl _
  | c :: r, o => by
    have o1 : Over F [c] := fun d hd => o d (by rw [List.mem_singleton.mp hd]; exact List.mem_cons_self)
    have o2 : Over F r := fun d hd => o d (List.mem_cons_of_mem _ hd)
    obtain ⟨p, hp⟩ := o c List.mem_cons_self
    have h1 := lp_sign G hp
    have h2 : lp F (c :: r) ≤ lp F [c] + lp F r := lp_add G o1 o2
    have h3 := lp_feeS G r o2
    have h4 : feeS F (c :: r) = (F (ch c)).getD 0 + feeS F r := by
      unfold feeS
      rw [List.map_cons, List.sum_cons]
    rw [h4, hp]
    show _ ≤ p + _
    omega
theorem feeS_most {M : Int} (hM : ∀ c p, F (ch c) = some p → p ≤ M) : ∀ b, Over F b → feeS F b ≤ M * (b.length : Int)
  | [], _ => by simp [feeS]
  | c :: r, o => by
    have o2 : Over F r := fun d hd => o d (List.mem_cons_of_mem _ hd)
    obtain ⟨p, hp⟩ := o c List.mem_cons_self
    have h3 := feeS_most hM r o2
    have h5 := hM c p hp
    have h4 : feeS F (c :: r) = p + feeS F r := by
      unfold feeS
      rw [List.map_cons, List.sum_cons, hp]
      rfl
    rw [h4, List.length_cons]
    have e : M * ((r.length + 1 : Nat) : Int) = M * (r.length : Int) + M := by
      rw [Int.natCast_add, Int.mul_add]
      omega
    omega
/-- signs taken away at the end: the rest is at most so much dearer -/
theorem lp_drop (G : Good F) (W : Wide F L) {M : Int} (h0 : 0 ≤ M) (hM : ∀ c p, F (ch c) = some p → p ≤ M) : ∀ (n : Nat) (l a b : List Nat), l.length ≤ n → l = a ++ b → Over F l → lp F a ≤ lp F l + ((L - 1 : Nat) : Int) * M := by
  intro n
  induction n with
  | zero =>
    intro l a b hl e o
    have hn : l = [] := List.length_eq_zero_iff.mp (Nat.le_zero.mp hl)
    rw [hn] at e
    have ha : a = [] := (List.append_eq_nil_iff.mp e.symm).1
    rw [hn, ha]
    have := Int.mul_nonneg (Int.natCast_nonneg (L - 1)) h0
    omega
  | succ n ih =>
    intro l a b hl e o
    have pos := Int.mul_nonneg (Int.natCast_nonneg (L - 1)) h0
    by_cases hn : l = []
    · rw [hn] at e
      have ha : a = [] := (List.append_eq_nil_iff.mp e.symm).1
      rw [hn, ha]
      omega
    obtain ⟨z, p, a', hz, el, ep⟩ := lp_last G o hn
    have z1 := (G.len z p hz).1
    have zL := W.2 z p hz
    have pp := (G.pos z p hz).1
    have o' : Over F a' := by rw [el] at o; exact o.left
    have ln := congrArg List.length el
    rw [List.length_append] at ln
    rcases (Nat.lt_or_ge a'.length a.length).symm with c | c
    · -- the end's piece lies behind
      have ea : a' = a ++ a'.drop a.length := by
        have h := el
        rw [e] at h
        have h2 := congrArg (List.take a.length) h
        rw [List.take_left, List.take_append_of_le_length c] at h2
        conv => lhs; rw [← List.take_append_drop a.length a']
        rw [← h2]
      have := ih a' a (a'.drop a.length) (by omega) ea o'
      omega
    · have ea : a = a' ++ (cs z).take (a.length - a'.length) := by
        have h := el
        rw [e] at h
        have h2 := congrArg (List.take a.length) h
        rw [List.take_left, List.take_append, List.take_of_length_le (Nat.le_of_lt c)] at h2
        exact h2
      have lb : (a ++ b).length = l.length := by rw [e]
      rw [List.length_append] at lb
      by_cases hb : b = []
      · rw [hb, List.append_nil] at e
        rw [e]
        omega
      have b1 : 1 ≤ b.length := by
        rcases b with _ | _
        · exact absurd rfl hb
        · simp
      have oz : Over F ((cs z).take (a.length - a'.length)) := (G.cov z p hz).take _
      have h1 := lp_add G o' oz
      rw [← ea] at h1
      have h2 := lp_feeS G _ oz
      have h3 := feeS_most hM _ oz
      have h4 : (((cs z).take (a.length - a'.length)).length : Int) ≤ ((L - 1 : Nat) : Int) := by
        rw [List.length_take]
        omega
      have h5 : M * (((cs z).take (a.length - a'.length)).length : Int) ≤ ((L - 1 : Nat) : Int) * M := by
        rw [Int.mul_comm]
        exact Int.mul_le_mul_of_nonneg_right h4 h0
      omega
/-- how far a front's differences go -/
theorem front_bnd (G : Good F) (W : Wide F L) {M : Int} (h0 : 0 ≤ M) (hM : ∀ c p, F (ch c) = some p → p ≤ M) {l : List Nat} (o : Over F l) {i : Nat} {d : Int} (h : (frontD F L l)[i]? = some d) : 0 - feeS F ((frontW L l).drop ((frontW L l).length - (i + 1))) ≤ d ∧ d ≤ ((L - 1 : Nat) : Int) * M := by
  have hi : i < min (L - 1) l.length := by
    have := (List.getElem?_eq_some_iff.mp h).1
    rwa [frontD_len] at this
  rw [frontD_at hi] at h
  have e := Option.some.inj h
  have ed : (frontW L l).drop ((frontW L l).length - (i + 1)) = l.drop (l.length - (i + 1)) := by
    rw [frontW_len]
    unfold frontW
    rw [List.drop_drop]
    congr 1
    omega
  have el : l = l.take (l.length - (i + 1)) ++ l.drop (l.length - (i + 1)) := (List.take_append_drop _ _).symm
  have od : Over F (l.drop (l.length - (i + 1))) := fun c hc => o c (List.mem_of_mem_drop hc)
  have h1 := lp_drop G W h0 hM l.length l _ _ (Nat.le_refl _) el o
  have h2 := lp_add G (o.take (l.length - (i + 1))) od
  rw [← el] at h2
  have h3 := lp_feeS G _ od
  rw [ed]
  omega
theorem front_bnd99 (G : Good F) (W : Wide F L) (hL : L ≤ 5) {l : List Nat} (o : Over F l) : ∀ d ∈ frontD F L l, d.natAbs ≤ 400 := fun d hd => by
  obtain ⟨i, hi⟩ := List.getElem?_of_mem hd
  have hM : ∀ c p, F (ch c) = some p → p ≤ 99 := fun c p h => (G.pos _ p h).2
  obtain ⟨h1, h2⟩ := front_bnd G W (M := 99) (by decide) hM o hi
  have od : Over F ((frontW L l).drop ((frontW L l).length - (i + 1))) := fun c hc => o c (frontW_mem (List.mem_of_mem_drop hc))
  have h3 := feeS_most hM _ od
  have h4 : ((frontW L l).drop ((frontW L l).length - (i + 1))).length ≤ 4 := by
    rw [List.length_drop, frontW_len]
    omega
  omega
end
/-! ### keys as data -/
theorem dpA_keys {K : PySem.W.Frag} {H : Hp} : ∀ {qs : List (Addr × FK)}, (∀ q ∈ qs, KeyAt K H q.2 q.1) → DpAll K H (qs.map fun q => V.ref q.1) ((qs.map (·.2)).map dKey)
  | [], _ => .nil
  | _ :: _, h => .cons (dp_key (h _ List.mem_cons_self)) (dpA_keys fun q hq => h q (List.mem_cons_of_mem _ hq))
theorem lay_ints : ∀ ds : List Int, PyData.canLayAll0 (ds.map PyData.int) = true
  | [] => rfl
  | d :: r => by
    have := lay_ints r
    simp [PyData.canLayAll0, PyData.canLay0, this]
theorem lay_str {z : Str} (h : ∀ c ∈ cs z, lett c = true) : (PyData.str z).canLay0 = true := SeqAt.canLay_of_shaped (shaped_str h)
theorem lay_key {k : FK} (h : ∀ c ∈ cs k.1, lett c = true) : (dKey k).canLay0 = true := by
  have h1 := lay_str h
  have h2 := lay_ints k.2
  simp [dKey, PyData.canLay0, PyData.canLayAll0] at h1 ⊢
  exact ⟨h1, h2⟩
theorem shaped_key {k : FK} (h : ∀ c ∈ cs k.1, lett c = true) : SeqAt.shaped (dKey k) = true := by
  unfold SeqAt.shaped
  rw [lay_key h, Bool.true_and]
  exact decide_eq_true (Nat.le_trans (depth_key k) (by decide))
theorem lay_keys : ∀ {ks : List FK}, (∀ k ∈ ks, ∀ c ∈ cs k.1, lett c = true) → PyData.canLayAll0 (ks.map dKey) = true ∧ PyData.depthAll (ks.map dKey) ≤ 4
  | [], _ => ⟨rfl, Nat.zero_le _⟩
  | k :: r, h => by
    obtain ⟨h1, h2⟩ := lay_keys (ks := r) fun x hx => h x (List.mem_cons_of_mem _ hx)
    have h3 := lay_key (h k List.mem_cons_self)
    have h4 := depth_key k
    constructor
    · simp [PyData.canLayAll0, h1, h3]
    · simp only [List.map_cons, PyData.depthAll]
      omega
theorem shaped_keys {ks : List FK} (h : ∀ k ∈ ks, ∀ c ∈ cs k.1, lett c = true) : SeqAt.shaped (.list (ks.map dKey)) = true := by
  obtain ⟨h1, h2⟩ := lay_keys h
  unfold SeqAt.shaped
  rw [Bool.and_eq_true]
  exact ⟨by simpa [PyData.canLay0] using h1, decide_eq_true (by simp only [PyData.depth]; omega)⟩
theorem eqv_ints : ∀ as bs : List Int, PyData.eqvAll (as.map PyData.int) (bs.map PyData.int) = decide (as = bs)
  | [], [] => rfl
  | [], _ :: _ => rfl
  | _ :: _, [] => rfl
  | a :: r, b :: q => by
    have h := eqv_ints r q
    simp only [List.map_cons, PyData.eqvAll, PyData.eqv, h]
    by_cases h1 : a = b <;> by_cases h2 : r = q <;> simp [h1, h2]
theorem eqv_key (a b : FK) : PyData.eqv (dKey a) (dKey b) = decide (a = b) := by
  have h := eqv_ints a.2 b.2
  simp only [dKey, PyData.eqv, PyData.eqvAll, h]
  obtain ⟨a1, a2⟩ := a
  obtain ⟨b1, b2⟩ := b
  by_cases h1 : a1 = b1 <;> by_cases h2 : a2 = b2 <;> simp [h1, h2]
theorem any_key {k : FK} : ∀ {ks : List FK}, ((ks.map dKey).any fun z => PyData.eqv z (dKey k)) = decide (k ∈ ks)
  | [] => by simp
  | x :: r => by
    rw [List.map_cons, List.any_cons, any_key, eqv_key]
    by_cases h : x = k
    · subst h
      simp
    · have h' : k ≠ x := fun e => h e.symm
      simp [h, h']
theorem shw_keys {ks : List FK} (hl : ks.length ≤ 800) (h : ∀ k ∈ ks, (cs k.1).length ≤ 5 ∧ (∀ c ∈ cs k.1, lett c = true) ∧ k.2.length ≤ 5 ∧ ∀ d ∈ k.2, d.natAbs < 2 ^ 300) : Shw (.list (ks.map dKey)) 3 (800 * 19402 + 2) := by
  refine (shw_list (k := 2) (n := 2 * 9700) fun d hd => ?_).le (by omega) (by
    rw [List.length_map]
    have := Nat.mul_le_mul_right (2 * 9700 + 2) hl
    omega)
  obtain ⟨k, hk, rfl⟩ := List.mem_map.mp hd
  obtain ⟨h1, h2, h3, h4⟩ := h k hk
  have e : dKey k = dFront (cs k.1) k.2 := by
    unfold dKey dFront
    rw [sOf_cs]
  rw [e]
  exact shw_front h1 h2 h3 h4
theorem repr_keys {K : PySem.W.Frag} {H : Hp} {x : V} {ks : List FK} {Q : VK} (hx : Dp K H x (.list (ks.map dKey))) (hl : ks.length ≤ 800) (h : ∀ k ∈ ks, (cs k.1).length ≤ 5 ∧ (∀ c ∈ cs k.1, lett c = true) ∧ k.2.length ≤ 5 ∧ ∀ d ∈ k.2, d.natAbs < 2 ^ 300) (q : Q (.str (PyData.list (ks.map dKey)).shown) H) : rRepr K [x] H Q := by
  have s := shw_keys hl h
  exact ⟨x, _, rfl, hx, s.s, s.h, Nat.le_trans s.dp (by decide), Nat.le_trans s.len (by rw [sizeLine_eq]; decide), q⟩
section
variable {X : L2.Cx}
theorem g_inD (K : PySem.W.Frag) (hu : X.A.units + 65 < cLine) (e : X.K = K := by rfl) : OpR X (compareOp .In) (rInD K) := by
  subst e
  exact op_inD hu
end
/-! ### written books -/
def stepC (ps : List (List Nat × Int)) (L : Nat) (k : List Nat × List Int) (c : Nat) : Option (List Nat × List Int) := match minI (candF ps k.1 k.2 c) with
  | none => none
  | some m => some (stepW L k.1 c, stepD L k.1 k.2 c m)
def closedC (ps : List (List Nat × Int)) (L : Nat) (sg : List Nat) (ks : List (List Nat × List Int)) : Bool :=
  ks.contains ([], []) && ks.all fun k => sg.all fun c => match stepC ps L k c with
    | none => false
    | some k' => ks.contains k'
def keyC (k : List Nat × List Int) : FK := (sOf k.1, k.2)
theorem closed_mem {kvs : List (Key × V)} (nd : (kvs.map (·.1)).Nodup) (G : Good (tfD kvs)) {L : Nat} (W : Wide (tfD kvs) L) (hL : 1 ≤ L) {sg : List Nat} (hsg : ∀ c, Over (tfD kvs) [c] → c ∈ sg) {ks : List (List Nat × List Int)} (h : closedC (psK kvs) L sg ks = true) (l : List Nat) (o : Over (tfD kvs) l) : fr (tfD kvs) L l ∈ ks.map keyC := by
  unfold closedC at h
  rw [Bool.and_eq_true] at h
  obtain ⟨h0, h1⟩ := h
  refine rch_closed G W hL (ks := ks.map keyC) (List.mem_map.mpr ⟨([], []), by simpa using h0, rfl⟩) (fun l c o hk => ?_) l.length l (Nat.le_refl _) o
  obtain ⟨k, hk, e⟩ := List.mem_map.mp hk
  have h2 := List.all_eq_true.mp (List.all_eq_true.mp h1 k hk) c (hsg c (over_init o).2)
  have e' : k = (frontW L l, frontD (tfD kvs) L l) := by
    have a1 := congrArg (fun k : FK => cs k.1) e
    have a2 := congrArg (fun k : FK => k.2) e
    unfold keyC fr at a1 a2
    dsimp only at a1 a2
    rw [cs_sOf, cs_sOf] at a1
    exact Prod.ext a1 a2
  unfold stepC at h2
  rw [e'] at h2
  dsimp only at h2
  split at h2
  · cases h2
  · rename_i k' hs
    split at hs
    · cases hs
    · rename_i m hm
      obtain ⟨e2, _⟩ := fr_next G W hL o (step_of nd hm)
      have e3 := Option.some.inj hs
      refine List.mem_map.mpr ⟨k', by simpa using h2, ?_⟩
      rw [e2, ← e3]
      rfl
theorem closed_rch {kvs : List (Key × V)} (nd : (kvs.map (·.1)).Nodup) (G : Good (tfD kvs)) {L : Nat} (W : Wide (tfD kvs) L) (hL : 1 ≤ L) {ws : List (List Nat)} (ow : ∀ w ∈ ws, Over (tfD kvs) w) {ks : List (List Nat × List Int)} (h : ws.map (fun w => runF (psK kvs) L w [] []) = ks.map some) : ∀ k ∈ ks.map keyC, Rch (tfD kvs) L k := by
  intro k hk
  obtain ⟨x, hx, rfl⟩ := List.mem_map.mp hk
  have h1 : some x ∈ ks.map some := List.mem_map.mpr ⟨x, hx, rfl⟩
  rw [← h] at h1
  obtain ⟨w, hw, e⟩ := List.mem_map.mp h1
  obtain ⟨e1, e2⟩ := run_all nd G W hL (ow w hw) (w' := x.1) (d' := x.2) e
  refine ⟨w, ow w hw, ?_⟩
  unfold fr keyC
  rw [e1, e2]
def oneK : List (Key × V) := [(.inr (sOf [97]), .int 1), (.inr (sOf [98]), .int 1)]
def pairK : List (Key × V) := [(.inr (sOf [97]), .int 1), (.inr (sOf [98]), .int 1), (.inr (sOf [97, 98]), .int 2)]
def coinK : List (Key × V) := [(.inr (sOf [97]), .int 5), (.inr (sOf [97, 97, 97, 97]), .int 9)]
theorem one_av : arePrices oneK = true := by decide +kernel
theorem one_nd : (oneK.map (·.1)).Nodup := by decide +kernel
theorem one_wd : Wide (tfD oneK) 1 := wide_ps one_nd (by decide +kernel) (by decide +kernel)
theorem one_good : Good (tfD oneK) := (tar_of one_av one_nd).good
theorem pair_av : arePrices pairK = true := by decide +kernel
theorem pair_nd : (pairK.map (·.1)).Nodup := by decide +kernel
theorem pair_wd : Wide (tfD pairK) 2 := wide_ps pair_nd (by decide +kernel) (by decide +kernel)
theorem pair_good : Good (tfD pairK) := (tar_of pair_av pair_nd).good
theorem coin_av : arePrices coinK = true := by decide +kernel
theorem coin_nd : (coinK.map (·.1)).Nodup := by decide +kernel
theorem coin_wd : Wide (tfD coinK) 4 := wide_ps coin_nd (by decide +kernel) (by decide +kernel)
theorem coin_good : Good (tfD coinK) := (tar_of coin_av coin_nd).good
/-- the signs of a written book -/
theorem signs_ps {kvs : List (Key × V)} (nd : (kvs.map (·.1)).Nodup) {sg : List Nat} (h : ((psK kvs).all fun q => match q.1 with | [c] => sg.contains c | _ => true) = true) (c : Nat) (o : Over (tfD kvs) [c]) : c ∈ sg := by
  obtain ⟨p, hp⟩ := o c List.mem_cons_self
  have h1 := List.all_eq_true.mp h _ ((ps_tf nd).mp hp)
  have e : cs (ch c) = [c] := by simp [cs]
  rw [e] at h1
  simpa using h1
def pairFr : List (List Nat × List Int) := [([], []), ([97], [-1]), ([98], [-1])]
theorem pair_closed : closedC (psK pairK) 2 [97, 98] pairFr = true := by decide +kernel
theorem pair_runs : [[], [97], [98]].map (fun w => runF (psK pairK) 2 w [] []) = pairFr.map some := by decide +kernel
theorem pair_rch (k : FK) : Rch (tfD pairK) 2 k ↔ k ∈ pairFr.map keyC := ⟨fun ⟨l, o, e⟩ => e ▸ closed_mem pair_nd pair_good pair_wd (by decide) (signs_ps pair_nd (by decide +kernel)) pair_closed l o,
  closed_rch pair_nd pair_good pair_wd (by decide) (fun w hw => over_ps pair_nd (by
    simp only [List.mem_cons, List.not_mem_nil, or_false] at hw
    rcases hw with rfl | rfl | rfl <;> decide +kernel)) pair_runs k⟩
theorem rch_one {F : Tf} (k : FK) : Rch F 1 k ↔ k = (sOf [], []) := by
  have e : ∀ l, fr F 1 l = (sOf [], []) := fun l => by
    unfold fr frontW frontD
    rw [show min (1 - 1) l.length = 0 by omega, Nat.sub_zero, List.drop_length]
    rfl
  exact ⟨fun ⟨l, _, h⟩ => h.symm.trans (e l), fun h => ⟨[], fun _ h => (List.not_mem_nil h).elim, (e []).trans h.symm⟩⟩
theorem whole_len {F : Tf} {L : Nat} {E : List BE} (w : Whole F L E) {ks : List FK} (nd : ks.Nodup) (h : ∀ k, Rch F L k ↔ k ∈ ks) : E.length = ks.length := by
  have := ((List.perm_ext_iff_of_nodup w.nd nd).mpr fun k => by rw [w.mem, h]).length_eq
  unfold keysE at this
  rwa [List.length_map] at this
def coinFr : List (List Nat × List Int) := [([], []), ([97], [-5]), ([97, 97], [-5, -10]), ([97, 97, 97], [-5, -10, -15]), ([97, 97, 97], [6, 1, -4]), ([97, 97, 97], [-5, 1, -4]), ([97, 97, 97], [-5, -10, -4])]
theorem coin_closed : closedC (psK coinK) 4 [97] coinFr = true := by decide +kernel
theorem coin_runs : ([0, 1, 2, 3, 4, 5, 6].map fun n => List.replicate n 97).map (fun w => runF (psK coinK) 4 w [] []) = coinFr.map some := by decide +kernel
theorem coin_rch (k : FK) : Rch (tfD coinK) 4 k ↔ k ∈ coinFr.map keyC := ⟨fun ⟨l, o, e⟩ => e ▸ closed_mem coin_nd coin_good coin_wd (by decide) (signs_ps coin_nd (by decide +kernel)) coin_closed l o,
  closed_rch coin_nd coin_good coin_wd (by decide) (fun w hw => over_ps coin_nd (by
    simp only [List.map_cons, List.map_nil, List.mem_cons, List.not_mem_nil, or_false] at hw
    rcases hw with rfl | rfl | rfl | rfl | rfl | rfl | rfl <;> decide +kernel)) coin_runs k⟩
theorem few_of {F : Tf} {L b : Nat} {ks : List FK} (h : ∀ k, Rch F L k ↔ k ∈ ks) (hl : ks.length ≤ b) : Few F L b := ⟨ks, hl, fun k hk => (h k).mp hk⟩
end G
namespace G
open PySem PySem.Spec PyProof.Rows L2
/-- a book's prices with further pieces that others make as cheaply -/
structure MoreOk (sg : List Nat) (kvs kv : List (Key × V)) (L : Nat) : Prop where
  ok : PrOk sg kv
  len : kv.length ≤ 12
  sub : ∀ z q, tfD kvs z = some q → tfD kv z = some q
  new : ∀ z q, tfD kv z = some q → tfD kvs z = some q ∨ (tfD kvs z = none ∧ (cs z).length ≤ L ∧ (lp (tfD kvs) (cs z) ≤ 99 → lp (tfD kvs) (cs z) ≤ q))
section
variable {sg : List Nat} {kvs kv : List (Key × V)} {L : Nat}
theorem more_init (T : Tar kvs) (nd : (kvs.map (·.1)).Nodup) (h12 : kvs.length ≤ 12) (h : ∀ c, (∃ q, tfD kvs (ch c) = some q) ↔ c ∈ sg) : MoreOk sg kvs kvs L where
  ok := ⟨fun e he => by
    obtain ⟨z, p, rfl, hp⟩ := T.mem e he
    exact ⟨z, p, rfl, T.good.len z p hp, fun c hc => (h c).mp (T.good.cov z p hp c hc), T.good.pos z p hp⟩, nd⟩
  len := h12
  sub := fun z q h => h
  new := fun z q h => .inl h
theorem val_tf {z : Str} (h : (valV kv (Sum.inr z : Key)).isSome = false) : tfD kv z = none := by
  unfold tfD
  cases e : valV kv (Sum.inr z : Key) with
  | none => rfl
  | some v =>
    rw [e] at h
    cases h
theorem MoreOk.put (M : MoreOk sg kvs kv L) (G : Good (tfD kvs)) {z : Str} {r : Int} (hz : tfD kv z = none) (hl : kv.length < 12) (h1 : 1 ≤ (cs z).length) (hL : (cs z).length ≤ L) (L5 : L ≤ 5) (hs : ∀ c ∈ cs z, c ∈ sg) (ov : Over (tfD kvs) (cs z)) (hr : 0 ≤ r) :
    MoreOk sg kvs (putK kv (Sum.inr z) (.int (if lp (tfD kvs) (cs z) + r < 99 then lp (tfD kvs) (cs z) + r else 99))) L := by
  have lp1 := lp_pos G ov (fun e => by rw [e] at h1; simp at h1)
  have none' : tfD kvs z = none := by
    cases e : tfD kvs z with
    | none => rfl
    | some q =>
      have := M.sub z q e
      rw [hz] at this
      cases this
  refine ⟨M.ok.put ⟨h1, by omega⟩ hs (by split <;> omega), ?_, fun y q h => ?_, fun y q h => ?_⟩
  · have := put_len (kvs := kv) (k := Sum.inr z) (v := V.int (if lp (tfD kvs) (cs z) + r < 99 then lp (tfD kvs) (cs z) + r else 99))
    omega
  · rw [tf_put]
    by_cases e : y = z
    · rw [e, none'] at h
      cases h
    · rw [if_neg e]
      exact M.sub y q h
  · rw [tf_put] at h
    by_cases e : y = z
    · rw [if_pos e] at h
      subst e
      have e2 := Option.some.inj h
      exact .inr ⟨none', hL, fun h99 => by rw [← e2]; split <;> omega⟩
    · rw [if_neg e] at h
      exact M.new y q h
theorem MoreOk.book (M : MoreOk sg kvs kv L) (h : ∀ c, (∃ q, tfD kvs (ch c) = some q) ↔ c ∈ sg) (hl : ∀ c ∈ sg, lett c = true) (n4 : sg.length ≤ 4) (n0 : 1 ≤ sg.length) : arePrices kv = true ∧ ∀ c, (∃ p, tfD kv (ch c) = some p) ↔ c ∈ sg :=
  M.ok.right (fun c hc => by
    obtain ⟨q, hq⟩ := (h c).mpr hc
    rw [tf_some.mp (M.sub _ _ hq)]
    rfl) hl n4 n0 M.len
end
end G
namespace G
open PySem PySem.Spec PyProof.Rows L2
noncomputable def dearW (kvs : List (Key × V)) (e : Key × V) : Option V := match e.1 with
  | .inr z => if (valV kvs (Sum.inr z : Key)).isSome = false ∧ 99 < lp (tfD kvs) (cs z) then some (V.str z) else none
  | .inl _ => none
section
variable {sg : List Nat} {kvs kv : List (Key × V)} {L : Nat}
theorem MoreOk.cheap (M : MoreOk sg kvs kv L) (T : Tar kvs) (h : kv.filterMap (dearW kvs) = []) (z : Str) (q : Int) (hz : tfD kv z = some q) : lp (tfD kvs) (cs z) ≤ q := by
  rcases M.new z q hz with h1 | ⟨h1, _, h2⟩
  · exact lp_piece T.good h1
  · refine h2 ?_
    have h3 := List.filterMap_eq_nil_iff.mp h _ (valV_mem (tf_some.mp hz))
    unfold dearW at h3
    dsimp only at h3
    have h4 : (valV kvs (Sum.inr z : Key)).isSome = false := by
      cases e : valV kvs (Sum.inr z : Key) with
      | none => rfl
      | some v =>
        obtain ⟨y, p, ey, hp⟩ := T.mem _ (valV_mem e)
        injection ey with e1 _
        have e2 : z = y := Sum.inr.inj e1
        rw [← e2, h1] at hp
        cases hp
    by_cases c : 99 < lp (tfD kvs) (cs z)
    · rw [if_pos ⟨h4, c⟩] at h3
      cases h3
    · omega
theorem over_iff {k1 k2 : List (Key × V)} (h1 : ∀ c, (∃ q, tfD k1 (ch c) = some q) ↔ c ∈ sg) (h2 : ∀ c, (∃ q, tfD k2 (ch c) = some q) ↔ c ∈ sg) (l : List Nat) : Over (tfD k1) l ↔ Over (tfD k2) l :=
  ⟨fun o c hc => (h2 c).mpr ((h1 c).mp (o c hc)), fun o c hc => (h1 c).mpr ((h2 c).mp (o c hc))⟩
theorem MoreOk.wide (M : MoreOk sg kvs kv L) (W : Wide (tfD kvs) L) : Wide (tfD kv) L := by
  obtain ⟨⟨z, p, h1, h2⟩, h3⟩ := W
  refine ⟨⟨z, p, M.sub _ _ h1, h2⟩, fun y q hy => ?_⟩
  rcases M.new y q hy with h | ⟨_, h, _⟩
  · exact h3 y q h
  · exact h
theorem few_congr {F F' : Tf} {b : Nat} (h : ∀ k, Rch F' L k ↔ Rch F L k) (fw : Few F L b) : Few F' L b := let ⟨ks, h1, h2⟩ := fw; ⟨ks, h1, fun k hk => h2 k ((h k).mp hk)⟩
/-- the least book's fronts -/
structure LeanOk (kv kl : List (Key × V)) (L M : Nat) : Prop where
  ov : ∀ l, Over (tfD kl) l ↔ Over (tfD kv) l
  lp : ∀ l, Over (tfD kv) l → G.lp (tfD kl) l = G.lp (tfD kv) l
  wd : Wide (tfD kl) M
  le : M ≤ L
theorem lean_ok (T : Tar kv) (W : Wide (tfD kv) L) {C b : Addr} {H : Hp} {kl : List (Key × V)} (B : Book1 C H b kl) (h : ∀ z q, tfD kl z = some q ↔ tfD kv z = some q ∧ ¬ Needless (tfD kv) z) : ∃ M, LeanOk kv kl L M := by
  obtain ⟨av, nd, ys, Lo, Mo, dx, d, tp, ta, od, pm, so, A⟩ := B
  obtain ⟨Ln, rfl⟩ : ∃ Ln : Nat, Lo = (Ln : Int) := by
    obtain ⟨q, _, e⟩ := List.mem_map.mp A.lo.1
    exact ⟨q.1.length, e.symm⟩
  obtain ⟨wide, l1, l5⟩ := wide_of av pm A.lo
  have e := least_ext h
  refine ⟨Ln, fun l => ⟨fun o c hc => ?_, fun o c hc => ?_⟩, fun l o => ?_, wide, ?_⟩
  · obtain ⟨q, hq⟩ := o c hc
    exact ⟨q, ((h _ _).mp hq).1⟩
  · obtain ⟨q, hq⟩ := o c hc
    exact ⟨q, (h _ _).mpr ⟨hq, need_sign⟩⟩
  · rw [e]
    exact least_same T.good o
  · obtain ⟨⟨z, p, h1, h2⟩, _⟩ := wide
    have := W.2 z p ((h _ _).mp h1).1
    omega
end
end G
namespace G
open PySem PySem.Spec PyProof.Rows L2
theorem whole_le {F : Tf} {L b : Nat} {E : List BE} (w : Whole F L E) (fw : Few F L b) : E.length ≤ b := by
  obtain ⟨ks, h1, h2⟩ := fw
  have := nd_sub_len (l1 := keysE E) (l2 := ks) w.nd fun k hk => h2 k (w.mem.mp hk)
  unfold keysE at this
  rw [List.length_map] at this
  omega
/-- what a book's front is like -/
theorem rch_small {kvs : List (Key × V)} {L : Nat} (av : arePrices kvs = true) (nd : (kvs.map (·.1)).Nodup) (W : Wide (tfD kvs) L) (L5 : L ≤ 5) {k : FK} (h : Rch (tfD kvs) L k) : (cs k.1).length ≤ 5 ∧ (∀ c ∈ cs k.1, lett c = true) ∧ k.2.length ≤ 5 ∧ ∀ d ∈ k.2, d.natAbs < 2 ^ 300 := by
  obtain ⟨l, o, rfl⟩ := h
  have good := (tar_of av nd).good
  unfold fr
  dsimp only
  rw [cs_sOf]
  refine ⟨by rw [frontW_len]; omega, fun c hc => lett_over av nd fun d hd => by rw [List.mem_singleton.mp hd]; exact o c (frontW_mem hc), by rw [frontD_len]; omega, fun d hd => Nat.lt_of_le_of_lt (front_bnd99 good W L5 o d hd) (by decide +kernel)⟩
/-- the ascending fronts, as keys -/
theorem frs_keys {K : PySem.W.Frag} {P : Program} {w : World} {Cf : Addr} {H : Hp} {p b : Addr} {F : Tf} {L : Nat} {E : List BE} {qs : List (Addr × FK)} {dx d t : Addr} (x : FrsAt K P w Cf H p b F L E qs dx d t) : (∀ k, k ∈ qs.map (·.2) ↔ Rch F L k) ∧ (qs.map (·.2)).length = E.length := by
  rw [x.so]
  refine ⟨fun k => srtK_mem.mem_iff.trans x.wh.mem, ?_⟩
  rw [srtK_mem.length_eq]
  unfold keysE
  rw [List.length_map]
theorem frs_same {K : PySem.W.Frag} {P : Program} {w : World} {Cf Cf' : Addr} {H H' : Hp} {p b p' b' : Addr} {F F' : Tf} {L L' : Nat} {E E' : List BE} {qs qs' : List (Addr × FK)} {dx d t dx' d' t' : Addr} (x : FrsAt K P w Cf H p b F L E qs dx d t) (y : FrsAt K P w Cf' H' p' b' F' L' E' qs' dx' d' t') (h : ∀ k, Rch F L k ↔ Rch F' L' k) : qs'.map (·.2) = qs.map (·.2) := by
  rw [x.so, y.so]
  exact (srtK_perm (whole_perm x.wh y.wh h)).symm
end G
namespace G
open PySem PySem.Spec PyProof.Rows L2
theorem Book1.ins {C b : Addr} {H : Hp} {kvs : List (Key × V)} (B : Book1 C H b kvs) : ∃ dx fs, H b = some (.ins C dx fs) := by
  obtain ⟨ys, L, M, dx, d, tp, ta, od, h1, h2, A⟩ := B.ex
  exact ⟨dx, _, A.ob⟩
theorem max_signs {kvs : List (Key × V)} {sg : List Nat} (sgns : ∀ c, (∃ q, tfD kvs (ch c) = some q) ↔ c ∈ sg) {m : Int} (hle : ∀ y ∈ sg.map (fun c => (tfD kvs (ch c)).getD 0), y ≤ m) (c : Nat) (p : Int) (h : tfD kvs (ch c) = some p) : p ≤ m := by
  have := hle _ (List.mem_map.mpr ⟨c, (sgns c).mp ⟨p, h⟩, rfl⟩)
  rw [h] at this
  exact this
end G
namespace G
open PySem PySem.Spec PyProof.Rows L2
theorem Book1.insF {C b : Addr} {H : Hp} {kvs : List (Key × V)} (B : Book1 C H b kvs) : ∃ dx d tp ta L M, H b = some (.ins C dx (bookF d tp ta L M)) := by
  obtain ⟨ys, L, M, dx, d, tp, ta, od, h1, h2, A⟩ := B.ex
  exact ⟨dx, d, tp, ta, L, M, A.ob⟩
theorem frs_srt {K : PySem.W.Frag} {P : Program} {w : World} {Cf : Addr} {H : Hp} {p b : Addr} {F : Tf} {L : Nat} {E : List BE} {qs : List (Addr × FK)} {dx d t : Addr} (x : FrsAt K P w Cf H p b F L E qs dx d t) {ks : List FK} (nd : ks.Nodup) (h : ∀ k, Rch F L k ↔ k ∈ ks) : qs.map (·.2) = srtK ks := by
  rw [x.so]
  exact srtK_perm ((List.perm_ext_iff_of_nodup x.wh.nd nd).mpr fun k => by rw [x.wh.mem, h])
theorem coin_nodup : (coinFr.map keyC).Nodup := by decide +kernel
theorem coin_lett : ∀ k ∈ srtK (coinFr.map keyC), ∀ c ∈ cs k.1, lett c = true := fun k hk => by
  have h : ((coinFr.map keyC).all fun k => (cs k.1).all lett) = true := by decide +kernel
  exact List.all_eq_true.mp (List.all_eq_true.mp h k (srtK_mem.mem_iff.mp hk))
theorem coin_in : (sOf [97, 97, 97], [-5, 1, -4]) ∈ srtK (coinFr.map keyC) ∧ (sOf [97, 97, 97], [6, 1, -4]) ∈ srtK (coinFr.map keyC) := ⟨srtK_mem.mem_iff.mpr (by decide +kernel), srtK_mem.mem_iff.mpr (by decide +kernel)⟩
theorem coin_more {kv : List (Key × V)} (av : arePrices kv = true) (nd : (kv.map (·.1)).Nodup) (h : ∀ y, tfD kv y = if y = sOf [97, 97] then some 10 else tfD coinK y) : Wide (tfD kv) 4 ∧ ∀ k, Rch (tfD kv) 4 k ↔ Rch (tfD coinK) 4 k := by
  have good := (tar_of av nd).good
  have none' : tfD coinK (sOf [97, 97]) = none := by decide +kernel
  have sub : ∀ z q, tfD coinK z = some q → tfD kv z = some q := fun z q hz => by
    rw [h, if_neg fun e => ?_]
    · exact hz
    · rw [e, none'] at hz
      cases hz
  have ne : ∀ c, ch c ≠ sOf [97, 97] := fun c e => by
    have := congrArg (fun z => (cs z).length) e
    simp [cs_sOf, cs] at this
  have ov : ∀ l, Over (tfD kv) l ↔ Over (tfD coinK) l := fun l => ⟨fun o c hc => by
    obtain ⟨q, hq⟩ := o c hc
    rw [h, if_neg (ne c)] at hq
    exact ⟨q, hq⟩, fun o c hc => by
    obtain ⟨q, hq⟩ := o c hc
    exact ⟨q, sub _ _ hq⟩⟩
  have new : ∀ z q, tfD kv z = some q → lp (tfD coinK) (cs z) ≤ q := fun z q hz => by
    rw [h] at hz
    split at hz
    · rename_i e
      have e2 := Option.some.inj hz
      rw [e, cs_sOf, ← e2]
      have o : Over (tfD coinK) [97, 97] := over_ps coin_nd (by decide +kernel)
      have h1 := lp_feeS coin_good _ o
      have h2 : feeS (tfD coinK) [97, 97] = 10 := by decide +kernel
      omega
    · exact lp_piece coin_good hz
  refine ⟨?_, rch_congr ov fun l o => more_same coin_good good ov sub new o⟩
  obtain ⟨⟨z, p, h1, h2⟩, h3⟩ := coin_wd
  refine ⟨⟨z, p, sub _ _ h1, h2⟩, fun y q hy => ?_⟩
  rw [h] at hy
  split at hy
  · rename_i e
    rw [e, cs_sOf]
    decide
  · exact h3 y q hy
theorem pair_lean {kl : List (Key × V)} {M : Nat} (h : ∀ z q, tfD kl z = some q ↔ tfD pairK z = some q ∧ ¬ Needless (tfD pairK) z) (wd : Wide (tfD kl) M) : M = 1 := by
  have need : Needless (tfD pairK) (sOf [97, 98]) := by
    have hz : 1 < (cs (sOf [97, 98])).length := by rw [cs_sOf]; decide
    refine ⟨2, by decide +kernel, hz, ?_⟩
    rw [cs_sOf]
    have o : Over (remF (tfD pairK) (sOf [97, 98])) [97, 98] := rem_over hz (over_ps pair_nd (by decide +kernel))
    have h1 := lp_feeS (rem_good pair_good hz) _ o
    have h2 : feeS (remF (tfD pairK) (sOf [97, 98])) [97, 98] = 2 := by decide +kernel
    omega
  obtain ⟨⟨z, p, h1, h2⟩, h3⟩ := wd
  obtain ⟨h4, h5⟩ := (h z p).mp h1
  have h6 := (ps_tf pair_nd).mp h4
  have h7 : cs z = [97] ∨ cs z = [98] ∨ cs z = [97, 98] := by
    have e : psK pairK = [([97], 1), ([98], 1), ([97, 98], 2)] := by decide +kernel
    rw [e] at h6
    simp only [List.mem_cons, List.not_mem_nil, or_false, Prod.mk.injEq] at h6
    rcases h6 with h | h | h
    · exact .inl h.1
    · exact .inr (.inl h.1)
    · exact .inr (.inr h.1)
  rcases h7 with e | e | e
  · rw [e] at h2
    exact h2.symm
  · rw [e] at h2
    exact h2.symm
  · exact absurd need (by
      have : z = sOf [97, 98] := str_ext (by rw [e, cs_sOf])
      rw [← this]
      exact h5)
theorem litN : Str.ofString "a" = sOf [97] ∧ Str.ofString "b" = sOf [98] ∧ Str.ofString "ab" = sOf [97, 98] ∧ Str.ofString "aaaa" = sOf [97, 97, 97, 97] ∧ Str.ofString "aa" = sOf [97, 97] ∧ Str.ofString "aaa" = sOf [97, 97, 97] := by decide +kernel
end G
namespace G
open PySem PySem.Spec PyProof.Rows L2
/-- a list of fronts, ascending -/
def RowAt (K : PySem.W.Frag) (H : Hp) (r : Addr) (ks : List FK) : Prop := ∃ qs : List (Addr × FK), H r = some (.lst (qs.map fun q => V.ref q.1)) ∧ (∀ q ∈ qs, KeyAt K H q.2 q.1) ∧ qs.map (·.2) = ks
theorem RowAt.same {K : PySem.W.Frag} {H H' : Hp} {r : Addr} {ks : List FK} (x : RowAt K H r ks) (s : Same H H') : RowAt K H' r ks := by
  obtain ⟨qs, h1, h2, h3⟩ := x
  exact ⟨qs, s _ _ h1, fun q hq => (h2 q hq).same s, h3⟩
theorem RowAt.updL {K : PySem.W.Frag} {H : Hp} {r D : Addr} {ks : List FK} {ys : List V} {o : HO} (x : RowAt K H r ks) (hD : H D = some (.lst ys)) (n : r ≠ D) : RowAt K (L2.upd H D o) r ks := by
  obtain ⟨qs, h1, h2, h3⟩ := x
  exact ⟨qs, by rw [upd_ne n]; exact h1, fun q hq => (h2 q hq).upd hD no_lst, h3⟩
theorem RowAt.dp {K : PySem.W.Frag} {H : Hp} {r : Addr} {ks : List FK} (x : RowAt K H r ks) : Dp K H (.ref r) (.list (ks.map dKey)) := by
  obtain ⟨qs, h1, h2, rfl⟩ := x
  exact .lst (SqL.of h1) (dpA_keys h2)
theorem inD_key {K : PySem.W.Frag} {H : Hp} {x y : V} {k : FK} {ks : List FK} {Q : VK} (hx : Dp K H x (dKey k)) (hy : Dp K H y (.list (ks.map dKey))) (hk : k ∈ ks) (hl : ∀ k ∈ ks, ∀ c ∈ cs k.1, lett c = true) (q : Q (.bl true) H) : rInD K x y H Q := by
  refine ⟨_, _, hx, hy, shaped_key (hl k hk), shaped_keys hl, ?_⟩
  rw [any_key, decide_eq_true hk]
  exact q
end G
/-! min(tuple of ints). -/
namespace G
open PySem PySem.Spec PyProof.Rows L2
section
variable {prog : Program} {w : World} {A : Around} {E : Value → Shared → Prop} {s : Shared} {l : Addr} {xs : Array (Int × Tok)}
theorem iter_intTup {Q : Value → Shared → Prop} (hl : s.heap.IsTuple l (intItems xs))
    (h : ∀ s₂ : Shared, s₂ = { s with heap := s.heap.push { cls := .type "tuple_iterator", data := .fields #[.ref l, .int 0 0] } } →
      (s₂.heap.IsTupleIter s.heap.objs.size l 0 ∧ s₂.heap.IsTuple l (intItems xs)) → (∀ b ∈ [s.heap.objs.size, l], b < s₂.heap.objs.size) → l ≠ s.heap.objs.size → Q (.ref s.heap.objs.size) s₂) :
    wpAny (model prog w) A (pyIter (.ref l)) Q E s := by
  have hlt : l < s.heap.objs.size := by obtain ⟨_, e, _⟩ := hl; exact Heap.lt_size e
  refine wpAny_pyIter_tuple hl (h _ rfl ⟨⟨_, Heap.get?_push_size _ rfl, rfl, rfl⟩, hl.push _⟩ (fun b hb => ?_) (Nat.ne_of_lt hlt))
  show b < (s.heap.push _).objs.size
  rw [Heap.size_push]
  rcases List.mem_cons.mp hb with rfl | hb
  · exact Nat.lt_succ_self _
  · rcases List.mem_cons.mp hb with rfl | hb
    · exact Nat.lt_succ_of_lt hlt
    · cases hb
theorem min_intTup {Q : Value → Shared → Prop} (hh : A.handled = none) (hl : s.heap.IsTuple l (intItems xs)) (hne : 0 < xs.size)
    (h : ∀ v h' tk, (intItems xs)[argBest (fun i j => decide (numAt xs i < numAt xs j)) (xs.size - 1)]? = some v → (∀ b o, s.heap.get? b = some o → h'.get? b = some o) → Q v { s with heap := h', toks := tk }) :
    wpAny (model prog w) A (call (.builtin "min") [.ref l]) Q E s := by
  refine call_min_walk (iter_intTup hl fun s₂ e st hfp hlI => ?_)
  subst e
  refine ⟨_, _, _, _, _, _, _, rfl, Walks.tuple (A := A.in1) hh _ l hlI (intItems xs), st, hfp, by simpa [intItems] using hne, CmpOf.ints_lt (numAt xs) (fun _ _ => intItems_at), fun v h' tk hP hk => ?_⟩
  refine h v h' tk (by simpa [intItems] using hP) fun b o e => ?_
  refine hk b o (fun hm => ?_) (Heap.get?_push_of_some _ e)
  rcases List.mem_cons.mp hm with e1 | hm
  · exact absurd (e1 ▸ Heap.lt_size e) (Nat.lt_irrefl _)
  · cases hm
theorem minT_raw {its : List Value} {ns : List Int} {Q : Value → Shared → Prop} (hh : A.handled = none) (hl : s.heap.IsTuple l its.toArray) (hi : IntsAre its ns) (hne : 0 < ns.length)
    (h : ∀ h' tk M t', (∀ b o, s.heap.get? b = some o → h'.get? b = some o) → M ∈ ns → (∀ a, a ∈ ns → M ≤ a) → Q (.int M t') { s with heap := h', toks := tk }) : wpAny (model prog w) A (call (.builtin "min") [.ref l]) Q E s := by
  obtain ⟨xs, e⟩ := hi.allInts.items
  have hn : numsOf (intItems xs).toList = ns := by rw [← e]; exact hi.numsOf
  rw [nums_intItems] at hn
  subst hn
  rw [e] at hl
  have hsz : 0 < xs.size := by simpa using hne
  refine min_intTup hh hl hsz fun v h' tk hv hk => ?_
  obtain ⟨t, rfl⟩ := intItems_at hv
  obtain ⟨h1, h2⟩ := argBest_lt (numAt xs) (xs.size - 1)
  refine h h' tk _ t hk ?_ fun a ha => ?_
  · rw [numAt_eq]; exact PySem.getD_mem (by rw [List.length_map, Array.length_toList]; omega)
  · obtain ⟨j, hj, rfl⟩ := mem_getD ha
    rw [List.length_map, Array.length_toList] at hj
    rw [← numAt_eq]; exact h2 j (by omega)
end
section
variable {X : Cx} {K : PySem.W.Frag}
def rMinT (K : PySem.W.Frag) : List V → Hp → VK → Prop := fun vs H Q => ∃ (a : Addr) (ns : List Int), vs = [V.ref a] ∧ SqT K H a (ns.map V.int) ∧ 0 < ns.length ∧ ∀ m, m ∈ ns → (∀ y, y ∈ ns → m ≤ y) → Q (.int m) H
theorem g_minT (K : PySem.W.Frag) (hc : X.calm = true) (e : X.K = K := by rfl) : CallR X (.builtin "min") (rMinT K) := by
  subst e
  intro pins s σ H vs us Q I r h
  obtain ⟨a, ns, rfl, hs, hne, q⟩ := h
  obtain ⟨its, rv, p, hz⟩ := I.tuple hs
  rw [Vals.ref1 r]
  exact minT_raw (I.ok.hd hc) (show s.heap.IsTuple a its.toArray from p) rv.ints hne fun h' tk m t' hk h1 h2 => ⟨.int _, H, I.kept hk, ⟨_, rfl⟩, q m h1 h2⟩
end
end G
/-! Besides: what a front and the losses of a piece say; the promises of cutbehind.view.safe and of its law. -/
namespace G
open PySem PySem.Spec PyProof.Rows L2
/-- a roll of the dice, below a great bound -/
def spRollB : Sp := fun vs H Q _ => ∃ (l : Addr) (u : Int) (n : Nat), vs = [.ref l, .int u] ∧ 1 ≤ u ∧ u ≤ 2 ^ 200 ∧ Dice H l (n + 1) ∧ ∀ r H', 0 ≤ r → r < u → Kp l H H' → Dice H' l n → Q (.int r) H'
/-- _law_mixed: a list in another order -/
def spMix (K : PySem.W.Frag) : Sp := fun vs H Q _ => ∃ (l a : Addr) (ys : List V) (n : Nat), vs = [.ref l, .ref a] ∧ a ≠ l ∧ SqL K H a ys ∧ ys.length ≤ 100 ∧ Dice H l (n + ys.length) ∧
  ∀ (p : Addr) (zs : List V) H', H p = none → p ≠ l → zs.Perm ys → H' p = some (.lst zs) → Kp l H H' → Dice H' l n → Q (.ref p) H'
/-- _law_letters of these laws -/
def spLettB : Sp := fun vs H Q _ => ∃ (l : Addr) (m n : Nat), vs = [.ref l, .int (m : Int)] ∧ m ≤ 20 ∧ Dice H l (n + m) ∧
  ∀ (p : Addr) (zs : List Nat) H', H p = none → p ≠ l → zs.length = m → (∀ c ∈ zs, lett c = true) → H' p = some (.lst (zs.map chV)) → Kp l H H' → Dice H' l n → Q (.ref p) H'
/-- _law_drawn_book: a right dict of prices -/
def spBookB : Sp := fun vs H Q _ => ∃ (l : Addr) (n : Nat), vs = [.ref l] ∧ Dice H l (n + 300) ∧ ∀ (p : Addr) (kvs : List (Key × V)) H', H p = none → p ≠ l → H' p = some (.dK kvs) → arePrices kvs = true → (kvs.map (·.1)).Nodup → Kp l H H' → Dice H' l n → Q (.ref p) H'
/-- _law_signs_of -/
def spSignsB (K : PySem.W.Frag) : Sp := fun vs H Q _ => ∃ (d : Addr) (kvs : List (Key × V)), vs = [.ref d] ∧ H d = some (.dK kvs) ∧ arePrices kvs = true ∧ (kvs.map (·.1)).Nodup ∧ ∀ p (sg : List Nat) H', H p = none → H' p = some (.lst (sg.map chV)) → sg.length ≤ 12 → sg ≠ [] → (∀ c, c ∈ sg ↔ Over (tfD kvs) [c]) → Same H H' → Q (.ref p) H'
/-- _law_starting -/
def spStartB : Sp := fun vs H Q _ => ∃ (d : Addr) (kvs : List (Key × V)) (t : List Nat), vs = [.ref d, .str (sOf t)] ∧ H d = some (.dK kvs) ∧ Tar kvs ∧ kvs.length ≤ 12 ∧ t.length ≤ 1000 ∧ ∀ p (zs : List Str) H', H p = none → H' p = some (.lst (zs.map V.str)) → zs.length ≤ 12 → (∀ z ∈ zs, (∃ p, tfD kvs z = some p) ∧ ∃ b, t = cs z ++ b) → Same H H' → Q (.ref p) H'
/-! ### losses -/
/-- what a piece costs more than the cheapest cut, where so many signs of the text are left out -/
noncomputable def lossAt (F : Tf) (z : Str) (t : List Nat) (i : Nat) : Int := (F z).getD 0 + lp F ((t.drop (cs z).length).take (t.length - (cs z).length - i)) - lp F (t.take (t.length - i))
noncomputable def lossD (F : Tf) (L : Nat) (z : Str) (t : List Nat) : List Int := (List.range L).map fun i => if i < t.length - (cs z).length + 1 then lossAt F z t i else -1
def BesAt (H : Hp) (a : Addr) (l : List Nat) (ds ls : List Int) : Prop := ∃ f u, H a = some (.tup [.ref f, .ref u]) ∧ FrontAt H f l ds ∧ H u = some (.tup (ls.map V.int))
theorem BesAt.same {H H' : Hp} {a : Addr} {l : List Nat} {ds ls : List Int} (b : BesAt H a l ds ls) (s : Same H H') : BesAt H' a l ds ls := by
  obtain ⟨f, u, h1, h2, h3⟩ := b
  exact ⟨f, u, s _ _ h1, h2.same s, s _ _ h3⟩
/-- beside_in, beside_of, _law_due_of -/
def spBes (C : Addr) : Sp := fun vs H Q _ => ∃ (b : Addr) (kvs : List (Key × V)) (t : List Nat) (z : Str) (p : Int) (r : List Nat), vs = [.ref b, .str (sOf t), .str z] ∧ Book1 C H b kvs ∧ Over (tfD kvs) t ∧ t.length ≤ 1000 ∧ (∀ c ∈ t, lett c = true) ∧ tfD kvs z = some p ∧ t = cs z ++ r ∧
  ∀ L a H', Wide (tfD kvs) L → BesAt H' a (frontW L t) (frontD (tfD kvs) L t) (lossD (tfD kvs) L z t) → Same H H' → Q (.ref a) H'
end G
namespace G
open PySem PySem.Spec PyProof.Rows L2
theorem perm_liftB {α β : Type} {f : α → β} {zs ys : List β} (pm : zs.Perm ys) : ∀ l : List α, ys = l.map f → ∃ l' : List α, l'.Perm l ∧ zs = l'.map f := by
  induction pm with
  | nil => intro l e; exact ⟨l, .refl _, e⟩
  | cons x _ ih =>
    intro l e
    cases l with
    | nil => cases e
    | cons a r =>
      rw [List.map_cons] at e
      obtain ⟨rfl, e2⟩ := List.cons.inj e
      obtain ⟨l', h1, h2⟩ := ih r e2
      exact ⟨a :: l', .cons a h1, by rw [List.map_cons, ← h2]⟩
  | swap x y _ =>
    intro l e
    match l, e with
    | a :: b :: r, e =>
      rw [List.map_cons, List.map_cons] at e
      obtain ⟨rfl, e2⟩ := List.cons.inj e
      obtain ⟨rfl, e3⟩ := List.cons.inj e2
      exact ⟨b :: a :: r, .swap _ _ _, by rw [e3]; rfl⟩
  | trans _ _ ih1 ih2 =>
    intro l e
    obtain ⟨l1, h1, h2⟩ := ih2 l e
    obtain ⟨l2, h3, h4⟩ := ih1 l1 h2
    exact ⟨l2, h3.trans h1, h4⟩
theorem paired_list {α β : Type} {F : α → β → Prop} : ∀ {xs : List α} {ys : List β}, Paired F xs ys → ∃ prs : List (α × β), xs = prs.map (·.1) ∧ ys = prs.map (·.2) ∧ ∀ p ∈ prs, F p.1 p.2
  | _, _, .nil => ⟨[], rfl, rfl, fun _ h => (List.not_mem_nil h).elim⟩
  | _, _, .cons (a := x) (b := y) h r => by
    obtain ⟨prs, h1, h2, h3⟩ := paired_list r
    refine ⟨(x, y) :: prs, by rw [h1]; rfl, by rw [h2]; rfl, fun p hp => ?_⟩
    rcases List.mem_cons.mp hp with rfl | hp
    · exact h
    · exact h3 p hp
theorem PrOk.perm {sg : List Nat} {kvs kv : List (Key × V)} (P : PrOk sg kvs) (pm : kv.Perm kvs) : PrOk sg kv := ⟨fun x hx => P.mem x (pm.mem_iff.mp hx), ((pm.map (·.1)).nodup_iff).mpr P.nd⟩
theorem has_perm {kvs kv : List (Key × V)} {k : Key} (pm : kv.Perm kvs) (h : (valV kvs k).isSome = true) : (valV kv k).isSome = true := by
  obtain ⟨v, hv⟩ := Option.isSome_iff_exists.mp h
  have m := valV_mem hv
  unfold valV
  rw [Option.isSome_map, List.find?_isSome]
  exact ⟨_, pm.mem_iff.mpr m, by simp⟩
end G
namespace G
open PySem PySem.Spec PyProof.Rows L2
def signV (kv : Key × V) : Option Str := match kv.1 with | .inr y => if y.length = 1 then some y else none | .inl _ => none
def startV (z : Str) (kv : Key × V) : Option Str := match kv.1 with | .inr y => if Txt.startswith z y = true then some y else none | .inl _ => none
end G
namespace G
open PySem PySem.Spec PyProof.Rows L2
theorem starts_begB {x y : Str} : Txt.startswith x y = true ↔ ∃ r, cs x = cs y ++ r := by
  have l1 := cs_len x
  have l2 := cs_len y
  unfold Txt.startswith
  rw [StrLaws.subAt_eq, Bool.and_eq_true, decide_eq_true_eq, beq_iff_eq]
  constructor
  · rintro ⟨h1, h2⟩
    refine ⟨(cs x).drop y.length, ?_⟩
    have h3 : ((cs x).drop 0).take y.length = cs y := h2
    rw [List.drop_zero] at h3
    rw [← h3, List.take_append_drop]
  · rintro ⟨r, h⟩
    have h0 := congrArg List.length h
    rw [List.length_append] at h0
    refine ⟨by omega, ?_⟩
    show ((cs x).drop 0).take y.length = cs y
    rw [List.drop_zero, h, ← l2, List.take_left]
section
variable {F : Tf} {L : Nat} {l t r : List Nat} {ds ls : List Int} {c : Nat} {m p : Int} {z : Str}
/-- the least of the ends with a loss that is known -/
def BesR (F : Tf) (l : List Nat) (ds ls : List Int) (c : Nat) (m : Int) : Prop :=
  (∃ z p a y v, F z = some p ∧ l ++ [c] = a ++ cs z ∧ ((0 : Int) :: ds)[(cs z).length - 1]? = some y ∧ ls[(cs z).length - 1]? = some v ∧ 0 ≤ v ∧ m = p + y + v) ∧
  ∀ z p a y v, F z = some p → l ++ [c] = a ++ cs z → ((0 : Int) :: ds)[(cs z).length - 1]? = some y → ls[(cs z).length - 1]? = some v → 0 ≤ v → m ≤ p + y + v
theorem BesR.uniq {n : Int} (h : BesR F l ds ls c m) (k : BesR F l ds ls c n) : m = n := by
  obtain ⟨⟨z, p, a, y, v, h1, h2, h3, h5, h6, rfl⟩, h4⟩ := h
  obtain ⟨⟨z', p', a', y', v', k1, k2, k3, k5, k6, rfl⟩, k4⟩ := k
  have := h4 z' p' a' y' v' k1 k2 k3 k5 k6
  have := k4 z p a y v h1 h2 h3 h5 h6
  omega
def besL (ls : List Int) (m ch : Int) : List Int := (m - ch) :: ls.dropLast
noncomputable def lossOf (ls : List Int) (y : Str) : Int := (ls[(cs y).length - 1]?).getD 0
noncomputable def endP (lg : Str) (ls : List Int) (y : Str) : Bool := Txt.endswith lg y && decide (0 ≤ lossOf ls y)
def endV (z : Str) (kv : Key × V) : Option Str := match kv.1 with | .inr y => if Txt.endswith z y = true then some y else none | .inl _ => none
theorem ahead_some {y : Str} (h : (cs y).length ≤ ds.length + 1) : ((0 : Int) :: ds)[(cs y).length - 1]? = some (aheadAt ds y) := by
  unfold aheadAt
  rw [List.getElem?_eq_getElem (by rw [List.length_cons]; omega)]
  rfl
theorem loss_some {y : Str} (h1 : 1 ≤ (cs y).length) (h : (cs y).length ≤ ls.length) : ls[(cs y).length - 1]? = some (lossOf ls y) := by
  unfold lossOf
  rw [List.getElem?_eq_getElem (by omega)]
  rfl
theorem bes_min (G : Good F) (W : Wide F L) {es : List Str} {lg : Str} (hes : ∀ y, y ∈ es ↔ (∃ p, F y = some p) ∧ Txt.endswith lg y = true ∧ 0 ≤ lossOf ls y) (hg : cs lg = l ++ [c]) (hds : ds.length = l.length) (hls : ls.length = L) (h0 : ∃ v, ls[0]? = some v ∧ 0 ≤ v) (oc : Over F [c]) :
    0 < (es.map fun y => (F y).getD 0 + aheadAt ds y + lossOf ls y).length ∧ ∀ m ∈ es.map (fun y => (F y).getD 0 + aheadAt ds y + lossOf ls y), (∀ y ∈ es.map (fun y => (F y).getD 0 + aheadAt ds y + lossOf ls y), m ≤ y) → BesR F l ds ls c m := by
  have len : ∀ {y p a}, F y = some p → l ++ [c] = a ++ cs y → 1 ≤ (cs y).length ∧ (cs y).length ≤ ds.length + 1 ∧ (cs y).length ≤ ls.length := fun {y p a} h h2 => by
    have n1 := (G.len y p h).1
    have n2 := W.2 y p h
    have h3 := congrArg List.length h2
    rw [List.length_append, List.length_append, List.length_singleton] at h3
    omega
  have mem : ∀ {y p a}, F y = some p → l ++ [c] = a ++ cs y → 0 ≤ lossOf ls y → y ∈ es := fun {y p a} h h2 h3 =>
    (hes y).mpr ⟨⟨p, h⟩, ends_iff.mpr ⟨a, by rw [hg]; exact h2⟩, h3⟩
  constructor
  · rw [List.length_map]
    obtain ⟨p, hp⟩ := oc c List.mem_cons_self
    obtain ⟨v, hv, hv0⟩ := h0
    refine List.length_pos_of_mem (mem (y := ch c) (a := l) hp rfl ?_)
    have e : ls[(cs (ch c)).length - 1]? = some v := hv
    unfold lossOf
    rw [e]
    exact hv0
  · intro m hm hle
    constructor
    · obtain ⟨y, hy', rfl⟩ := List.mem_map.mp hm
      obtain ⟨⟨p, hp⟩, h2, h20⟩ := (hes y).mp hy'
      obtain ⟨a, ha⟩ := ends_iff.mp h2
      rw [hg] at ha
      obtain ⟨n1, n2, n3⟩ := len hp ha
      exact ⟨y, p, a, _, _, hp, ha, ahead_some n2, loss_some n1 n3, h20, by rw [hp]; rfl⟩
    · intro z p a y v hz h2 h3 h5 h6
      obtain ⟨n1, n2, n3⟩ := len hz h2
      rw [ahead_some n2] at h3
      rw [loss_some n1 n3] at h5
      rw [← Option.some.inj h5] at h6
      have h4 := hle _ (List.mem_map.mpr ⟨z, mem hz h2 h6, rfl⟩)
      rw [← Option.some.inj h3, ← Option.some.inj h5]
      rw [hz] at h4
      exact h4
theorem stp_min (G : Good F) {es : List Str} {lg : Str} (hes : ∀ y, y ∈ es ↔ (∃ p, F y = some p) ∧ Txt.endswith lg y = true) (hg : cs lg = l ++ [c]) (hds : ds.length = l.length) (oc : Over F [c]) :
    0 < (es.map fun y => (F y).getD 0 + aheadAt ds y).length ∧ ∀ m ∈ es.map (fun y => (F y).getD 0 + aheadAt ds y), (∀ y ∈ es.map (fun y => (F y).getD 0 + aheadAt ds y), m ≤ y) → StepR F l ds c m := by
  have len : ∀ {y p a}, F y = some p → l ++ [c] = a ++ cs y → 1 ≤ (cs y).length ∧ (cs y).length ≤ ds.length + 1 := fun {y p a} h h2 => by
    have n1 := (G.len y p h).1
    have h3 := congrArg List.length h2
    rw [List.length_append, List.length_append, List.length_singleton] at h3
    omega
  have mem : ∀ {y p a}, F y = some p → l ++ [c] = a ++ cs y → y ∈ es := fun {y p a} h h2 =>
    (hes y).mpr ⟨⟨p, h⟩, ends_iff.mpr ⟨a, by rw [hg]; exact h2⟩⟩
  constructor
  · rw [List.length_map]
    obtain ⟨p, hp⟩ := oc c List.mem_cons_self
    exact List.length_pos_of_mem (mem (y := ch c) (a := l) hp rfl)
  · intro m hm hle
    constructor
    · obtain ⟨y, hy', rfl⟩ := List.mem_map.mp hm
      obtain ⟨⟨p, hp⟩, h2⟩ := (hes y).mp hy'
      obtain ⟨a, ha⟩ := ends_iff.mp h2
      rw [hg] at ha
      obtain ⟨n1, n2⟩ := len hp ha
      exact ⟨y, p, a, _, hp, ha, ahead_some n2, by rw [hp]; rfl⟩
    · intro z p a y hz h2 h3
      obtain ⟨n1, n2⟩ := len hz h2
      rw [ahead_some n2] at h3
      have h4 := hle _ (List.mem_map.mpr ⟨z, mem hz h2, rfl⟩)
      rw [← Option.some.inj h3]
      rw [hz] at h4
      exact h4
/-! ### the losses of a text -/
theorem loss_at' (hz : F z = some p) (ht : t = cs z ++ r) (i : Nat) : lossAt F z t i = p + lp F (r.take (r.length - i)) - lp F (t.take (t.length - i)) := by
  have e1 : t.drop (cs z).length = r := by rw [ht, List.drop_left]
  have e2 : t.length - (cs z).length = r.length := by rw [ht, List.length_append]; omega
  unfold lossAt
  rw [hz, e1, e2]
  rfl
theorem lossD_len : (lossD F L z t).length = L := by
  unfold lossD
  rw [List.length_map, List.length_range]
theorem lossD_at (hz : F z = some p) (ht : t = cs z ++ r) {i : Nat} (h : i < L) : (lossD F L z t)[i]? = some (if i ≤ r.length then p + lp F (r.take (r.length - i)) - lp F (t.take (t.length - i)) else -1) := by
  have e2 : t.length - (cs z).length = r.length := by rw [ht, List.length_append]; omega
  unfold lossD
  rw [List.getElem?_map, List.getElem?_range h, e2]
  show some (if i < r.length + 1 then lossAt F z t i else -1) = _
  rw [loss_at' hz ht]
  by_cases g : i ≤ r.length
  · rw [if_pos g, if_pos (by omega)]
  · rw [if_neg g, if_neg (by omega)]
theorem take_cut (ht : t = cs z ++ r) {i : Nat} (h : i ≤ r.length) : t.take (t.length - i) = cs z ++ r.take (r.length - i) := by
  rw [ht, List.length_append, List.take_append, List.take_of_length_le (by omega)]
  congr 2
  omega
theorem loss_pos (G : Good F) (o : Over F t) (hz : F z = some p) (ht : t = cs z ++ r) {i : Nat} (h : i ≤ r.length) : 0 ≤ p + lp F (r.take (r.length - i)) - lp F (t.take (t.length - i)) ∧ p + lp F (r.take (r.length - i)) - lp F (t.take (t.length - i)) ≤ 99 * t.length + 99 := by
  have o' := o
  rw [ht] at o'
  have oz : Over F (cs z) := o'.left
  have or : Over F r := fun c hc => o' c (List.mem_append_right _ hc)
  have h1 := lp_add G oz (or.take (r.length - i))
  have h2 := lp_piece G hz
  have h3 := lp_bound G _ (or.take (r.length - i))
  have h4 := lp_bound G _ (o.take (t.length - i))
  have h5 := (G.pos _ _ hz).2
  have h6 : (r.take (r.length - i)).length ≤ t.length := by rw [List.length_take, ht, List.length_append]; omega
  rw [take_cut ht h] at h4 ⊢
  omega
theorem bes_text (G : Good F) (W : Wide F L) (o : Over F (t ++ [c])) (hz : F z = some p) (ht : t = cs z ++ r) : BesR F (frontW L t) (frontD F L t) (lossD F L z t) c (p + lp F (r ++ [c]) - lp F t) := by
  have ot : Over F t := o.left
  have or1 : Over F (r ++ [c]) := fun x hx => o x (by
    rw [ht]
    rcases List.mem_append.mp hx with h | h
    · exact List.mem_append_left _ (List.mem_append_right _ h)
    · exact List.mem_append_right _ h)
  have val : ∀ {y : Str} {q : Int} {a : List Nat}, F y = some q → t ++ [c] = a ++ cs y → (cs y).length - 1 < L ∧ ((0 : Int) :: frontD F L t)[(cs y).length - 1]? = some (lp F (t.take (t.length - ((cs y).length - 1))) - lp F t) := by
    intro y q a hy h
    have n1 := (G.len y q hy).1
    have n2 := W.2 y q hy
    have hl := congrArg List.length h
    rw [List.length_append, List.length_append, List.length_singleton] at hl
    exact ⟨by omega, ahead_at (by omega)⟩
  have rt : ∀ {y : Str} {b : List Nat}, 1 ≤ (cs y).length → r ++ [c] = b ++ cs y → r.take (r.length - ((cs y).length - 1)) = b ∧ (cs y).length - 1 ≤ r.length := by
    intro y b n1 h
    have hl := congrArg List.length h
    rw [List.length_append, List.length_append, List.length_singleton] at hl
    refine ⟨?_, by omega⟩
    have h2 : (r ++ [c]).take b.length = b := by rw [h, List.take_left]
    rw [List.take_append_of_le_length (by omega)] at h2
    have : r.length - ((cs y).length - 1) = b.length := by omega
    rw [this, h2]
  constructor
  · obtain ⟨y, q, b, h1, h2, h3⟩ := lp_last G or1 (by simp)
    have n1 := (G.len y q h1).1
    obtain ⟨e1, e2⟩ := rt n1 h2
    have hs : t ++ [c] = (cs z ++ b) ++ cs y := by rw [ht, List.append_assoc, List.append_assoc, ← h2]
    obtain ⟨a', ha'⟩ := (front_suffix (c := c) (l := t) W G h1).mpr ⟨_, hs⟩
    obtain ⟨v1, v2⟩ := val h1 hs
    have v3 := lossD_at (L := L) hz ht v1
    rw [if_pos e2] at v3
    refine ⟨y, q, a', _, _, h1, ha', v2, v3, (loss_pos G ot hz ht e2).1, ?_⟩
    rw [e1, h3]
    omega
  · intro y q a x v h1 h2 h3 h5 h6
    obtain ⟨a', ha'⟩ := (front_suffix (c := c) (l := t) W G h1).mp ⟨a, h2⟩
    have n1 := (G.len y q h1).1
    obtain ⟨v1, v2⟩ := val h1 ha'
    rw [v2] at h3
    rw [lossD_at hz ht v1] at h5
    by_cases g : (cs y).length - 1 ≤ r.length
    · rw [if_pos g] at h5
      have e3 := Option.some.inj h3
      have e5 := Option.some.inj h5
      -- the piece ends the rest
      have hl := congrArg List.length ha'
      rw [List.length_append, List.length_append, List.length_singleton] at hl
      have hr : r ++ [c] = (r ++ [c]).take (r.length + 1 - (cs y).length) ++ cs y := by
        have h7 : cs z ++ (r ++ [c]) = a' ++ cs y := by rw [← List.append_assoc, ← ht]; exact ha'
        have h8 := congrArg (List.drop a'.length) h7
        rw [List.drop_left, List.drop_append, List.drop_eq_nil_of_le (by rw [ht, List.length_append] at hl; omega), List.nil_append] at h8
        have en : r.length + 1 - (cs y).length = a'.length - (cs z).length := by
          rw [ht, List.length_append] at hl
          omega
        rw [en, ← h8, List.take_append_drop]
      obtain ⟨e1, _⟩ := rt n1 hr
      have ob : Over F ((r ++ [c]).take (r.length + 1 - (cs y).length)) := or1.take _
      have h4 := lp_app G ob h1
      rw [← hr] at h4
      rw [e1] at e5
      omega
    · rw [if_neg g] at h5
      have e5 := Option.some.inj h5
      omega
theorem bes_next (G : Good F) (hL : 1 ≤ L) (hz : F z = some p) (ht : t = cs z ++ r) : besL (lossD F L z t) (p + lp F (r ++ [c]) - lp F t) (lp F (t ++ [c]) - lp F t) = lossD F L z (t ++ [c]) := by
  have ht' : t ++ [c] = cs z ++ (r ++ [c]) := by rw [ht, List.append_assoc]
  refine List.ext_getElem? fun i => ?_
  by_cases h : i < L
  · rw [lossD_at hz ht' h]
    cases i with
    | zero =>
      rw [if_pos (Nat.zero_le _), Nat.sub_zero, Nat.sub_zero, List.take_length, List.take_length]
      show some _ = some _
      congr 1
      omega
    | succ i =>
      show (lossD F L z t).dropLast[i]? = _
      rw [List.getElem?_dropLast, lossD_len, if_pos (by omega), lossD_at hz ht (by omega), List.length_append, List.length_singleton, List.length_append, List.length_singleton]
      have e1 : (r ++ [c]).take (r.length + 1 - (i + 1)) = r.take (r.length - i) := by
        rw [List.take_append_of_le_length (by omega)]
        congr 1
        omega
      have e2 : (t ++ [c]).take (t.length + 1 - (i + 1)) = t.take (t.length - i) := by
        rw [List.take_append_of_le_length (by omega)]
        congr 1
        omega
      rw [e1, e2]
      by_cases g : i ≤ r.length
      · rw [if_pos g, if_pos (by omega)]
      · rw [if_neg g, if_neg (by omega)]
  · rw [List.getElem?_eq_none (by unfold besL; rw [List.length_cons, List.length_dropLast, lossD_len]; omega), List.getElem?_eq_none (by rw [lossD_len]; omega)]
/-! ### the form -/
structure BForm (L : Nat) (l : List Nat) (ls : List Int) : Prop where
  len : ls.length = L
  zero : ∃ v, ls[0]? = some v ∧ 0 ≤ v
  low : ∀ x ∈ ls, -1 ≤ x
  int : ∀ x ∈ ls, isInteger (.int x) = true
  far : ∀ x ∈ ls.drop (l.length + 1), x = -1
theorem form_text (G : Good F) (hL : 1 ≤ L) (o : Over F t) (hz : F z = some p) (ht : t = cs z ++ r) (hl : t.length ≤ 1000) : BForm L (frontW L t) (lossD F L z t) where
  len := lossD_len
  zero := ⟨_, lossD_at hz ht (by omega), by rw [if_pos (Nat.zero_le _)]; exact (loss_pos G o hz ht (Nat.zero_le _)).1⟩
  low := fun x hx => by
    obtain ⟨i, hi⟩ := List.getElem?_of_mem hx
    have hL : i < L := by
      have := (List.getElem?_eq_some_iff.mp hi).1
      rwa [lossD_len] at this
    rw [lossD_at hz ht hL] at hi
    have e := Option.some.inj hi
    by_cases g : i ≤ r.length
    · rw [if_pos g] at e
      have := (loss_pos G o hz ht g).1
      omega
    · rw [if_neg g] at e
      omega
  int := fun x hx => by
    obtain ⟨i, hi⟩ := List.getElem?_of_mem hx
    have hL : i < L := by
      have := (List.getElem?_eq_some_iff.mp hi).1
      rwa [lossD_len] at this
    rw [lossD_at hz ht hL] at hi
    have e := Option.some.inj hi
    have big : (1000000 : Nat) < 10 ^ 60 := by decide +kernel
    refine isI_of (Nat.lt_of_le_of_lt ?_ big)
    by_cases g : i ≤ r.length
    · rw [if_pos g] at e
      have := loss_pos G o hz ht g
      omega
    · rw [if_neg g] at e
      omega
  far := fun x hx => by
    obtain ⟨i, hi⟩ := List.getElem?_of_mem hx
    rw [List.getElem?_drop] at hi
    have hL : (frontW L t).length + 1 + i < L := by
      have := (List.getElem?_eq_some_iff.mp hi).1
      rwa [lossD_len] at this
    rw [lossD_at hz ht hL] at hi
    have e := Option.some.inj hi
    rw [frontW_len] at hL e
    have : t.length = (cs z).length + r.length := by rw [ht, List.length_append]
    have n1 := (G.len z p hz).1
    rw [if_neg (by omega)] at e
    exact e.symm
theorem besR_small {B : Nat} (G : Good F) (h : BesR F l ds ls c m) (hb : ∀ d ∈ ds, d.natAbs ≤ B) (hv : ∀ d ∈ ls, d.natAbs ≤ B) : m.natAbs ≤ 2 * B + 99 := by
  obtain ⟨⟨z, p, a, y, v, h1, _, h3, h5, _, rfl⟩, _⟩ := h
  have h4 := G.pos _ _ h1
  have h6 := hv v (List.mem_of_getElem? h5)
  rcases List.mem_cons.mp (List.mem_of_getElem? h3) with rfl | h5
  · omega
  · have := hb y h5
    omega
theorem besL_small {B : Nat} {n : Int} (hm : m.natAbs ≤ 2 * B + 99) (hn : n.natAbs ≤ B + 99) (hv : ∀ d ∈ ls, d.natAbs ≤ B) : ∀ d ∈ besL ls m n, d.natAbs ≤ 3 * B + 198 := fun d hd => by
  rcases List.mem_cons.mp hd with rfl | h
  · omega
  · have := hv d (List.dropLast_subset _ h)
    omega
end
def dBes (l : List Nat) (ds ls : List Int) : PyData := .tuple [dFront l ds, .tuple (ls.map PyData.int)]
theorem dp_bes {K : PySem.W.Frag} {H : Hp} {a : Addr} {l : List Nat} {ds ls : List Int} (b : BesAt H a l ds ls) : Dp K H (.ref a) (dBes l ds ls) := by
  obtain ⟨f, u, h1, h2, h3⟩ := b
  exact .tup (SqT.of h1) (.cons (dp_front h2) (.cons (.tup (SqT.of h3) (dpAll_ints ls)) .nil))
theorem shw_bes {l : List Nat} {ds ls : List Int} (hl : l.length ≤ 5) (hc : ∀ c ∈ l, lett c = true) (hd : ds.length ≤ 5) (hi : ∀ d ∈ ds, d.natAbs < 2 ^ 300) (hs : ls.length ≤ 5) (hj : ∀ d ∈ ls, d.natAbs < 2 ^ 300) : Shw (dBes l ds ls) 3 40000 := by
  have h2 : Shw (.tuple (ls.map PyData.int)) 2 (2 * 9700) := (shw_tuple (k := 0) (n := 1921) fun d hd' => by
    obtain ⟨i, hi', rfl⟩ := List.mem_map.mp hd'
    exact shw_int (log_of (hj i hi'))).le (by omega) (by
      rw [List.length_map]
      have := Nat.mul_le_mul_right (1921 + 2) hs
      omega)
  refine (shw_tuple (k := 2) (n := 2 * 9700) fun d hd' => ?_).le (by omega) (by show 2 * (2 * 9700 + 2) + 4 ≤ 40000; omega)
  simp only [List.mem_cons, List.not_mem_nil, or_false] at hd'
  rcases hd' with rfl | rfl
  · exact shw_front hl hc hd hi
  · exact h2
end G
namespace G
open PySem PySem.Spec PyProof.Rows L2
/-! ### the law's states -/
def StateAt (H : Hp) (a : Addr) (l : List Nat) (xs ys : List V) : Prop := ∃ u r0 r1, H a = some (.tup [.str (sOf l), .ref u]) ∧ H u = some (.tup [.ref r0, .ref r1]) ∧ H r0 = some (.tup xs) ∧ H r1 = some (.tup ys)
noncomputable def row0 (F : Tf) (L : Nat) (t : List Nat) : List V := (List.range (min L (t.length + 1))).map fun i => V.int (lp F (t.take (t.length - i)) - lp F t)
noncomputable def row1 (F : Tf) (L : Nat) (p : Int) (r t : List Nat) : List V := (List.range (min L (t.length + 1))).map fun i => if i ≤ r.length then V.int (p + lp F (r.take (r.length - i)) - lp F t) else V.non
def spState : Sp := fun vs H Q _ => ∃ (d pa : Addr) (kvs : List (Key × V)) (t : List Nat) (z : Str) (p : Int) (r : List Nat), vs = [.ref d, .str (sOf t), .ref pa] ∧ H d = some (.dK kvs) ∧ Tar kvs ∧ kvs ≠ [] ∧ Over (tfD kvs) t ∧ t.length ≤ 1000 ∧ H pa = some (.lst [.str z]) ∧ tfD kvs z = some p ∧ t = cs z ++ r ∧
  ∀ L a H', Wide (tfD kvs) L → 1 ≤ L → L ≤ 5 → StateAt H' a (frontW L t) (row0 (tfD kvs) L t) (row1 (tfD kvs) L p r t) → Same H H' → Q (.ref a) H'
/-- _law_beside_of -/
def spBesOf : Sp := fun vs H Q _ => ∃ (d s : Addr) (kvs : List (Key × V)) (t : List Nat) (z : Str) (p : Int) (r : List Nat) (L : Nat), vs = [.ref d, .ref s] ∧ H d = some (.dK kvs) ∧ Tar kvs ∧ kvs ≠ [] ∧ tfD kvs z = some p ∧ t = cs z ++ r ∧ t.length ≤ 1000 ∧ Wide (tfD kvs) L ∧ L ≤ 5 ∧ 1 ≤ L ∧ StateAt H s (frontW L t) (row0 (tfD kvs) L t) (row1 (tfD kvs) L p r t) ∧
  ∀ a H', BesAt H' a (frontW L t) (frontD (tfD kvs) L t) (lossD (tfD kvs) L z t) → Same H H' → Q (.ref a) H'
/-- _law_due_of -/
def spDue : Sp := fun vs H Q _ => ∃ (d : Addr) (kvs : List (Key × V)) (t : List Nat) (z : Str) (p : Int) (r : List Nat), vs = [.ref d, .str (sOf t), .str z] ∧ H d = some (.dK kvs) ∧ Tar kvs ∧ kvs ≠ [] ∧ Over (tfD kvs) t ∧ t.length ≤ 1000 ∧ tfD kvs z = some p ∧ t = cs z ++ r ∧
  ∀ L a H', Wide (tfD kvs) L → 1 ≤ L → L ≤ 5 → BesAt H' a (frontW L t) (frontD (tfD kvs) L t) (lossD (tfD kvs) L z t) → Same H H' → Q (.ref a) H'
/-- any beside in its form -/
structure BesArg (H : Hp) (s : Addr) (kvs : List (Key × V)) (l : List Nat) (ds ls : List Int) (L : Nat) : Prop where
  at_ : BesAt H s l ds ls
  wd : Wide (tfD kvs) L
  ov : Over (tfD kvs) l
  ln : l.length < L
  dl : ds.length = l.length
  lt : ∀ x ∈ l, lett x = true
  di : ∀ x ∈ ds, isInteger (.int x) = true
  fm : BForm L l ls
theorem BesArg.same {H H' : Hp} {s : Addr} {kvs : List (Key × V)} {l : List Nat} {ds ls : List Int} {L : Nat} (a : BesArg H s kvs l ds ls L) (e : Same H H') : BesArg H' s kvs l ds ls L :=
  ⟨a.at_.same e, a.wd, a.ov, a.ln, a.dl, a.lt, a.di, a.fm⟩
/-- _law_next -/
def spLawNext : Sp := fun vs H Q _ => ∃ (d s : Addr) (kvs : List (Key × V)) (l : List Nat) (ds ls : List Int) (c L : Nat), vs = [.ref d, .ref s, .str (ch c)] ∧ H d = some (.dK kvs) ∧ Tar kvs ∧ kvs ≠ [] ∧ BesArg H s kvs l ds ls L ∧ Over (tfD kvs) [c] ∧
  ∀ t n m H', StepR (tfD kvs) l ds c n → BesR (tfD kvs) l ds ls c m → BesAt H' t (stepW L l c) (stepD L l ds c n) (besL ls m n) → Same H H' → Q (.ref t) H'
/-- step_beside, next_beside -/
def spStepBes (C : Addr) : Sp := fun vs H Q _ => ∃ (b s : Addr) (kvs : List (Key × V)) (l : List Nat) (ds ls : List Int) (c L : Nat), vs = [.ref b, .ref s, .str (ch c)] ∧ Book1 C H b kvs ∧ BesArg H s kvs l ds ls L ∧ Over (tfD kvs) [c] ∧ lett c = true ∧
  ∀ t n m H', StepR (tfD kvs) l ds c n → BesR (tfD kvs) l ds ls c m → BesAt H' t (stepW L l c) (stepD L l ds c n) (besL ls m n) → Same H H' → Q (.ref t) H'
/-- has_beside_form, of a beside in its form -/
def spBForm (C : Addr) : Sp := fun vs H Q _ => ∃ (b s : Addr) (kvs : List (Key × V)) (l : List Nat) (ds ls : List Int) (L : Nat), vs = [.ref b, .ref s] ∧ Book1 C H b kvs ∧ BesArg H s kvs l ds ls L ∧ ∀ H', Same H H' → Q (.bl true) H'
/-- require_begun -/
def spBegun (C : Addr) : Sp := fun vs H Q _ => ∃ (b : Addr) (kvs : List (Key × V)) (t : List Nat) (z : Str) (p : Int) (r : List Nat), vs = [.ref b, .str (sOf t), .str z] ∧ Book1 C H b kvs ∧ Over (tfD kvs) t ∧ t.length ≤ 1000 ∧ (∀ c ∈ t, lett c = true) ∧ tfD kvs z = some p ∧ t = cs z ++ r ∧ ∀ H', Same H H' → Q .non H'
/-- _law_large: an integer that is none of a book's limits -/
def spLargeB : Sp := fun vs H Q _ => ∃ (l : Addr) (n : Nat), vs = [.ref l] ∧ Dice H l (n + 5) ∧ ∀ (i : Int) H', i.natAbs < 10 ^ 60 → Kp l H H' → Dice H' l n → Q (.int i) H'
/-- _law_wild -/
def spWild : Sp := fun vs H Q _ => ∃ (l d : Addr) (kvs : List (Key × V)) (n : Nat), vs = [.ref l, .ref d] ∧ d ≠ l ∧ H d = some (.dK kvs) ∧ arePrices kvs = true ∧ (kvs.map (·.1)).Nodup ∧ Dice H l (n + 100) ∧
  ∀ L s H' (w : List Nat) (ds ls : List Int), s ≠ l → BesArg H' s kvs w ds ls L → (∀ x ∈ ds, x.natAbs < 10 ^ 60) → (∀ x ∈ ls, x.natAbs < 10 ^ 60) → Kp l H H' → Dice H' l n → Q (.ref s) H'
end G
namespace G
open PySem PySem.Spec PyProof.Rows L2
def oV : Option Int → V
  | none => .non
  | some i => .int i
section
variable {F : Tf} {L : Nat} {r t : List Nat} {p : Int} {z : Str}
noncomputable def os0 (F : Tf) (t : List Nat) : List (Option Int) := (List.range (t.length + 1)).map fun j => some (lp F (t.take j))
noncomputable def os1 (F : Tf) (p : Int) (n : Nat) (r : List Nat) : List (Option Int) := List.replicate n none ++ (List.range (r.length + 1)).map fun j => some (p + lp F (r.take j))
noncomputable def osR (L : Nat) (m : Int) (os : List (Option Int)) : List V := ((os.reverse.take L).map fun o => o.map fun i => i - m).map oV
theorem os0_rowV : rowV F t (t.length + 1) = (os0 F t).map oV := by
  unfold rowV os0
  rw [List.map_map]
  rfl
theorem os0_len : (os0 F t).length = t.length + 1 := by
  unfold os0
  rw [List.length_map, List.length_range]
theorem os1_len {n : Nat} : (os1 F p n r).length = n + (r.length + 1) := by
  unfold os1
  rw [List.length_append, List.length_replicate, List.length_map, List.length_range]
theorem os0_row : osR L (lp F t) (os0 F t) = row0 F L t := by
  unfold osR row0
  refine List.ext_getElem? fun i => ?_
  rw [List.getElem?_map, List.getElem?_map, List.getElem?_take]
  by_cases h : i < min L (t.length + 1)
  · rw [if_pos (by omega), List.getElem?_reverse (by rw [os0_len]; omega), os0_len, List.getElem?_map, List.getElem?_range h]
    have e : (os0 F t)[t.length + 1 - 1 - i]? = some (some (lp F (t.take (t.length - i)))) := by
      unfold os0
      rw [List.getElem?_map, List.getElem?_range (by omega)]
      rfl
    rw [e]
    rfl
  · have e : ((List.range (min L (t.length + 1))).map fun i => V.int (lp F (t.take (t.length - i)) - lp F t))[i]? = none := List.getElem?_eq_none (by rw [List.length_map, List.length_range]; omega)
    rw [e]
    split
    · rw [List.getElem?_eq_none (by rw [List.length_reverse, os0_len]; omega)]
      rfl
    · rfl
theorem os1_row (ht : t = cs z ++ r) : osR L (lp F t) (os1 F p (cs z).length r) = row1 F L p r t := by
  have ln : t.length = (cs z).length + r.length := by rw [ht, List.length_append]
  unfold osR row1
  refine List.ext_getElem? fun i => ?_
  rw [List.getElem?_map, List.getElem?_map, List.getElem?_take]
  by_cases h : i < min L (t.length + 1)
  · rw [if_pos (by omega), List.getElem?_reverse (by rw [os1_len]; omega), os1_len, List.getElem?_map, List.getElem?_range h]
    by_cases g : i ≤ r.length
    · have e : (os1 F p (cs z).length r)[(cs z).length + (r.length + 1) - 1 - i]? = some (some (p + lp F (r.take (r.length - i)))) := by
        unfold os1
        rw [List.getElem?_append_right (by rw [List.length_replicate]; omega), List.length_replicate, List.getElem?_map, List.getElem?_range (by omega)]
        have : (cs z).length + (r.length + 1) - 1 - i - (cs z).length = r.length - i := by omega
        rw [this]
        rfl
      rw [e]
      show some (V.int _) = some (if i ≤ r.length then _ else _)
      rw [if_pos g]
    · have e : (os1 F p (cs z).length r)[(cs z).length + (r.length + 1) - 1 - i]? = some none := by
        unfold os1
        rw [List.getElem?_append_left (by rw [List.length_replicate]; omega), List.getElem?_replicate, if_pos (by omega)]
      rw [e]
      show some V.non = some (if i ≤ r.length then _ else _)
      rw [if_neg g]
  · have e : ((List.range (min L (t.length + 1))).map fun i => if i ≤ r.length then V.int (p + lp F (r.take (r.length - i)) - lp F t) else V.non)[i]? = none := List.getElem?_eq_none (by rw [List.length_map, List.length_range]; omega)
    rw [e]
    split
    · rw [List.getElem?_eq_none (by rw [List.length_reverse, os1_len]; omega)]
      rfl
    · rfl
end
end G
namespace G
open PySem PySem.Spec PyProof.Rows L2
theorem cutV_to' {xs : List V} {i : Nat} : cutV xs none (some (i : Int)) = xs.take i := by
  by_cases h : i ≤ xs.length
  · exact cutV_to h
  · have e : cutV xs none (some (i : Int)) = cutV xs none (some (xs.length : Int)) := by
      unfold cutV
      rw [show HT.sIx xs.length xs.length (some (i : Int)) = xs.length by rw [sIx_pos (by omega), Int.toNat_natCast]; omega]
      rw [show HT.sIx xs.length xs.length (some (xs.length : Int)) = xs.length by rw [sIx_pos (by omega), Int.toNat_natCast]; omega]
    rw [e, cutV_to (Nat.le_refl _), List.take_length, List.take_of_length_le (by omega)]
theorem osR_pre {os : List (Option Int)} {L : Nat} : (os.map oV).reverse.take L = ((os.reverse.take L)).map oV := by rw [← List.map_reverse, ← List.map_take]
end G
namespace G
open PySem PySem.Spec PyProof.Rows L2
section
variable {F : Tf} {L : Nat} {r t : List Nat} {p : Int} {z : Str}
noncomputable def lossE (F : Tf) (p : Int) (r t : List Nat) (i : Nat) : Int := if i ≤ r.length then p + lp F (r.take (r.length - i)) - lp F (t.take (t.length - i)) else -1
theorem lossD_eq (hz : F z = some p) (ht : t = cs z ++ r) : lossD F L z t = (List.range L).map (lossE F p r t) := by
  refine List.ext_getElem? fun i => ?_
  by_cases h : i < L
  · rw [lossD_at hz ht h, List.getElem?_map, List.getElem?_range h]
    rfl
  · rw [List.getElem?_eq_none (by rw [lossD_len]; omega), List.getElem?_eq_none (by rw [List.length_map, List.length_range]; omega)]
theorem row0_len : (row0 F L t).length = min L (t.length + 1) := by
  unfold row0
  rw [List.length_map, List.length_range]
theorem row1_len : (row1 F L p r t).length = min L (t.length + 1) := by
  unfold row1
  rw [List.length_map, List.length_range]
theorem row0_at {i : Nat} (h : i < min L (t.length + 1)) : (row0 F L t)[i]? = some (V.int (lp F (t.take (t.length - i)) - lp F t)) := by
  unfold row0
  rw [List.getElem?_map, List.getElem?_range h]
  rfl
theorem row1_at {i : Nat} (h : i < min L (t.length + 1)) : (row1 F L p r t)[i]? = some (if i ≤ r.length then V.int (p + lp F (r.take (r.length - i)) - lp F t) else V.non) := by
  unfold row1
  rw [List.getElem?_map, List.getElem?_range h]
  rfl
theorem row0_front (l1 : 1 ≤ L) : cutV (row0 F L t) (some 1) (some ((min (L - 1) t.length + 1 : Nat) : Int)) = (frontD F L t).map V.int := by
  have e : cutV (row0 F L t) (some 1) (some ((min (L - 1) t.length + 1 : Nat) : Int)) = ((row0 F L t).drop 1).take (min (L - 1) t.length) := by
    unfold cutV
    rw [show HT.sIx (row0 F L t).length (row0 F L t).length (some ((min (L - 1) t.length + 1 : Nat) : Int)) = min (L - 1) t.length + 1 by rw [sIx_pos (by omega), Int.toNat_natCast, row0_len]; omega]
    rw [show HT.sIx (row0 F L t).length 0 (some (1 : Int)) = 1 by rw [sIx_pos (by omega), row0_len]; show min 1 _ = 1; omega]
    rfl
  rw [e]
  refine List.ext_getElem? fun i => ?_
  rw [List.getElem?_take, List.getElem?_drop]
  by_cases h : i < min (L - 1) t.length
  · rw [if_pos h, row0_at (by omega), List.getElem?_map, frontD_at h]
    have : 1 + i = i + 1 := by omega
    rw [this]
    rfl
  · rw [if_neg h, List.getElem?_eq_none (by rw [List.length_map, frontD_len]; omega)]
end
end G
namespace G
open PySem PySem.Spec PyProof.Rows L2
theorem endV_mem {kvs : List (Key × V)} (T : Tar kvs) {lg : Str} (y : Str) : y ∈ kvs.filterMap (endV lg) ↔ (∃ p, tfD kvs y = some p) ∧ Txt.endswith lg y = true := by
  rw [List.mem_filterMap]
  constructor
  · rintro ⟨kv, hkv, e⟩
    obtain ⟨y', p, rfl, hp⟩ := T.mem kv hkv
    have e' : (if Txt.endswith lg y' = true then some y' else none) = some y := e
    by_cases g : Txt.endswith lg y' = true
    · rw [if_pos g] at e'
      cases e'
      exact ⟨⟨p, hp⟩, g⟩
    · rw [if_neg g] at e'
      cases e'
  · rintro ⟨⟨p, hp⟩, g⟩
    have hk' := valV_in (tf_some.mp hp)
    obtain ⟨kv, hkv, e⟩ := List.mem_map.mp hk'
    refine ⟨kv, hkv, ?_⟩
    unfold endV
    rw [e]
    show (if Txt.endswith lg y = true then some y else none) = some y
    rw [if_pos g]
theorem known_mem {F : Tf} {es : List Str} {lg : Str} {ls : List Int} (h : ∀ y, y ∈ es ↔ (∃ p, F y = some p) ∧ Txt.endswith lg y = true) (y : Str) : y ∈ es.filter (fun y => decide (0 ≤ lossOf ls y)) ↔ (∃ p, F y = some p) ∧ Txt.endswith lg y = true ∧ 0 ≤ lossOf ls y := by
  rw [List.mem_filter, h]
  constructor
  · rintro ⟨⟨h1, h2⟩, h3⟩
    exact ⟨h1, h2, of_decide_eq_true h3⟩
  · rintro ⟨h1, h2, h3⟩
    exact ⟨⟨h1, h2⟩, decide_eq_true h3⟩
theorem filter_fm {ys : List Str} (q : Str → Bool) : (ys.filterMap fun y => if q y = true then some (V.str y) else none) = (ys.filter q).map V.str := by
  induction ys with
  | nil => rfl
  | cons y r ih =>
    by_cases h : q y = true
    · rw [List.filterMap_cons_some (b := V.str y) (by rw [if_pos h]), List.filter_cons_of_pos h, List.map_cons, ih]
    · rw [List.filterMap_cons_none (by rw [if_neg h]), List.filter_cons_of_neg h, ih]
end G
namespace G
open PySem PySem.Spec PyProof.Rows L2
theorem sIx_m1 {n : Nat} : HT.sIx n n (some (-1)) = n - 1 := by
  show (if (-1 : Int) < 0 then ((-1 : Int) + (n : Int)).toNat else min (-1 : Int).toNat n) = _
  rw [if_pos (by decide)]
  omega
theorem cutV_m1 {xs : List V} : cutV xs none (some (-1)) = xs.dropLast := by
  unfold cutV
  rw [sIx_m1, List.dropLast_eq_take]
  rfl
end G
namespace G
open PySem PySem.Spec PyProof.Rows L2
section
variable {F : Tf} {L : Nat} {r t : List Nat} {p : Int} {z : Str}
/-- losses, so many of them told -/
noncomputable def lossI (F : Tf) (L : Nat) (p : Int) (r t : List Nat) (i : Nat) : List V := (List.range L).map fun j => V.int (if j < i then lossE F p r t j else -1)
theorem lossI_zero : lossI F L p r t 0 = List.replicate L (V.int (-1)) := by
  unfold lossI
  refine List.ext_getElem? fun j => ?_
  rw [List.getElem?_map, List.getElem?_replicate]
  by_cases h : j < L
  · rw [List.getElem?_range h, if_pos h]
    show some (V.int (if j < 0 then _ else -1)) = _
    rw [if_neg (by omega)]
  · rw [if_neg h, List.getElem?_eq_none (by rw [List.length_range]; omega)]
    rfl
theorem lossI_len {i : Nat} : (lossI F L p r t i).length = L := by
  unfold lossI
  rw [List.length_map, List.length_range]
theorem lossI_set {i : Nat} (h : i < L) : (lossI F L p r t i).set i (V.int (lossE F p r t i)) = lossI F L p r t (i + 1) := by
  refine List.ext_getElem? fun j => ?_
  rw [List.getElem?_set]
  unfold lossI
  by_cases e : i = j
  · subst e
    rw [if_pos rfl, List.length_map, List.length_range, if_pos h, List.getElem?_map, List.getElem?_range h]
    show _ = some (V.int (if i < i + 1 then _ else -1))
    rw [if_pos (by omega)]
  · rw [if_neg e, List.getElem?_map, List.getElem?_map]
    by_cases g : j < L
    · rw [List.getElem?_range g]
      show some (V.int (if j < i then _ else -1)) = some (V.int (if j < i + 1 then _ else -1))
      by_cases q : j < i
      · rw [if_pos q, if_pos (by omega)]
      · rw [if_neg q, if_neg (by omega)]
    · rw [List.getElem?_eq_none (by rw [List.length_range]; omega)]
      rfl
theorem lossI_all (hz : F z = some p) (ht : t = cs z ++ r) : lossI F L p r t (min L (r.length + 1)) = (lossD F L z t).map V.int := by
  rw [lossD_eq hz ht]
  unfold lossI
  rw [List.map_map]
  refine List.map_congr_left fun j hj => ?_
  have hj := List.mem_range.mp hj
  show V.int (if j < min L (r.length + 1) then lossE F p r t j else -1) = V.int (lossE F p r t j)
  by_cases q : j ≤ r.length
  · rw [if_pos (by omega)]
  · rw [if_neg (by omega)]
    unfold lossE
    rw [if_neg q]
end
end G
namespace G
open PySem PySem.Spec PyProof.Rows L2
theorem cutV_from' {xs : List V} {i : Nat} (h : i ≤ xs.length) : cutV xs (some (i : Int)) none = xs.drop i := by
  unfold cutV
  rw [show HT.sIx xs.length 0 (some (i : Int)) = i by rw [sIx_pos (by omega), Int.toNat_natCast]; omega]
  show (xs.drop i).take (xs.length - i) = _
  rw [List.take_of_length_le (by rw [List.length_drop]; omega)]
end G
namespace G
open PySem PySem.Spec PyProof.Rows L2
theorem paired_imp {α β : Type} {F F' : α → β → Prop} (h : ∀ a b, F a b → F' a b) : ∀ {xs : List α} {ys : List β}, Paired F xs ys → Paired F' xs ys
  | _, _, .nil => .nil
  | _, _, .cons h1 h2 => .cons (h _ _ h1) (paired_imp h h2)
theorem BesAt.kp {H H' : Hp} {l a : Addr} {n : Nat} {w : List Nat} {ds ls : List Int} (b : BesAt H a w ds ls) (D : Dice H l n) (k : Kp l H H') : BesAt H' a w ds ls := by
  obtain ⟨d0, d1, d2, hd, _⟩ := D
  have ne : ∀ {x : Addr} {vs : List V}, H x = some (.tup vs) → x ≠ l := fun h e => by
    rw [e, hd] at h
    cases h
  obtain ⟨f, u, h1, ⟨td, h2, h4⟩, h3⟩ := b
  exact ⟨f, u, k _ _ h1 (ne h1), ⟨td, k _ _ h2 (ne h2), k _ _ h4 (ne h4)⟩, k _ _ h3 (ne h3)⟩
section
variable {kvs : List (Key × V)} {L : Nat} {l t r : List Nat} {ds ls : List Int} {c : Nat} {m n p : Int} {z : Str}
theorem BesArg.kp {H H' : Hp} {a s : Addr} {k : Nat} (b : BesArg H s kvs l ds ls L) (D : Dice H a k) (q : Kp a H H') : BesArg H' s kvs l ds ls L :=
  ⟨b.at_.kp D q, b.wd, b.ov, b.ln, b.dl, b.lt, b.di, b.fm⟩
theorem shw_told (G : Good (tfD kvs)) (l1 : 1 ≤ L) (L5 : L ≤ 5) (o : Over (tfD kvs) t) (hz : tfD kvs z = some p) (ht : t = cs z ++ r) (hl : t.length ≤ 1000) (lt : ∀ c ∈ t, lett c = true) : Shw (dBes (frontW L t) (frontD (tfD kvs) L t) (lossD (tfD kvs) L z t)) 3 40000 := by
  have fm := form_text (L := L) G l1 o hz ht hl
  refine shw_bes (by rw [frontW_len]; omega) (fun c hc => lt c (frontW_mem hc)) (by rw [frontD_len]; omega) (fun d hd => ?_) (by rw [lossD_len]; omega) (fun d hd => ?_)
  · have := front_small (L := L) G o d hd
    exact Nat.lt_of_le_of_lt (by omega : d.natAbs ≤ 1000000) (by decide +kernel)
  · exact Nat.lt_of_lt_of_le (of_decide_eq_true (fm.int d hd)) (by decide +kernel)
theorem arg_told {H : Hp} {a : Addr} (G : Good (tfD kvs)) (W : Wide (tfD kvs) L) (l1 : 1 ≤ L) (o : Over (tfD kvs) t) (hz : tfD kvs z = some p) (ht : t = cs z ++ r) (hl : t.length ≤ 1000) (lt : ∀ c ∈ t, lett c = true) (b : BesAt H a (frontW L t) (frontD (tfD kvs) L t) (lossD (tfD kvs) L z t)) :
    BesArg H a kvs (frontW L t) (frontD (tfD kvs) L t) (lossD (tfD kvs) L z t) L where
  at_ := b
  wd := W
  ov := fun c hc => o c (frontW_mem hc)
  ln := by rw [frontW_len]; omega
  dl := by rw [frontW_len, frontD_len]
  lt := fun c hc => lt c (frontW_mem hc)
  di := fun d hd => isI_of (by
    have := front_small (L := L) G o d hd
    exact Nat.lt_of_le_of_lt (by omega : d.natAbs ≤ 1000000) (by decide +kernel))
  fm := form_text G l1 o hz ht hl
theorem told_next {H : Hp} {a : Addr} (G : Good (tfD kvs)) (W : Wide (tfD kvs) L) (l1 : 1 ≤ L) (o : Over (tfD kvs) (t ++ [c])) (hz : tfD kvs z = some p) (ht : t = cs z ++ r) (st : StepR (tfD kvs) (frontW L t) (frontD (tfD kvs) L t) c n) (bt : BesR (tfD kvs) (frontW L t) (frontD (tfD kvs) L t) (lossD (tfD kvs) L z t) c m)
    (b : BesAt H a (stepW L (frontW L t) c) (stepD L (frontW L t) (frontD (tfD kvs) L t) c n) (besL (lossD (tfD kvs) L z t) m n)) : BesAt H a (frontW L (t ++ [c])) (frontD (tfD kvs) L (t ++ [c])) (lossD (tfD kvs) L z (t ++ [c])) := by
  have en := st.uniq (front_change G W o)
  have em := bt.uniq (bes_text G W o hz ht)
  subst en em
  rw [front_stepW l1, front_stepD l1, bes_next G l1 hz ht] at b
  exact b
theorem shw_wild {H : Hp} {s : Addr} (G : Good (tfD kvs)) (L5 : L ≤ 5) (l1 : 1 ≤ L) (b : BesArg H s kvs l ds ls L) (lc : lett c = true) (st : StepR (tfD kvs) l ds c n) (bt : BesR (tfD kvs) l ds ls c m) (hd : ∀ x ∈ ds, x.natAbs < 10 ^ 60) (hs : ∀ x ∈ ls, x.natAbs < 10 ^ 60) :
    Shw (dBes (stepW L l c) (stepD L l ds c n) (besL ls m n)) 3 40000 := by
  have hd' : ∀ x ∈ ds, x.natAbs ≤ 10 ^ 60 := fun x h => Nat.le_of_lt (hd x h)
  have hs' : ∀ x ∈ ls, x.natAbs ≤ 10 ^ 60 := fun x h => Nat.le_of_lt (hs x h)
  have mb := stepR_small G st hd'
  have db := stepD_small (L := L) (l := l) (c := c) mb hd'
  have bb := besR_small G bt hd' hs'
  have lb := besL_small bb mb hs'
  have swl := stepW_len (L := L) (l := l) (c := c)
  have sdl := stepD_len (L := L) (l := l) (ds := ds) (c := c) (m := n)
  have ll := b.fm.len
  refine shw_bes (by omega) (fun d hd => ?_) (by omega) (fun d hd => Nat.lt_of_le_of_lt (db d hd) (by decide +kernel)) (by unfold besL; rw [List.length_cons, List.length_dropLast]; omega) (fun d hd => Nat.lt_of_le_of_lt (lb d hd) (by decide +kernel))
  rcases stepW_mem hd with h | rfl
  · exact b.lt d h
  · exact lc
end
end G
/-! The two books that the law of fronts writes down. -/
namespace G
open PySem PySem.Spec PyProof.Rows L2
def eightK : List (Key × V) := [(.inr (sOf [120]), .int 1), (.inr (sOf [97]), .int 9), (.inr (sOf [120, 97]), .int 1), (.inr (sOf [97, 97]), .int 1), (.inr (sOf [97, 120]), .int 1)]
def abbaK : List (Key × V) := [(.inr (sOf [97]), .int 1), (.inr (sOf [98]), .int 1), (.inr (sOf [97, 98]), .int 1), (.inr (sOf [98, 98, 97]), .int 1)]
theorem eight_av : arePrices eightK = true := by decide +kernel
theorem eight_nd : (eightK.map (·.1)).Nodup := by decide +kernel
theorem eight_wd : Wide (tfD eightK) 2 := wide_ps eight_nd (by decide +kernel) (by decide +kernel)
theorem eight_good : Good (tfD eightK) := (tar_of eight_av eight_nd).good
theorem abba_av : arePrices abbaK = true := by decide +kernel
theorem abba_nd : (abbaK.map (·.1)).Nodup := by decide +kernel
theorem abba_wd : Wide (tfD abbaK) 3 := wide_ps abba_nd (by decide +kernel) (by decide +kernel)
theorem abba_good : Good (tfD abbaK) := (tar_of abba_av abba_nd).good
def texts8 : List (List Nat) := [[], [120], [120, 97], [120, 97, 97], [120, 97, 97, 120], List.replicate 40 120, List.replicate 41 97]
def fronts8 : List (List Nat × List Int) := [([], []), ([120], [-1]), ([97], [0]), ([97], [-1]), ([120], [0]), ([120], [-1]), ([97], [-9])]
theorem runs8 : texts8.map (fun t => runF (psK eightK) 2 t [] []) = fronts8.map some := by decide +kernel
theorem over8 : ∀ t ∈ texts8, Over (tfD eightK) t ∧ t.length ≤ 100 ∧ ∀ c ∈ t, lett c = true := fun t ht => by
  have h1 : (texts8.all fun t => (t.all fun c => (psK eightK).any fun q => decide (q.1 = [c])) && decide (t.length ≤ 100) && t.all lett) = true := by decide +kernel
  have h2 := List.all_eq_true.mp h1 t ht
  rw [Bool.and_eq_true, Bool.and_eq_true] at h2
  exact ⟨over_ps eight_nd h2.1.1, of_decide_eq_true h2.1.2, List.all_eq_true.mp h2.2⟩
theorem front8 {i : Nat} {t : List Nat} (h : texts8[i]? = some t) : ∃ f, fronts8[i]? = some f ∧ frontW 2 t = f.1 ∧ frontD (tfD eightK) 2 t = f.2 := by
  have e := congrArg (fun l => l[i]?) runs8
  rw [List.getElem?_map, List.getElem?_map, h] at e
  cases hf : fronts8[i]? with
  | none =>
    rw [hf] at e
    cases e
  | some f =>
    rw [hf] at e
    have e1 : runF (psK eightK) 2 t [] [] = some f := Option.some.inj e
    exact ⟨f, rfl, run_all eight_nd eight_good eight_wd (by decide) (over8 t (List.mem_of_getElem? h)).1 (w' := f.1) (d' := f.2) e1⟩
theorem abba_front (n : Nat) : frontW 3 (List.replicate (n + 1) [97, 98]).flatten = [97, 98] ∧ frontD (tfD abbaK) 3 (List.replicate (n + 1) [97, 98]).flatten = [0, -1] :=
  run_round abba_nd abba_good abba_wd (by decide) (over_ps abba_nd (by decide +kernel)) (by decide +kernel) (by decide +kernel) n
theorem step_given {H : Hp} {t : Addr} {kvs : List (Key × V)} {L c : Nat} {w w' : List Nat} {d d' : List Int} {m m0 : Int} (nd : (kvs.map (·.1)).Nodup) (h1 : minI (candF (psK kvs) w d c) = some m) (h2 : stepW L w c = w') (h3 : stepD L w d c m = d')
    (st : StepR (tfD kvs) w d c m0) (sa : StepAt H t (stepW L w c) (stepD L w d c m0) m0) : StepAt H t w' d' m := by
  have e := st.uniq (step_of nd h1)
  subst e
  rwa [h2, h3] at sa
theorem rNeD_same {K : PySem.W.Frag} {H : Hp} {x y : V} {d : PyData} {Q : VK} (hx : Dp K H x d) (hy : Dp K H y d) (s : SeqAt.shaped d = true) (q : Q (.bl false) H) : rNeD K x y H Q := by
  refine ⟨d, d, hx, hy, s, s, ?_⟩
  rw [SeqAt.eqv_refl _ (SeqAt.canLay_of_shaped s)]
  exact q
theorem rEqD_same {K : PySem.W.Frag} {H : Hp} {x y : V} {d : PyData} {Q : VK} (hx : Dp K H x d) (hy : Dp K H y d) (s : SeqAt.shaped d = true) (q : Q (.bl true) H) : rEqD K x y H Q := by
  refine ⟨d, d, hx, hy, s, s, ?_⟩
  rw [SeqAt.eqv_refl _ (SeqAt.canLay_of_shaped s)]
  exact q
theorem dpAll_fronts {K : PySem.W.Frag} {H : Hp} : ∀ {ts : List Addr} {fs : List (List Nat × List Int)}, ts.length = fs.length → (∀ (i : Nat) (t : Addr) (f : List Nat × List Int), ts[i]? = some t → fs[i]? = some f → FrontAt H t f.1 f.2) → DpAll K H (ts.map V.ref) (fs.map fun f => dFront f.1 f.2)
  | [], [], _, _ => .nil
  | [], _ :: _, h, _ => by cases h
  | _ :: _, [], h, _ => by cases h
  | t :: r, f :: g, h, k => .cons (dp_front (k 0 t f rfl rfl)) (dpAll_fronts (Nat.succ.inj h) fun i u v hu hv => k (i + 1) u v hu hv)
theorem ten59 : (10 : Int) ^ (59 : Int).toNat = 100000000000000000000000000000000000000000000000000000000000 := by decide +kernel
theorem shaped8 : SeqAt.shaped (.list (fronts8.map fun f => dFront f.1 f.2)) = true := by decide +kernel
theorem shapedS : SeqAt.shaped (dStep [97] [-9] 9) = true ∧ SeqAt.shaped (dStep [97] [8] (-8)) = true ∧ SeqAt.shaped (dFront [97, 98] [0, -1]) = true ∧
    SeqAt.shaped (.list [dStep [97] [-9] 9, dStep [97] [99999999999999999999999999999999999999999999999999999999999] (-99999999999999999999999999999999999999999999999999999999999)]) = true := by decide +kernel
theorem litX : Str.ofString "x" = sOf [120] ∧ Str.ofString "a" = sOf [97] ∧ Str.ofString "b" = sOf [98] ∧ Str.ofString "xa" = sOf [120, 97] ∧ Str.ofString "aa" = sOf [97, 97] ∧ Str.ofString "ax" = sOf [97, 120] ∧ Str.ofString "ab" = sOf [97, 98] ∧ Str.ofString "bba" = sOf [98, 98, 97] ∧
    Str.ofString "" = sOf [] ∧ Str.ofString "xaa" = sOf [120, 97, 97] ∧ Str.ofString "xaax" = sOf [120, 97, 97, 120] := by decide +kernel
theorem reps8 : sRep (sOf [120]) (40 : Int).toNat = sOf (List.replicate 40 120) ∧ sRep (sOf [97]) (41 : Int).toNat = sOf (List.replicate 41 97) := by decide +kernel
theorem FrontAt.updL {H : Hp} {t D : Addr} {w : List Nat} {d : List Int} {ys : List V} {o : HO} (f : FrontAt H t w d) (h : H D = some (.lst ys)) : FrontAt (upd H D o) t w d := by
  obtain ⟨td, h1, h2⟩ := f
  have n1 : t ≠ D := fun e => by
    rw [e, h] at h1
    cases h1
  have n2 : td ≠ D := fun e => by
    rw [e, h] at h2
    cases h2
  exact ⟨td, by rw [upd_ne n1]; exact h1, by rw [upd_ne n2]; exact h2⟩
theorem o97 : Over (tfD eightK) [97] := over_ps eight_nd (by decide +kernel)
theorem o120 : Over (tfD eightK) [120] := over_ps eight_nd (by decide +kernel)
theorem fa8 {C b t : Addr} {H : Hp} {c : Nat} {i : Int} (B : Book1 C H b eightK) (f : FrontAt H t [c] [i]) (o : Over (tfD eightK) [c]) (hc : lett c = true) (hi : isInteger (.int i) = true) : FrontArg C H b t eightK [c] [i] 2 :=
  ⟨B, f, eight_wd, o, Nat.lt_succ_self 1, rfl, fun x hx => by rw [List.mem_singleton.mp hx]; exact hc, fun x hx => by rw [List.mem_singleton.mp hx]; exact hi⟩
theorem StepAt.same {H H' : Hp} {t : Addr} {w : List Nat} {d : List Int} {m : Int} (f : StepAt H t w d m) (s : Same H H') : StepAt H' t w d m := by
  obtain ⟨u, h1, h2⟩ := f
  exact ⟨u, s _ _ h1, h2.same s⟩
end G
/-! The two books that the law of besides writes down. -/
namespace G
open PySem PySem.Spec PyProof.Rows L2
/-- the cheapest price, worked out sign by sign -/
def runC (ps : List (List Nat × Int)) (L : Nat) : List Nat → List Nat → List Int → Int → Option Int
  | [], _, _, a => some a
  | c :: r, w, d, a => match minI (candF ps w d c) with
    | none => none
    | some m => runC ps L r (stepW L w c) (stepD L w d c m) (a + m)
theorem run_cost {kvs : List (Key × V)} (nd : (kvs.map (·.1)).Nodup) (G : Good (tfD kvs)) {L : Nat} (W : Wide (tfD kvs) L) (hL : 1 ≤ L) : ∀ {r l w : List Nat} {d : List Int} {a b : Int}, Over (tfD kvs) (l ++ r) → frontW L l = w → frontD (tfD kvs) L l = d → lp (tfD kvs) l = a →
    runC (psK kvs) L r w d a = some b → lp (tfD kvs) (l ++ r) = b
  | [], l, w, d, a, b, _, hw, hd, ha, h => by
    have e : a = b := Option.some.inj h
    rw [List.append_nil, ha, e]
  | c :: r, l, w, d, a, b, o, hw, hd, ha, h => by
    unfold runC at h
    split at h
    · cases h
    · rename_i m e
      have st := step_of nd e
      have o1 : Over (tfD kvs) (l ++ [c]) := fun x hx => o x (by
        rcases List.mem_append.mp hx with h | h
        · exact List.mem_append_left _ h
        · rw [List.mem_singleton.mp h]
          exact List.mem_append_right _ List.mem_cons_self)
      have fc := front_change G W o1
      have em : m = lp (tfD kvs) (l ++ [c]) - lp (tfD kvs) l := (show StepR (tfD kvs) (frontW L l) (frontD (tfD kvs) L l) c m by rw [hw, hd]; exact st).uniq fc
      have e2 : l ++ c :: r = (l ++ [c]) ++ r := by rw [List.append_assoc]; rfl
      rw [e2]
      refine run_cost nd G W hL (by rw [← e2]; exact o) ?_ ?_ ?_ h
      · rw [← hw, front_stepW hL]
      · rw [← hw, ← hd, em, front_stepD hL]
      · rw [em, ha]
        omega
theorem cost_of {kvs : List (Key × V)} (nd : (kvs.map (·.1)).Nodup) (G : Good (tfD kvs)) {L : Nat} (W : Wide (tfD kvs) L) (hL : 1 ≤ L) {r : List Nat} {b : Int} (o : Over (tfD kvs) r) (h : runC (psK kvs) L r [] [] 0 = some b) : lp (tfD kvs) r = b :=
  run_cost nd G W hL (l := []) (w := []) (d := []) (a := 0) o (by unfold frontW; exact List.drop_nil) (by unfold frontD; rw [List.length_nil, Nat.min_zero]; rfl) (lp_nil G) h
def lossOk (ps : List (List Nat × Int)) (L : Nat) (p : Int) (r t : List Nat) (ls : List Int) : Bool := decide (ls.length = L) && (List.range L).all fun i =>
  if i ≤ r.length then (match runC ps L (r.take (r.length - i)) [] [] 0, runC ps L (t.take (t.length - i)) [] [] 0 with
    | some a, some b => decide (ls[i]? = some (p + a - b))
    | _, _ => false) else decide (ls[i]? = some (-1))
theorem loss_c {kvs : List (Key × V)} (nd : (kvs.map (·.1)).Nodup) (G : Good (tfD kvs)) {L : Nat} (W : Wide (tfD kvs) L) (hL : 1 ≤ L) {z : Str} {p : Int} {r t : List Nat} {ls : List Int} (o : Over (tfD kvs) t) (hz : tfD kvs z = some p) (ht : t = cs z ++ r) (h : lossOk (psK kvs) L p r t ls = true) :
    lossD (tfD kvs) L z t = ls := by
  unfold lossOk at h
  rw [Bool.and_eq_true] at h
  have hl : ls.length = L := of_decide_eq_true h.1
  have or : Over (tfD kvs) r := fun c hc => o c (by rw [ht]; exact List.mem_append_right _ hc)
  rw [lossD_eq hz ht]
  refine List.ext_getElem? fun i => ?_
  by_cases g : i < L
  · have hi := List.all_eq_true.mp h.2 i (List.mem_range.mpr g)
    rw [List.getElem?_map, List.getElem?_range g]
    show some (lossE (tfD kvs) p r t i) = _
    unfold lossE
    by_cases q : i ≤ r.length
    · rw [if_pos q] at hi ⊢
      split at hi
      · rename_i a b ea eb
        rw [of_decide_eq_true hi, cost_of nd G W hL (or.take _) ea, cost_of nd G W hL (o.take _) eb]
      · cases hi
    · rw [if_neg q] at hi ⊢
      exact (of_decide_eq_true hi).symm
  · rw [List.getElem?_eq_none (by rw [List.length_map, List.length_range]; omega), List.getElem?_eq_none (by omega)]
def loneK : List (Key × V) := [(.inr (sOf [113]), .int 7)]
theorem lone_av : arePrices loneK = true := by decide +kernel
theorem lone_nd : (loneK.map (·.1)).Nodup := by decide +kernel
theorem lone_wd : Wide (tfD loneK) 1 := wide_ps lone_nd (by decide +kernel) (by decide +kernel)
theorem lone_good : Good (tfD loneK) := (tar_of lone_av lone_nd).good
theorem ab_tf : tfD abbaK (sOf [97, 98]) = some 1 := (ps_tf abba_nd).mpr (by rw [cs_sOf]; decide +kernel)
theorem b_tf : tfD abbaK (sOf [98]) = some 1 := (ps_tf abba_nd).mpr (by rw [cs_sOf]; decide +kernel)
theorem q_tf : tfD loneK (sOf [113]) = some 7 := (ps_tf lone_nd).mpr (by rw [cs_sOf]; decide +kernel)
theorem o_abba : Over (tfD abbaK) [97, 98, 98, 97] := over_ps abba_nd (by decide +kernel)
theorem o_b : Over (tfD abbaK) [98] := over_ps abba_nd (by decide +kernel)
theorem o_bb : Over (tfD abbaK) [98, 98] := over_ps abba_nd (by decide +kernel)
theorem o_qq : Over (tfD loneK) [113, 113] := over_ps lone_nd (by decide +kernel)
theorem bes_given {kvs : List (Key × V)} (nd : (kvs.map (·.1)).Nodup) (G : Good (tfD kvs)) {L : Nat} (W : Wide (tfD kvs) L) (hL : 1 ≤ L) {H : Hp} {a : Addr} {z : Str} {p : Int} {r t w : List Nat} {ds ls : List Int} (o : Over (tfD kvs) t) (hz : tfD kvs z = some p) (ht : t = cs z ++ r)
    (h1 : runF (psK kvs) L t [] [] = some (w, ds)) (h2 : lossOk (psK kvs) L p r t ls = true) {M : Nat} (wM : Wide (tfD kvs) M) (b : BesAt H a (frontW M t) (frontD (tfD kvs) M t) (lossD (tfD kvs) M z t)) : BesAt H a w ds ls := by
  have e := wM.uniq W
  subst e
  obtain ⟨e1, e2⟩ := run_all nd G W hL o h1
  rw [e1, e2, loss_c nd G W hL o hz ht h2] at b
  exact b
theorem bes1 {H : Hp} {a : Addr} {M : Nat} (wM : Wide (tfD abbaK) M) (b : BesAt H a (frontW M [97, 98, 98, 97]) (frontD (tfD abbaK) M [97, 98, 98, 97]) (lossD (tfD abbaK) M (sOf [97, 98]) [97, 98, 98, 97])) : BesAt H a [98, 97] [0, -1] [1, 0, 0] :=
  bes_given abba_nd abba_good abba_wd (by decide) (r := [98, 97]) o_abba ab_tf (by rw [cs_sOf]; rfl) (by decide +kernel) (by decide +kernel) wM b
theorem bes2 {H : Hp} {a : Addr} {M : Nat} (wM : Wide (tfD loneK) M) (b : BesAt H a (frontW M [113, 113]) (frontD (tfD loneK) M [113, 113]) (lossD (tfD loneK) M (sOf [113]) [113, 113])) : BesAt H a [] [] [0] :=
  bes_given lone_nd lone_good lone_wd (by decide) (r := [113]) o_qq q_tf (by rw [cs_sOf]; rfl) (by decide +kernel) (by decide +kernel) wM b
theorem bes3 {H : Hp} {a : Addr} {M : Nat} (wM : Wide (tfD abbaK) M) (b : BesAt H a (frontW M [98]) (frontD (tfD abbaK) M [98]) (lossD (tfD abbaK) M (sOf [98]) [98])) : BesAt H a [98] [-1] [0, -1, -1] :=
  bes_given abba_nd abba_good abba_wd (by decide) (r := []) o_b b_tf (by rw [cs_sOf]; rfl) (by decide +kernel) (by decide +kernel) wM b
theorem bes4 {H : Hp} {a : Addr} {M : Nat} (wM : Wide (tfD abbaK) M) (b : BesAt H a (frontW M [98, 98]) (frontD (tfD abbaK) M [98, 98]) (lossD (tfD abbaK) M (sOf [98]) [98, 98])) : BesAt H a [98, 98] [-1, -2] [0, 0, -1] :=
  bes_given abba_nd abba_good abba_wd (by decide) (r := [98]) o_bb b_tf (by rw [cs_sOf]; rfl) (by decide +kernel) (by decide +kernel) wM b
theorem shapedB : SeqAt.shaped (dBes [98, 97] [0, -1] [1, 0, 0]) = true ∧ SeqAt.shaped (dBes [] [] [0]) = true ∧ SeqAt.shaped (dBes [98] [-1] [0, -1, -1]) = true ∧ SeqAt.shaped (dBes [98, 98] [-1, -2] [0, 0, -1]) = true := by decide +kernel
theorem litB : Str.ofString "a" = sOf [97] ∧ Str.ofString "b" = sOf [98] ∧ Str.ofString "ab" = sOf [97, 98] ∧ Str.ofString "bba" = sOf [98, 98, 97] ∧ Str.ofString "q" = sOf [113] ∧ Str.ofString "abba" = sOf [97, 98, 98, 97] ∧ Str.ofString "ba" = sOf [98, 97] ∧ Str.ofString "qq" = sOf [113, 113] ∧
    Str.ofString "" = sOf [] ∧ Str.ofString "bb" = sOf [98, 98] := by decide +kernel
/-- a beside that is written down -/
theorem bes_made {H : Hp} {u v w x : Addr} {l : List Nat} {ds ls : List Int} {us ws : List V} (hu : H u = none) (hv : (upd H u (.tup us)) v = none) (hw : (upd (upd H u (.tup us)) v (.tup [.str (sOf l), .ref u])) w = none)
    (hx : (upd (upd (upd H u (.tup us)) v (.tup [.str (sOf l), .ref u])) w (.tup ws)) x = none) (eu : us = ds.map V.int) (ew : ws = ls.map V.int) :
    BesAt (upd (upd (upd (upd H u (.tup us)) v (.tup [.str (sOf l), .ref u])) w (.tup ws)) x (.tup [.ref v, .ref w])) x l ds ls ∧ Same H (upd (upd (upd (upd H u (.tup us)) v (.tup [.str (sOf l), .ref u])) w (.tup ws)) x (.tup [.ref v, .ref w])) := by
  subst eu ew
  exact ⟨⟨v, w, upd_same, ⟨u, same_new hx _ _ (same_new hw _ _ upd_same), same_new hx _ _ (same_new hw _ _ (same_new hv _ _ upd_same))⟩, same_new hx _ _ upd_same⟩, (((same_new hu).trans (same_new hv)).trans (same_new hw)).trans (same_new hx)⟩
theorem letters_B : (∀ c ∈ [97, 98, 98, 97], lett c = true) ∧ (∀ c ∈ [113, 113], lett c = true) ∧ (∀ c ∈ [98], lett c = true) := by decide +kernel
end G
namespace K45
open PySem PySem.Spec PyProof.Rows L2 G
open L2 (St)

def top (i : Nat) : Stmt := PySem.Challenge.pw_cutbehind_k45_besides.main.body.getD i (.Pass ⟨0, 0, 0, 0⟩)
abbrev s_is_integer : Stmt := top 4
abbrev s_is_word : Stmt := top 6
abbrev s_is_text : Stmt := top 7
abbrev s_is_piece : Stmt := top 8
abbrev s_is_integer_within : Stmt := top 5
abbrev s_is_price : Stmt := top 21
abbrev s_are_prices : Stmt := top 22
abbrev s_Book___init__ : Stmt := inClass (top 30) 0
abbrev s_prices_along : Stmt := top 32
abbrev s_require_book : Stmt := top 26
abbrev s_is_text_over : Stmt := top 25
abbrev s_require_text : Stmt := top 27
abbrev s_Book_accepts : Stmt := inClass (top 30) 7
abbrev s_front_in : Stmt := top 34
abbrev s_step_in : Stmt := top 35
abbrev s_has_front_form : Stmt := top 36
abbrev s_require_sign : Stmt := top 37
abbrev s_Book___contains__ : Stmt := inClass (top 30) 11
abbrev s__law_reel_of : Stmt := top 46
abbrev s__law_spin : Stmt := top 47
abbrev s__law_pick : Stmt := top 48
abbrev s__law_mixed : Stmt := top 49
abbrev s__law_letters : Stmt := top 50
abbrev s__law_drawn_text : Stmt := top 51
abbrev s__law_drawn_book : Stmt := top 52
abbrev s__law_signs_of : Stmt := top 53
abbrev s__law_wide_of : Stmt := top 54
abbrev s__law_starting : Stmt := top 55
abbrev s__law_prices_along : Stmt := top 56
abbrev s__law_state_of : Stmt := top 57
abbrev s__law_beside_of : Stmt := top 58
abbrev s__law_due_of : Stmt := top 60
abbrev s__law_next : Stmt := top 59
abbrev s_beside_in : Stmt := top 39
abbrev s_step_beside : Stmt := top 40
abbrev s_has_beside_form : Stmt := top 42
abbrev s_require_begun : Stmt := top 41
abbrev s_beside_of : Stmt := top 43
abbrev s_next_beside : Stmt := top 44
abbrev s__law_large : Stmt := top 61
abbrev s__law_wild : Stmt := top 62
abbrev s__law_right : Stmt := top 63
abbrev s_law : Stmt := top 64
structure Txt (K : PySem.W.Frag) (mg : Str → Option Value) (C : Addr) : Prop where
  cl : Cls K C
  ic : C8.InsC K C
  n_own_prices : NoAttr K C "own_prices"
  n_own_pieces : NoAttr K C "own_pieces"
  n_own_alphabet : NoAttr K C "own_alphabet"
  n_own_longest : NoAttr K C "own_longest"
  n_own_dearest : NoAttr K C "own_dearest"
  gC : mg "Book" = some (.ref C)
  b_abs : mg "abs" = none
  b_all : mg "all" = none
  b_bool : mg "bool" = none
  b_dict : mg "dict" = none
  b_int : mg "int" = none
  b_isinstance : mg "isinstance" = none
  b_len : mg "len" = none
  b_list : mg "list" = none
  b_max : mg "max" = none
  b_min : mg "min" = none
  b_range : mg "range" = none
  b_repr : mg "repr" = none
  b_sorted : mg "sorted" = none
  b_str : mg "str" = none
  b_tuple : mg "tuple" = none
  g_MAX_ALPHABET : ∃ t, mg "MAX_ALPHABET" = some (.int 4 t)
  g_MAX_PIECES : ∃ t, mg "MAX_PIECES" = some (.int 12 t)
  g_MAX_PRICE : ∃ t, mg "MAX_PRICE" = some (.int 99 t)
  g_PIECE_SIGNS : ∃ t, mg "PIECE_SIGNS" = some (.int 5 t)
  g_TEXT_SIGNS : ∃ t, mg "TEXT_SIGNS" = some (.int 8000 t)

section
variable {P : Program} {w : World} {K : PySem.W.Frag} {mg : Str → Option Value} {base : Heap} {C : Addr}
theorem sc_is_integer : FnScope ["value"] ["value"] (defScope s_is_integer) := ⟨rfl, rfl, rfl, by decide +kernel, rfl, by decide +kernel, by decide +kernel⟩
theorem ok_is_integer {f : Addr} {fd : FuncData} (F : Fun K "is_integer" "is_integer" s_is_integer f fd) (T : Txt K mg C) : FnOk P w K mg base CX0 1 f fd ["value"] (spIsI K isInteger) := by
  refine F.ok sc_is_integer (fun vs H Q E h => ?_) (fun cdv A outer s H vs Q E hr h => ?_)
  · obtain ⟨x, rfl, _⟩ := h
    rfl
  · have hu := hu_of hr
    obtain ⟨x, rfl, ty, k⟩ := h
    obtain ⟨t, ht, hs, hi, hb⟩ := id ty
    have k0 := k H (Same.refl H)
    refine ⟨_, (pss_cons (ps_if (PW.pt (pw_or (pt_val (pe_callB (g_isi K) (by rfl) T.b_isinstance (by decide +kernel) (pa_cons (pv 0) (pa_cons (pe_bltn (v := .ty "bool") rfl T.b_bool (by decide +kernel) rfl) pa_nil)))) (pw_or1 (pt_not (pt_val (pe_callB (g_isi K) (by rfl) T.b_isinstance (by decide +kernel) (pa_cons (pv 0) (pa_cons (pe_bltn (v := .ty "int") rfl T.b_int (by decide +kernel) rfl) pa_nil)))))))) (pss_one (ps_ret pe_bl)) pss_nil)
      (pss_one (ps_ret (pe_cmpR op_lt (pe_callB call_abs (by rfl) T.b_abs (by decide +kernel) (pa_cons (pv 0) pa_nil)) (pe_op op_powW pe_int pe_int) (nomark _))))), ?_⟩
    cases x with
    | bl b =>
      refine ⟨_, rfl, _, _, _, _, _, rfl, .ty _, ht, hb, _, rfl, ?_⟩
      exact k0
    | int i =>
      refine ⟨_, rfl, _, _, _, _, _, rfl, .ty _, ht, hb, _, rfl, ?_⟩
      refine ⟨_, rfl, _, _, _, _, _, rfl, .ty _, ht, hi, _, rfl, ?_⟩
      refine ⟨_, rfl, _, rfl, _, _, rfl, rfl, ⟨by decide, by decide +kernel⟩, _, _, rfl, rfl, ?_⟩
      have e : decide ((if i < 0 then -i else i) < (10 : Int) ^ (60 : Int).toNat) = isInteger (.int i) := abs_lt i
      rw [← e] at k0
      exact k0
    | _ =>
      refine ⟨_, rfl, _, _, _, _, _, rfl, .ty _, ht, hb, _, rfl, ?_⟩
      refine ⟨_, rfl, _, _, _, _, _, rfl, .ty _, ht, hi, _, rfl, ?_⟩
      exact k0
theorem sc_is_word : FnScope ["value", "letter"] ["value"] (defScope s_is_word) := ⟨rfl, rfl, rfl, by decide +kernel, rfl, by decide +kernel, by decide +kernel⟩
theorem ok_is_word {f : Addr} {fd : FuncData} (F : Fun K "is_word" "is_word" s_is_word f fd) (T : Txt K mg C) : FnOk P w K mg base CX0 1 f fd ["value"] (spIs K isWord) := by
  refine F.ok sc_is_word (fun vs H Q E h => ?_) (fun cdv A outer s H vs Q E hr h => ?_)
  · obtain ⟨x, rfl, _⟩ := h
    rfl
  · have hu := hu_of hr
    obtain ⟨x, rfl, ty, sz, k⟩ := h
    obtain ⟨t, ht, hs, hi, hb⟩ := id ty
    have k0 := k H (Same.refl H)
    refine ⟨_, (pss_one (ps_ret (pe_and (pe_callB (g_isi K) (by rfl) T.b_isinstance (by decide +kernel) (pa_cons (pv 0) (pa_cons (pe_bltn (v := .ty "str") rfl T.b_str (by decide +kernel) rfl) pa_nil))) (pe_and (pe_cmpR op_ne (pv 0) pe_str (nomark _)) (pe_one (pe_callB (g_all K rfl) (by rfl) T.b_all (by decide +kernel) (pa_cons (pe_lc (own := [("letter", 1)]) rfl sc_is_word.nd (pi_str (pv 0)) (blkOk_by (own := [("letter", 1)]) (N := ["value", "letter"]) (sc := defScope s_is_word) (by decide +kernel)) (fun _ _ _ _ _ => (pg_name (i := 1) sc_is_word.nd rfl (Or.inl rfl))) (fun _ _ _ _ _ => pts_nil) (fun _ _ _ _ _ => (pe_chain op_le_str op_le_str pe_str (pv 1) pe_str))) pa_nil))))))), ?_⟩
    cases x with
    | str z =>
      have sz' : z.length ≤ sizeLine := fits_sz sz
      refine ⟨_, rfl, _, _, _, _, _, rfl, .ty _, ht, hs, _, rfl, ?_⟩
      refine ⟨_, rfl, rfl, _, rfl, ?_⟩
      rw [v_str_ne]
      refine itB (fun e1 => ?_) (fun e1 => ?_)
      · refine ⟨_, rfl, _, rfl, fun D hD => ?_⟩
        refine lcp_str (fun c => .bl (lett c)) sz' (fun c acc N hc hN => ?_) ?_
        · refine ⟨_, rfl, _, _, rfl, rfl, _, rfl, ?_⟩
          show if (!decide (([c] : List Nat) < [97])) = true then _ else _
          rw [(lett_eq c).1]
          refine itB (fun e2 => ?_) (fun e2 => ?_)
          · refine ⟨_, _, rfl, rfl, ?_⟩
            show N (.bl (!decide (([122] : List Nat) < [c]))) _
            rw [(lett_eq c).2, ← lett_of e2]
            exact hN
          · rw [lett_no e2] at hN
            exact hN
        · refine ⟨_, (cs z).map lett, rfl, SqL.of (by rw [upd_same, List.map_map]; rfl), ?_⟩
          have e4 : ((cs z).map lett).all id = isWord (.str z) := by
            show _ = (!(cs z).isEmpty && (cs z).all lett)
            rw [e1, List.all_map]
            rfl
          rw [e4]
          exact k _ (same_new hD)
      · have e4 : isWord (.str z) = false := by
          show (!(cs z).isEmpty && (cs z).all lett) = false
          rw [e1]
          rfl
        rw [e4] at k0
        exact k0
    | _ =>
      refine ⟨_, rfl, _, _, _, _, _, rfl, .ty _, ht, hs, _, rfl, ?_⟩
      exact k0
theorem sc_is_text : FnScope ["value"] ["value"] (defScope s_is_text) := ⟨rfl, rfl, rfl, by decide +kernel, rfl, by decide +kernel, by decide +kernel⟩
theorem ok_is_text {f : Addr} {fd : FuncData} (F : Fun K "is_text" "is_text" s_is_text f fd) (T : Txt K mg C) (c_is_word : HasO P w K mg base CX0 1 "is_word" ["value"] (spIs K isWord)) : FnOk P w K mg base CX0 2 f fd ["value"] (spIs K isText) := by
  refine F.ok sc_is_text (fun vs H Q E h => ?_) (fun cdv A outer s H vs Q E hr h => ?_)
  · obtain ⟨x, rfl, _⟩ := h
    rfl
  · have hu := hu_of hr
    obtain ⟨x, rfl, ty, sz, k⟩ := h
    obtain ⟨t, ht, hs, hi, hb⟩ := id ty
    have k0 := k H (Same.refl H)
    refine ⟨_, (pss_cons (ps_if (PW.pt (pw_or (pt_not (pt_val (pe_callB (g_isi K) (by rfl) T.b_isinstance (by decide +kernel) (pa_cons (pv 0) (pa_cons (pe_bltn (v := .ty "str") rfl T.b_str (by decide +kernel) rfl) pa_nil))))) (pw_or1 (pt_cmpR op_gt (pe_callB call_len_str (by rfl) T.b_len (by decide +kernel) (pa_cons (pv 0) pa_nil)) (pe_glob (v := .int 8000) rfl T.g_TEXT_SIGNS.choose_spec ⟨_, rfl⟩) (nomark _))))) (pss_one (ps_ret pe_bl)) pss_nil)
      (pss_one (ps_ret (pe_or (pe_cmpR op_eq (pv 0) pe_str (nomark _)) (pe_one (pe_hasO c_is_word (hr.mono (by decide)) pass0 (pa_cons (pv 0) pa_nil))))))), ?_⟩
    cases x with
    | str z =>
      have sz' : z.length ≤ sizeLine := fits_sz sz
      refine ⟨_, rfl, _, _, _, _, _, rfl, .ty _, ht, hs, _, rfl, ?_⟩
      refine ⟨_, rfl, _, rfl, sz', _, _, rfl, rfl, _, rfl, ?_⟩
      refine itB (fun e1 => ?_) (fun e1 => ?_)
      · have e2 := of_decide_eq_true e1
        have e4 : isText (.str z) = false := by
          show (decide ((cs z).length ≤ 8000) && (cs z).all lett) = false
          rw [cs_len, decide_eq_false (by omega)]
          rfl
        rw [e4] at k0
        exact k0
      · have e2 := of_decide_eq_false e1
        have e4 : isText (.str z) = (cs z).all lett := by
          show (decide ((cs z).length ≤ 8000) && (cs z).all lett) = _
          rw [cs_len, decide_eq_true (by omega)]
          rfl
        refine ⟨_, rfl, rfl, _, rfl, ?_⟩
        rw [v_str_eq]
        refine itB (fun e3 => ?_) (fun e3 => ?_)
        · have e5 : isText (.str z) = true := by
            rw [e4]
            cases hz : cs z with
            | nil => rfl
            | cons a l =>
              rw [hz] at e3
              cases e3
          rw [e5] at k0
          exact k0
        · refine ⟨_, rfl, _, rfl, ty, sz, fun H' s' => ?_⟩
          have e5 : isWord (.str z) = isText (.str z) := by
            rw [e4]
            show (!(cs z).isEmpty && (cs z).all lett) = _
            rw [e3]
            rfl
          rw [e5]
          exact k _ s'
    | _ =>
      refine ⟨_, rfl, _, _, _, _, _, rfl, .ty _, ht, hs, _, rfl, ?_⟩
      exact k0
theorem sc_is_piece : FnScope ["value"] ["value"] (defScope s_is_piece) := ⟨rfl, rfl, rfl, by decide +kernel, rfl, by decide +kernel, by decide +kernel⟩
theorem ok_is_piece {f : Addr} {fd : FuncData} (F : Fun K "is_piece" "is_piece" s_is_piece f fd) (T : Txt K mg C) (c_is_word : HasO P w K mg base CX0 1 "is_word" ["value"] (spIs K isWord)) : FnOk P w K mg base CX0 2 f fd ["value"] (spIs K isPiece) := by
  refine F.ok sc_is_piece (fun vs H Q E h => ?_) (fun cdv A outer s H vs Q E hr h => ?_)
  · obtain ⟨x, rfl, _⟩ := h
    rfl
  · have hu := hu_of hr
    obtain ⟨x, rfl, ty, sz, k⟩ := h
    obtain ⟨t, ht, hs, hi, hb⟩ := id ty
    have k0 := k H (Same.refl H)
    refine ⟨_, (pss_one (ps_ret (pe_and (pe_callB (g_isi K) (by rfl) T.b_isinstance (by decide +kernel) (pa_cons (pv 0) (pa_cons (pe_bltn (v := .ty "str") rfl T.b_str (by decide +kernel) rfl) pa_nil))) (pe_and (pe_chain op_le op_le pe_int (pe_callB call_len_str (by rfl) T.b_len (by decide +kernel) (pa_cons (pv 0) pa_nil)) (pe_glob (v := .int 5) rfl T.g_PIECE_SIGNS.choose_spec ⟨_, rfl⟩)) (pe_one (pe_hasO c_is_word (hr.mono (by decide)) pass0 (pa_cons (pv 0) pa_nil))))))), ?_⟩
    cases x with
    | str z =>
      have sz' : z.length ≤ sizeLine := fits_sz sz
      refine ⟨_, rfl, _, _, _, _, _, rfl, .ty _, ht, hs, _, rfl, ?_⟩
      refine ⟨_, rfl, _, rfl, sz', _, _, rfl, rfl, _, rfl, ?_⟩
      refine itB (fun e1 => ?_) (fun e1 => ?_)
      · have e1' := of_decide_eq_true e1
        refine ⟨_, _, rfl, rfl, _, rfl, ?_⟩
        refine itB (fun e2 => ?_) (fun e2 => ?_)
        · have e2' := of_decide_eq_true e2
          refine ⟨_, rfl, _, rfl, ty, sz, fun H' s' => ?_⟩
          have e5 : isWord (.str z) = isPiece (.str z) := by
            show (!(cs z).isEmpty && (cs z).all lett) = (decide (1 ≤ (cs z).length) && decide ((cs z).length ≤ 5) && (cs z).all lett)
            rw [cs_len, decide_eq_true (by omega), decide_eq_true (by omega)]
            have : (cs z).isEmpty = false := by
              cases hz : cs z with
              | nil =>
                have := cs_len z
                rw [hz] at this
                simp at this
                omega
              | cons a l => rfl
            rw [this]
            rfl
          rw [e5]
          exact k _ s'
        · have e2' := of_decide_eq_false e2
          have e4 : isPiece (.str z) = false := by
            show (decide (1 ≤ (cs z).length) && decide ((cs z).length ≤ 5) && (cs z).all lett) = false
            rw [cs_len, decide_eq_false (by omega : ¬ z.length ≤ 5), Bool.and_false]
            rfl
          rw [e4] at k0
          exact k0
      · have e1' := of_decide_eq_false e1
        have e4 : isPiece (.str z) = false := by
          show (decide (1 ≤ (cs z).length) && decide ((cs z).length ≤ 5) && (cs z).all lett) = false
          rw [cs_len, decide_eq_false (by omega : ¬ 1 ≤ z.length)]
          rfl
        rw [e4] at k0
        exact ⟨_, rfl, k0⟩
    | _ =>
      refine ⟨_, rfl, _, _, _, _, _, rfl, .ty _, ht, hs, _, rfl, ?_⟩
      exact k0
theorem sc_is_integer_within : FnScope ["value", "least", "most"] ["value", "least", "most"] (defScope s_is_integer_within) := ⟨rfl, rfl, rfl, by decide +kernel, rfl, by decide +kernel, by decide +kernel⟩
theorem ok_is_integer_within {f : Addr} {fd : FuncData} (F : Fun K "is_integer_within" "is_integer_within" s_is_integer_within f fd) (T : Txt K mg C) (c_is_integer : HasO P w K mg base CX0 1 "is_integer" ["value"] (spIsI K isInteger)) : FnOk P w K mg base CX0 2 f fd ["value", "least", "most"] (spWithin K) := by
  refine F.ok sc_is_integer_within (fun vs H Q E h => ?_) (fun cdv A outer s H vs Q E hr h => ?_)
  · obtain ⟨x, a, b, rfl, _⟩ := h
    rfl
  · have hu := hu_of hr
    obtain ⟨x, a, b, rfl, ty, k⟩ := h
    refine ⟨_, (pss_one (ps_ret (pe_and (pe_hasO c_is_integer (hr.mono (by decide)) pass0 (pa_cons (pv 0) pa_nil)) (pe_one (pe_chain op_le op_le (pv 1) (pv 0) (pv 2)))))), ?_⟩
    refine ⟨_, rfl, _, rfl, ty, fun H1 s1 => ⟨_, rfl, ?_⟩⟩
    have k1 := k H1 s1
    cases x with
    | int i =>
      refine itB (fun e => ?_) (fun e => ?_)
      · have e' : decide (i.natAbs < 10 ^ 60) = true := e
        have e2 : inRange (.int i) a b = (decide (a ≤ i) && decide (i ≤ b)) := by
          show (decide (i.natAbs < 10 ^ 60) && (decide (a ≤ i) && decide (i ≤ b))) = _
          rw [e']
          rfl
        rw [e2] at k1
        exact chain_le (a := a) (b := i) (c := b) (fun N hN => ⟨_, rfl, hN⟩) (fun N hN => ⟨_, rfl, hN⟩) (fun N hN => ⟨_, rfl, hN⟩) k1
      · have e' : decide (i.natAbs < 10 ^ 60) = false := e
        have e2 : inRange (.int i) a b = false := by
          show (decide (i.natAbs < 10 ^ 60) && (decide (a ≤ i) && decide (i ≤ b))) = _
          rw [e']
          rfl
        rw [e2] at k1
        exact k1
    | _ => exact k1
theorem sc_is_price : FnScope ["value"] ["value"] (defScope s_is_price) := ⟨rfl, rfl, rfl, by decide +kernel, rfl, by decide +kernel, by decide +kernel⟩
theorem ok_is_price {f : Addr} {fd : FuncData} (F : Fun K "is_price" "is_price" s_is_price f fd) (T : Txt K mg C) (c_is_integer_within : HasO P w K mg base CX0 2 "is_integer_within" ["value", "least", "most"] (spWithin K)) : FnOk P w K mg base CX0 3 f fd ["value"] (spIsI K isPrice) := by
  refine F.ok sc_is_price (fun vs H Q E h => ?_) (fun cdv A outer s H vs Q E hr h => ?_)
  · obtain ⟨x, rfl, _⟩ := h
    rfl
  · have hu := hu_of hr
    obtain ⟨x, rfl, ty, k⟩ := h
    refine ⟨_, (pss_one (ps_ret (pe_hasO c_is_integer_within (hr.mono (by decide)) pass0 (pa_cons (pv 0) (pa_cons pe_int (pa_cons (pe_glob (v := .int 99) rfl T.g_MAX_PRICE.choose_spec ⟨_, rfl⟩) pa_nil)))))), ?_⟩
    exact ⟨_, rfl, x, 1, 99, rfl, ty, k⟩
theorem sc_are_prices : FnScope ["value", "piece", "sign", "price"] ["value"] (defScope s_are_prices) := ⟨rfl, rfl, rfl, by decide +kernel, rfl, by decide +kernel, by decide +kernel⟩
theorem ok_are_prices {f : Addr} {fd : FuncData} (F : Fun K "are_prices" "are_prices" s_are_prices f fd) (T : Txt K mg C) (c_is_piece : HasO P w K mg base CX0 2 "is_piece" ["value"] (spIs K isPiece)) (c_is_price : HasO P w K mg base CX0 3 "is_price" ["value"] (spIsI K isPrice)) : FnOk P w K mg base CX0 4 f fd ["value"] (spArePrices K) := by
  refine F.ok sc_are_prices (fun vs H Q E h => ?_) (fun cdv A outer s H vs Q E hr h => ?_)
  · obtain ⟨x, rfl, _⟩ := h
    rfl
  · have hu := hu_of hr
    obtain ⟨x, rfl, hx⟩ := h
    refine ⟨_, (pss_cons (ps_if (PW.pt (pw_or (pt_not (pt_val (pe_callB (g_isi K) (by rfl) T.b_isinstance (by decide +kernel) (pa_cons (pv 0) (pa_cons (pe_bltn (v := .ty "dict") rfl T.b_dict (by decide +kernel) rfl) pa_nil))))) (pw_or1 (pt_not (pt_chain op_le op_le pe_int (pe_callB call_lenF (by rfl) T.b_len (by decide +kernel) (pa_cons (pv 0) pa_nil)) (pe_glob (v := .int 12) rfl T.g_MAX_PIECES.choose_spec ⟨_, rfl⟩)))))) (pss_one (ps_ret pe_bl)) pss_nil)
      (pss_cons (ps_if (pt_not (pt_val (pe_callB (g_all K rfl) (by rfl) T.b_all (by decide +kernel) (pa_cons (pe_lock (by exact (pe_lc (own := [("piece", 1), ("price", 3)]) rfl sc_are_prices.nd (pi_items (pv 0)) (blkOk_by (own := [("piece", 1), ("price", 3)]) (N := ["value", "piece", "sign", "price"]) (sc := defScope s_are_prices) (by decide +kernel)) (fun _ _ _ _ _ => (g_tup K (n := 2) rfl (pgs_cons (pg_name (i := 1) sc_are_prices.nd rfl (Or.inl rfl)) (pgs_cons (pg_name (i := 3) sc_are_prices.nd rfl (Or.inl rfl)) pgs_nil)))) (fun _ _ _ _ _ => pts_nil) (fun _ _ _ _ _ => (pe_and (pe_hasO c_is_piece (hr.mono (by decide)) pass0 (pa_cons (pv 1) pa_nil)) (pe_one (pe_hasO c_is_price (hr.mono (by decide)) pass0 (pa_cons (pv 3) pa_nil)))))))) pa_nil)))) (pss_one (ps_ret pe_bl)) pss_nil)
      (pss_cons (ps_if (pt_cmpR op_gt (pe_callB (g_len_seq K) (by rfl) T.b_len (by decide +kernel) (pa_cons (pe_lock (by exact (pe_lc (own := [("piece", 1)]) rfl sc_are_prices.nd (pi_keys (pv 0)) (blkOk_by (own := [("piece", 1)]) (N := ["value", "piece", "sign", "price"]) (sc := defScope s_are_prices) (by decide +kernel)) (fun _ _ _ _ _ => (pg_name (i := 1) sc_are_prices.nd rfl (Or.inl rfl))) (fun _ _ _ _ _ => (pts_one (pt_cmpR op_eq (pe_callB call_len_str (by rfl) T.b_len (by decide +kernel) (pa_cons (pv 1) pa_nil)) pe_int (nomark _)))) (fun _ _ _ _ _ => (pv 1))))) pa_nil)) (pe_glob (v := .int 4) rfl T.g_MAX_ALPHABET.choose_spec ⟨_, rfl⟩) (nomark _)) (pss_one (ps_ret pe_bl)) pss_nil)
      (pss_one (ps_ret (pe_callB (g_all K rfl) (by rfl) T.b_all (by decide +kernel) (pa_cons (pe_lock (by exact (pe_lc2 (own := [("piece", 1), ("sign", 2)]) (vs1 := [2]) rfl sc_are_prices.nd (pi_keys (pv 0)) (blkOk_by (own := [("piece", 1), ("sign", 2)]) (N := ["value", "piece", "sign", "price"]) (sc := defScope s_are_prices) (by decide +kernel)) (by decide) (fun _ _ _ _ _ => (pg_name (i := 1) sc_are_prices.nd rfl (Or.inl rfl))) (fun _ _ _ _ _ => pts_nil) (fun _ _ _ _ _ => (pi_str (pv 1))) (fun _ _ _ _ _ => (pg_name (i := 2) sc_are_prices.nd rfl (Or.inl rfl))) (fun _ _ _ _ _ => pts_nil) (fun _ _ _ _ _ => (pe_cmp (pc_din hu (pv 2) (pv 0))))))) pa_nil))))))), ?_⟩
    rcases hx with ⟨t, ht, hdict, k⟩ | ⟨a, kvs, rfl, ha, hn, ok, k⟩
    · refine ⟨_, rfl, _, _, _, _, _, rfl, .ty _, ht, hdict, _, rfl, ?_⟩
      exact k H (Same.refl H)
    refine ⟨_, rfl, _, _, _, _, _, rfl, .ty _, .base (.dK ha), kit_ty (show kitB "dict" "dict" = some true by decide +kernel), _, rfl, ?_⟩
    refine ⟨_, rfl, _, _, rfl, .inl ha, _, _, rfl, rfl, _, rfl, ?_⟩
    have k0 := k H (Same.refl H)
    have fz : ∀ od, (upd H a (.frz od (.dK kvs))) a = some (.frz od (.dK kvs)) := fun od => upd_same
    unfold arePrices at k k0
    -- 1 <= len(value) <= MAX_PIECES
    cases e1 : decide (1 ≤ (kvs.length : Int)) with
    | false =>
      rw [e1] at k0
      exact ⟨_, rfl, k0⟩
    | true =>
    rw [e1] at k k0
    refine ⟨_, _, rfl, rfl, _, rfl, ?_⟩
    cases e2 : decide ((kvs.length : Int) ≤ 12) with
    | false =>
      rw [e2] at k0
      exact k0
    | true =>
    rw [e2] at k k0
    -- the pieces and the prices
    refine ⟨a, _, ha, trivial, fun od => ?_⟩
    refine ⟨_, rfl, a, od, kvs, rfl, upd_same, fun D hD => ?_⟩
    have nDa := lock_ne hD
    refine lcs kvs walk_kv (fun kv => some (.bl (isPiece (kV kv.1) && isPrice kv.2))) hD (by omega) (fun H' s => s _ _ (fz od)) ?_ ?_
    · rintro i kv x H2 H3 hi s ⟨T, k', v', e, rfl, hT, rfl⟩ N M hN hM
      have ekv : kv = (k', v') := Option.some.inj (hi.symm.trans e)
      subst ekv
      obtain ⟨sz, tyv⟩ := ok _ (List.mem_of_getElem? hi)
      have sH : ∀ {H'}, Same H2 H' → Same (upd H a (.frz od (.dK kvs))) H' := fun z => s.trans z
      refine ⟨T, _, rfl, SqT.of upd_same, rfl, _, _, rfl, _, _, rfl, rfl, rfl, ?_⟩
      have sT : Same H2 (upd H2 T (.tup [kV k', v'])) := same_new hT
      refine ⟨_, rfl, _, rfl, tyd_key _, sz, fun H4 s4 => ⟨_, rfl, ?_⟩⟩
      refine itB (fun p1 => ?_) (fun p1 => ?_)
      · refine ⟨_, rfl, _, rfl, tyv _ (((Sim.lock ha).then s).then (sT.trans s4)), fun H5 s5 => ?_⟩
        refine hN _ _ ?_ (sT.trans (s4.trans s5))
        show some (V.bl (isPiece (kV k') && isPrice v')) = _
        rw [p1]
        rfl
      · refine hN _ _ ?_ (sT.trans s4)
        show some (V.bl (isPiece (kV k') && isPrice v')) = _
        rw [p1]
        rfl
    rintro H2 s2 e2'
    have S2 : Same H (upd H2 a (.dK kvs)) := unlock ha s2
    refine ⟨s2 _ _ (fz od), _, kvs.map (fun kv => isPiece (kV kv.1) && isPrice kv.2), rfl, SqL.of (by rw [upd_ne nDa, e2', List.map_map, List.filterMap_eq_map']; rfl), _, rfl, ?_⟩
    have k2 := k _ S2
    have a2 : (upd H2 a (.dK kvs)) a = some (.dK kvs) := upd_same
    generalize upd H2 a (.dK kvs) = H3 at S2 k2 a2 ⊢
    have e3' : ((kvs.map fun kv => isPiece (kV kv.1) && isPrice kv.2).all id) = (kvs.all fun kv => isPiece (kV kv.1) && isPrice kv.2) := by
      rw [List.all_map]
      rfl
    rw [e3']
    clear e3' e2' s2 H2 hD nDa k0 fz od D
    cases e3 : (kvs.all fun kv => isPiece (kV kv.1) && isPrice kv.2) with
    | false =>
      rw [e3] at k2
      exact k2
    | true =>
    rw [e3] at k k2
    have hk := keys_of e3
    have hp := keyStrs_piece e3
    have ln : (keyStrs kvs).length = kvs.length := by
      have h := congrArg List.length hk
      rw [List.length_map, List.length_map] at h
      exact h.symm
    -- how many single signs
    refine ⟨a, _, a2, trivial, fun od => ?_⟩
    refine ⟨_, rfl, a, od, rfl, .inl ⟨kvs, upd_same, fun D hD => ?_⟩⟩
    have nDa := lock_ne hD
    refine lcs kvs walk_keys (fun kv => match kv.1 with | .inr z => if decide ((cs z).length = 1) = true then some (.str z) else none | .inl _ => none) hD (by omega) (fun H' s => s _ _ upd_same) ?_ ?_
    · rintro i kv x H4 H5 hi s ⟨rfl, k', v', e, rfl⟩ N M hN hM
      have ekv : kv = (k', v') := Option.some.inj (hi.symm.trans e)
      subst ekv
      obtain ⟨z, hz⟩ : ∃ z, k' = Sum.inr z := by
        have h1 := congrArg (fun l => l[i]?) hk
        simp only [List.getElem?_map, hi] at h1
        cases h2 : (keyStrs kvs)[i]? with
        | none => rw [h2] at h1; cases h1
        | some z => rw [h2] at h1; exact ⟨z, Option.some.inj h1⟩
      subst hz
      have zs := (ok _ (List.mem_of_getElem? hi)).1
      refine ⟨rfl, _, rfl, _, rfl, fits_sz zs, rfl, _, rfl, ?_⟩
      rw [v_len_eq1]
      refine itB (fun q1 => ?_) (fun q1 => ?_)
      · refine ⟨_, rfl, hN _ _ ?_ (Same.refl _)⟩
        show (if decide ((cs z).length = 1) = true then some (V.str z) else none) = _
        rw [if_pos q1]
        rfl
      · refine hM _ ?_ (Same.refl _)
        show (if decide ((cs z).length = 1) = true then some (V.str z) else none) = _
        rw [if_neg (by rw [q1]; exact Bool.false_ne_true)]
    rintro H4 s4 e4
    have e5 : (kvs.filterMap fun kv => match kv.1 with | .inr z => if decide ((cs z).length = 1) = true then some (V.str z) else none | .inl _ => none) = ((keyStrs kvs).filter fun z => decide ((cs z).length = 1)).map V.str := singles kvs
    rw [e5] at e4
    have S4 : Same H (upd H4 a (.dK kvs)) := S2.trans (unlock a2 s4)
    refine ⟨s4 _ _ upd_same, _, _, rfl, .inl (SqL.of (by rw [upd_ne nDa]; exact e4)), _, _, rfl, rfl, _, rfl, ?_⟩
    have k4 := k _ S4
    have a4 : (upd H4 a (.dK kvs)) a = some (.dK kvs) := upd_same
    generalize upd H4 a (.dK kvs) = H5 at S4 k4 a4 ⊢
    clear e4 e5 s4 H4 hD nDa od D S2 k2 a2 H3
    rw [List.length_map]
    cases e6 : decide (((keyStrs kvs).filter fun z => decide ((cs z).length = 1)).length ≤ 4) with
    | false =>
      rw [e6] at k4
      refine itT (decide_eq_true (by have := of_decide_eq_false e6; omega)) ?_
      exact k4
    | true =>
    rw [e6] at k k4
    refine itF (decide_eq_false (by have := of_decide_eq_true e6; omega)) ?_
    -- each sign of each piece
    have fl := flat_len (zs := keyStrs kvs) fun z hz => (hp z hz).2.1
    refine ⟨a, _, a4, trivial, fun od => ?_⟩
    refine ⟨_, rfl, a, od, rfl, .inl ⟨kvs, upd_same, fun D hD => ?_⟩⟩
    have nDa := lock_ne hD
    refine lc2_ks (zs := keyStrs kvs) hk (fun c => .bl (valV kvs (Sum.inr (ch c))).isSome) upd_same hD (by omega) (fun _ => rfl) (fun _ _ => rfl) (fun _ => rfl) ?_ ?_
    · intro z hz c hc H6 s6 N hN
      exact ⟨_, rfl, _, rfl, a, _, rfl, Or.inl ⟨kvs, Sum.inr (ch c), Or.inr ⟨od, s6 _ _ upd_same⟩, rfl, rfl⟩, hN _ (Same.refl _)⟩
    rintro H6 s6 e7
    refine ⟨s6 _ _ upd_same, _, ((keyStrs kvs).map cs).flatten.map (fun c => (valV kvs (Sum.inr (ch c))).isSome), rfl, SqL.of (by rw [upd_ne nDa, e7, List.map_map]; rfl), ?_⟩
    rw [List.all_map]
    exact k _ (S4.trans (unlock a4 s6))
theorem sc_Book___init__ : FnScope ["self", "prices", "piece"] ["self", "prices"] (defScope s_Book___init__) := ⟨rfl, rfl, rfl, by decide +kernel, rfl, by decide +kernel, by decide +kernel⟩
theorem ok_Book___init__ {f : Addr} {fd : FuncData} (F : Fun K "__init__" "Book.__init__" s_Book___init__ f fd) (T : Txt K mg C) (c_are_prices : HasO P w K mg base CX0 4 "are_prices" ["value"] (spArePrices K)) : FnOk P w K mg base CX0 5 f fd ["self", "prices"] (spBook C K) := by
  refine F.ok sc_Book___init__ (fun vs H Q E h => ?_) (fun cdv A outer s H vs Q E hr h => ?_)
  · obtain ⟨b, dx, a, kvs, rfl, _⟩ := h
    rfl
  · have hu := hu_of hr
    obtain ⟨b, dx, a, kvs, rfl, hb, ha, ok, av, nd, k⟩ := h
    refine ⟨_, (pss_frz (pss_cons (ps_if (pt_not (pt_val (pe_hasO c_are_prices (hr.mono (by decide)) pass0 (pa_cons (pv 1) pa_nil)))) (pss_one ps_never) pss_nil)
      (pss_cons (ps_fld (pv 0) (pe_dc (own := [("piece", 2)]) rfl sc_Book___init__.nd (g_list K (pe_callB (g_sortedS K) (by rfl) T.b_sorted (by decide +kernel) (pa_cons (pe_callTy (call_listD rfl) (by rfl) T.b_list (by decide +kernel) (pa_cons (pv 1) pa_nil)) pa_nil))) (blkOk_by (own := [("piece", 2)]) (N := ["self", "prices", "piece"]) (sc := defScope s_Book___init__) (by decide +kernel)) (fun _ _ _ _ _ => (pg_name (i := 2) sc_Book___init__.nd rfl (Or.inl rfl))) (fun _ _ _ _ _ => pts_nil) (fun _ _ _ _ _ => (pv 2)) (fun _ _ _ _ _ => (pe_dget hu (pv 1) (pv 2) (fun _ _ => rfl)))) rfl)
      (pss_cons (ps_fld (pv 0) (pe_callTy (g_tuple_of K) (by rfl) T.b_tuple (by decide +kernel) (pa_cons (pe_callTy (call_listD rfl) (by rfl) T.b_list (by decide +kernel) (pa_cons (g_fld K (pv 0)) pa_nil)) pa_nil)) rfl)
      (pss_cons (ps_fld (pv 0) (pe_callTy (g_tuple_of K) (by rfl) T.b_tuple (by decide +kernel) (pa_cons (pe_lc (own := [("piece", 2)]) rfl sc_Book___init__.nd (g_tuple K (g_fld K (pv 0))) (blkOk_by (own := [("piece", 2)]) (N := ["self", "prices", "piece"]) (sc := defScope s_Book___init__) (by decide +kernel)) (fun _ _ _ _ _ => (pg_name (i := 2) sc_Book___init__.nd rfl (Or.inl rfl))) (fun _ _ _ _ _ => (pts_one (pt_cmpR op_eq (pe_callB call_len_str (by rfl) T.b_len (by decide +kernel) (pa_cons (pv 2) pa_nil)) pe_int (nomark _)))) (fun _ _ _ _ _ => (pv 2))) pa_nil)) rfl)
      (pss_cons (ps_fld (pv 0) (pe_callB (g_max K rfl) (by rfl) T.b_max (by decide +kernel) (pa_cons (pe_lc (own := [("piece", 2)]) rfl sc_Book___init__.nd (g_tuple K (g_fld K (pv 0))) (blkOk_by (own := [("piece", 2)]) (N := ["self", "prices", "piece"]) (sc := defScope s_Book___init__) (by decide +kernel)) (fun _ _ _ _ _ => (pg_name (i := 2) sc_Book___init__.nd rfl (Or.inl rfl))) (fun _ _ _ _ _ => pts_nil) (fun _ _ _ _ _ => (pe_callB call_len_str (by rfl) T.b_len (by decide +kernel) (pa_cons (pv 2) pa_nil)))) pa_nil)) rfl)
      (pss_one (ps_fld (pv 0) (pe_callB (g_max K rfl) (by rfl) T.b_max (by decide +kernel) (pa_cons (pe_callTy (call_listVw rfl) (by rfl) T.b_list (by decide +kernel) (pa_cons (g_bm0 K PySem.F.plainAttrs_dict PySem.F.slot_dict_values PySem.F.type_dict_values mt_values (g_fld K (pv 0))) pa_nil)) pa_nil)) rfl)))))))), ?_⟩
    obtain ⟨⟨n1, n2⟩, al, f4, fs⟩ := ap_parts av
    have nb : b ≠ a := fun e => by
      rw [e, ha] at hb
      cases hb
    refine ⟨_, rfl, _, rfl, .inr ⟨a, kvs, rfl, ha, by omega, ok, fun H1 s1 => ⟨_, congrArg V.bl av, ?_⟩⟩⟩
    have hk := keys_of al
    have hkV : (kvs.map fun kv => kV kv.1) = (keyStrs kvs).map V.str := by
      have h := congrArg (List.map kV) hk
      rw [List.map_map, List.map_map] at h
      exact h
    have ln : (keyStrs kvs).length = kvs.length := by
      have h := congrArg List.length hk
      rw [List.length_map, List.length_map] at h
      exact h.symm
    -- the prices
    refine ⟨_, rfl, a, kvs, rfl, .inl (s1 _ _ ha), fun p hp => ?_⟩
    refine ⟨p, keyStrs kvs, rfl, SqL.of (by rw [upd_same, hkV]), by omega, fun ys p2 pm so hp2 => ?_⟩
    refine ⟨p2, rfl, ⟨_, SqL.of upd_same⟩, fun D hD => ?_⟩
    have ly : ys.length = kvs.length := by rw [pm.length_eq, ln]
    have ndk : (keyStrs kvs).Nodup := by
      rw [hk] at nd
      exact nd_of_map nd
    have ndy : ys.Nodup := pm.nodup_iff.mpr ndk
    have s2 : Same H (upd (upd H1 p (.lst (kvs.map fun kv => kV kv.1))) p2 (.lst (ys.map V.str))) := (s1.trans (same_new hp)).trans (same_new hp2)
    have l2 : (upd (upd H1 p (.lst (kvs.map fun kv => kV kv.1))) p2 (.lst (ys.map V.str))) p2 = some (.lst (ys.map V.str)) := upd_same
    generalize (upd (upd H1 p (.lst (kvs.map fun kv => kV kv.1))) p2 (.lst (ys.map V.str))) = H2 at s2 l2 hD ⊢
    have nDb : D ≠ b := (ne_of_none (s2 _ _ hb) hD).symm
    have hDn := not_there s2 hD
    refine dcs ys (walk_listF (K := K) V.str ys) (fun z => (Sum.inr z, .int (priceIn kvs z))) (nd_map (f := fun z : Str => (Sum.inr z : Key)) (fun _ _ h => Sum.inr.inj h) ndy) hD (by omega) (fun H' s => SqL.of (s _ _ l2)) ?_ ?_
    · rintro i z x H3 H4 hi s3 ⟨rfl, z', ez, rfl⟩ N M hN
      have e1 : z = z' := Option.some.inj (hi.symm.trans ez)
      subst e1
      exact ⟨wipe_set, _, rfl, _, rfl, _, rfl, a, _, rfl, .inl ⟨kvs, Sum.inr z, .inl (s3 _ _ (s2 _ _ ha)), rfl, (price_of_key al (pm.mem_iff.mp (List.mem_of_getElem? hi))).1.symm⟩, hN _ (Same.refl _)⟩
    rintro H3 s3 e3
    have e3' : H3 D = some (.dK (kvOf (psOf kvs ys))) := by
      rw [e3]
      unfold kvOf psOf
      rw [List.map_map]
      rfl
    have b3 := s3 _ _ (s2 _ _ hb)
    have hps : (psOf kvs ys).map (fun p => V.str p.1) = ys.map V.str := by
      unfold psOf
      rw [List.map_map]
      rfl
    refine ⟨_, rfl, b, C, dx, [], rfl, b3, T.cl, T.n_own_prices, by decide, ?_⟩
    have k3 : Kp b H (upd H3 b (.ins C dx (putF "own_prices" (.ref D) []))) := (Kp.of (s2.trans s3)).trans Kp.upd
    have d3 : upd H3 b (.ins C dx (putF "own_prices" (.ref D) [])) D = some (.dK (kvOf (psOf kvs ys))) := by
      rw [upd_ne nDb]
      exact e3'
    have o3 : upd H3 b (.ins C dx (putF "own_prices" (.ref D) [])) b = some (.ins C dx [(("own_prices" : Str), .ref D)]) := upd_same
    generalize upd H3 b (.ins C dx (putF "own_prices" (.ref D) [])) = H4 at k3 d3 o3 ⊢
    clear e3 e3' b3 s3 s2 l2 hD
    -- the pieces
    refine ⟨_, rfl, b, C, dx, _, _, rfl, o3, T.cl, T.n_own_prices, lk_at, D, _, rfl, .inl d3, fun p3 hp3 => ?_⟩
    refine ⟨p3, _, rfl, .inl ⟨SqL.of upd_same, fun tp htp => ?_⟩⟩
    rw [kv_keys, hps] at htp ⊢
    have npb : p3 ≠ b := (ne_of_none o3 hp3).symm
    have ntb : tp ≠ b := (ne_of_none ((same_new hp3) _ _ o3) htp).symm
    have o4' := (same_new hp3 (o := .lst (ys.map V.str))).trans (same_new htp (o := .tup (ys.map V.str)))
    refine ⟨_, rfl, b, C, dx, _, rfl, o4' _ _ o3, T.cl, T.n_own_pieces, by simp, ?_⟩
    rw [pf2]
    have k4 := (k3.trans (.of o4')).trans (Kp.upd (o := .ins C dx [(("own_prices" : Str), .ref D), ("own_pieces", .ref tp)]))
    have d4 : (upd (upd (upd H4 p3 (.lst (ys.map V.str))) tp (.tup (ys.map V.str))) b (.ins C dx [(("own_prices" : Str), .ref D), ("own_pieces", .ref tp)])) D = some (.dK (kvOf (psOf kvs ys))) := by
      rw [upd_ne nDb]
      exact o4' _ _ d3
    have t4 : (upd (upd (upd H4 p3 (.lst (ys.map V.str))) tp (.tup (ys.map V.str))) b (.ins C dx [(("own_prices" : Str), .ref D), ("own_pieces", .ref tp)])) tp = some (.tup (ys.map V.str)) := by
      rw [upd_ne ntb]
      exact upd_same
    have o4 : (upd (upd (upd H4 p3 (.lst (ys.map V.str))) tp (.tup (ys.map V.str))) b (.ins C dx [(("own_prices" : Str), .ref D), ("own_pieces", .ref tp)])) b = some (.ins C dx [(("own_prices" : Str), .ref D), ("own_pieces", .ref tp)]) := upd_same
    generalize (upd (upd (upd H4 p3 (.lst (ys.map V.str))) tp (.tup (ys.map V.str))) b (.ins C dx [(("own_prices" : Str), .ref D), ("own_pieces", .ref tp)])) = H5 at k4 d4 t4 o4 ⊢
    clear o4' htp hp3 npb k3 d3 o3
    -- the alphabet
    refine ⟨_, rfl, b, C, dx, _, _, rfl, o4, T.cl, T.n_own_pieces, (lk_by (by decide +kernel)).trans lk_at, tp, rfl, ⟨_, SqT.of t4⟩, fun L hL => ?_⟩
    have nLb : L ≠ b := (ne_of_none o4 hL).symm
    refine lcs ys (walk_tupF (K := K) V.str ys) (fun z => if decide ((cs z).length = 1) = true then some (V.str z) else none) hL (by omega) (fun H' s => SqT.of (s _ _ t4)) ?_ ?_
    · rintro i z x H6 H7 hi s6 ⟨rfl, z', ez, rfl⟩ N M hN hM
      have e1 : z = z' := Option.some.inj (hi.symm.trans ez)
      subst e1
      have hz := (keyStrs_piece al z (pm.mem_iff.mp (List.mem_of_getElem? hi))).2.1
      refine ⟨wipe_set, _, rfl, _, rfl, fits_sz (by rw [← cs_len]; omega), rfl, _, rfl, ?_⟩
      rw [v_len_eq1]
      refine itB (fun q1 => ?_) (fun q1 => ?_)
      · exact ⟨_, rfl, hN _ _ (if_pos q1) (Same.refl _)⟩
      · exact hM _ (if_neg (by rw [q1]; exact Bool.false_ne_true)) (Same.refl _)
    rintro H6 s6 e6
    rw [sgn_fm kvs ys] at e6
    refine ⟨L, _, rfl, .inl ⟨SqL.of e6, fun ta hta => ?_⟩⟩
    have nab : ta ≠ b := (ne_of_none (s6 _ _ o4) hta).symm
    have o6 := s6.trans (same_new hta (o := .tup ((sgn (psOf kvs ys)).map V.str)))
    refine ⟨_, rfl, b, C, dx, _, rfl, o6 _ _ o4, T.cl, T.n_own_alphabet, by simp, ?_⟩
    rw [pf3]
    have k6 := (k4.trans (.of o6)).trans (Kp.upd (o := .ins C dx [(("own_prices" : Str), .ref D), ("own_pieces", .ref tp), ("own_alphabet", .ref ta)]))
    have d6 : (upd (upd H6 ta (.tup ((sgn (psOf kvs ys)).map V.str))) b (.ins C dx [(("own_prices" : Str), .ref D), ("own_pieces", .ref tp), ("own_alphabet", .ref ta)])) D = some (.dK (kvOf (psOf kvs ys))) := by
      rw [upd_ne nDb]
      exact o6 _ _ d4
    have t6 : (upd (upd H6 ta (.tup ((sgn (psOf kvs ys)).map V.str))) b (.ins C dx [(("own_prices" : Str), .ref D), ("own_pieces", .ref tp), ("own_alphabet", .ref ta)])) tp = some (.tup (ys.map V.str)) := by
      rw [upd_ne ntb]
      exact o6 _ _ t4
    have a6 : (upd (upd H6 ta (.tup ((sgn (psOf kvs ys)).map V.str))) b (.ins C dx [(("own_prices" : Str), .ref D), ("own_pieces", .ref tp), ("own_alphabet", .ref ta)])) ta = some (.tup ((sgn (psOf kvs ys)).map V.str)) := by
      rw [upd_ne nab]
      exact upd_same
    have o6' : (upd (upd H6 ta (.tup ((sgn (psOf kvs ys)).map V.str))) b (.ins C dx [(("own_prices" : Str), .ref D), ("own_pieces", .ref tp), ("own_alphabet", .ref ta)])) b = some (.ins C dx [(("own_prices" : Str), .ref D), ("own_pieces", .ref tp), ("own_alphabet", .ref ta)]) := upd_same
    generalize (upd (upd H6 ta (.tup ((sgn (psOf kvs ys)).map V.str))) b (.ins C dx [(("own_prices" : Str), .ref D), ("own_pieces", .ref tp), ("own_alphabet", .ref ta)])) = H7 at k6 d6 t6 a6 o6' ⊢
    clear o6 e6 s6 hta hL k4 d4 t4 o4
    -- the longest
    refine ⟨_, rfl, b, C, dx, _, _, rfl, o6', T.cl, T.n_own_pieces, (lk_by (by decide +kernel)).trans lk_at, tp, rfl, ⟨_, SqT.of t6⟩, fun L hL => ?_⟩
    refine lcs ys (walk_tupF (K := K) V.str ys) (fun z => some (V.int (z.length : Int))) hL (by omega) (fun H' s => SqT.of (s _ _ t6)) ?_ ?_
    · rintro i z x H8 H9 hi s8 ⟨rfl, z', ez, rfl⟩ N M hN hM
      have e1 : z = z' := Option.some.inj (hi.symm.trans ez)
      subst e1
      have hz := (keyStrs_piece al z (pm.mem_iff.mp (List.mem_of_getElem? hi))).2.1
      exact ⟨wipe_set, _, rfl, _, rfl, fits_sz (by rw [← cs_len]; omega), hN _ _ rfl (Same.refl _)⟩
    rintro H8 s8 e8
    have ll : (ys.filterMap fun z => some (V.int (z.length : Int))) = (lens (psOf kvs ys)).map V.int := by
      rw [fm_some]
      unfold lens psOf
      rw [List.map_map, List.map_map]
      rfl
    rw [ll] at e8
    refine ⟨L, _, rfl, SqL.of e8, by unfold lens psOf; rw [List.length_map, List.length_map]; omega, fun lo lo1 lo2 => ?_⟩
    refine ⟨_, rfl, b, C, dx, _, rfl, s8 _ _ o6', T.cl, T.n_own_longest, by simp, ?_⟩
    rw [pf4]
    have k8 := (k6.trans (.of s8)).trans (Kp.upd (o := .ins C dx [(("own_prices" : Str), .ref D), ("own_pieces", .ref tp), ("own_alphabet", .ref ta), ("own_longest", .int lo)]))
    have d8 : (upd H8 b (.ins C dx [(("own_prices" : Str), .ref D), ("own_pieces", .ref tp), ("own_alphabet", .ref ta), ("own_longest", .int lo)])) D = some (.dK (kvOf (psOf kvs ys))) := by
      rw [upd_ne nDb]
      exact s8 _ _ d6
    have t8 : (upd H8 b (.ins C dx [(("own_prices" : Str), .ref D), ("own_pieces", .ref tp), ("own_alphabet", .ref ta), ("own_longest", .int lo)])) tp = some (.tup (ys.map V.str)) := by
      rw [upd_ne ntb]
      exact s8 _ _ t6
    have a8 : (upd H8 b (.ins C dx [(("own_prices" : Str), .ref D), ("own_pieces", .ref tp), ("own_alphabet", .ref ta), ("own_longest", .int lo)])) ta = some (.tup ((sgn (psOf kvs ys)).map V.str)) := by
      rw [upd_ne nab]
      exact s8 _ _ a6
    have o8 : (upd H8 b (.ins C dx [(("own_prices" : Str), .ref D), ("own_pieces", .ref tp), ("own_alphabet", .ref ta), ("own_longest", .int lo)])) b = some (.ins C dx [(("own_prices" : Str), .ref D), ("own_pieces", .ref tp), ("own_alphabet", .ref ta), ("own_longest", .int lo)]) := upd_same
    generalize (upd H8 b (.ins C dx [(("own_prices" : Str), .ref D), ("own_pieces", .ref tp), ("own_alphabet", .ref ta), ("own_longest", .int lo)])) = H9 at k8 d8 t8 a8 o8 ⊢
    clear s8 e8 hL k6 d6 t6 a6 o6'
    have ntD : tp ≠ D := fun e => by
      rw [e, d8] at t8
      cases t8
    have naD : ta ≠ D := fun e => by
      rw [e, d8] at a8
      cases a8
    -- the dearest
    refine ⟨_, rfl, b, C, dx, _, _, rfl, o8, T.cl, T.n_own_prices, lk_at, .inr (.inr (.inl ⟨rfl, .inl ⟨_, d8⟩⟩)), D, _, rfl, rfl, .inl d8, fun r hr => ?_⟩
    refine ⟨r, D, _, rfl, upd_same, .inl (same_new hr _ _ d8), fun q hq => ?_⟩
    rw [kv_vals] at *
    refine ⟨q, _, rfl, SqL.of upd_same, by unfold fees psOf; rw [List.length_map, List.length_map]; omega, fun de de1 de2 => ?_⟩
    have s9 := (same_new hr (o := vwV D r)).trans (same_new hq (o := .lst ((fees (psOf kvs ys)).map V.int)))
    refine ⟨_, rfl, b, C, dx, _, rfl, s9 _ _ o8, T.cl, T.n_own_dearest, by simp, ?_⟩
    rw [pf5]
    have k9 := (k8.trans (.of s9)).trans (Kp.upd (o := .ins C dx (bookF D tp ta lo de)))
    refine ⟨D, _, (upd_ne nDb).trans (s9 _ _ d8), trivial, fun od => ?_⟩
    refine k _ ys lo de D tp ta od pm so ⟨?_, upd_same, ?_, ?_, ⟨lo1, lo2⟩, ⟨de1, de2⟩⟩ ?_
    · exact (upd_ne nDb.symm).trans upd_same
    · rw [upd_ne ntD, upd_ne ntb, hps]
      exact s9 _ _ t8
    · rw [upd_ne naD, upd_ne nab]
      exact s9 _ _ a8
    · intro c o e n
      rw [upd_ne (ne_of_none e hDn)]
      exact k9 _ _ e n
theorem sc_prices_along : FnScope ["book", "text", "found", "stop", "best", "start", "price"] ["book", "text"] (defScope s_prices_along) := ⟨rfl, rfl, rfl, by decide +kernel, rfl, by decide +kernel, by decide +kernel⟩
theorem ok_prices_along {f : Addr} {fd : FuncData} (F : Fun K "prices_along" "prices_along" s_prices_along f fd) (T : Txt K mg C) : FnOk P w K mg base CX0 2 f fd ["book", "text"] (spAlong C) := by
  refine F.ok sc_prices_along (fun vs H Q E h => ?_) (fun cdv A outer s H vs Q E hr h => ?_)
  · obtain ⟨b, kvs, z, rfl, _⟩ := h
    rfl
  · have hu := hu_of hr
    obtain ⟨b, kvs, z, rfl, B, ov, hz, k⟩ := h
    refine ⟨_, (pss_cons (ps_set (i := 2) sc_prices_along.nd rfl (Or.inl rfl) (pe_lst (pa_cons pe_int pa_nil)))
      (pss_cons (ps_for PassesOwn.never rfl (pi_range2 (by rfl) T.b_range (pa_cons pe_int (pa_cons (pe_op op_add (pe_callB call_len_str (by rfl) T.b_len (by decide +kernel) (pa_cons (pv 1) pa_nil)) pe_int) pa_nil))) (pg_name (i := 3) sc_prices_along.nd rfl (Or.inl rfl)) (pss_cons (ps_set (i := 4) sc_prices_along.nd rfl (Or.inl rfl) (pe_op op_add (pe_ix (g_ix_list K) (pv 2) (pe_un un_neg pe_int) (fun _ _ => rfl)) (pe_dget hu (g_fld K (pv 0)) (pe_ix ix_str (pv 1) (pe_op op_sub (pv 3) pe_int) (fun _ _ => rfl)) (fun _ _ => rfl))))
      (pss_cons (ps_for PassesOwn.never rfl (pi_range2 (by rfl) T.b_range (pa_cons (pe_callB (call_max2 rfl) (by rfl) T.b_max (by decide +kernel) (pa_cons pe_int (pa_cons (pe_op op_sub (pv 3) (g_fld K (pv 0))) pa_nil))) (pa_cons (pe_op op_sub (pv 3) pe_int) pa_nil))) (pg_name (i := 5) sc_prices_along.nd rfl (Or.inl rfl)) (pss_cons (ps_set (i := 6) sc_prices_along.nd rfl (Or.inl rfl) (pe_dget1 hu (g_fld K (pv 0)) (pe_slice sl_str (pv 1) (po_some (pv 5)) (po_some (pv 3))) ⟨by rfl, by rfl, by rfl, by rfl⟩))
      (pss_one (ps_if (PW.pt (pw_and (pt_cmpR op_notN (pv 6) pe_non (nomark _)) (pw_and1 (pt_cmpR op_lt (pe_op op_add (pe_ix (g_ix_list K) (pv 2) (pv 5) (fun _ _ => rfl)) (pv 6)) (pv 4) (nomark _))))) (pss_one (ps_set (i := 4) sc_prices_along.nd rfl (Or.inl rfl) (pe_op op_add (pe_ix (g_ix_list K) (pv 2) (pv 5) (fun _ _ => rfl)) (pv 6)))) pss_nil))))
      (pss_one (ps_expr (g_bm K PySem.F.plainAttrs_list PySem.F.slot_list_append PySem.F.type_list_append mt_append (pv 2) (pa_cons (pv 4) pa_nil)))))))
      (pss_one (ps_ret (pv 2))))), ?_⟩
    obtain ⟨av, nd, ys, L, M, dx, d, tp, ta, od, pm, so, A⟩ := id B
    obtain ⟨_, al, _, _⟩ := ap_parts av
    have tar := tar_of av nd
    have good := tar.good
    have ef := tf_psOf al pm
    have lz := cs_len z
    obtain ⟨lm, lo⟩ := A.lo
    have hLz : ∀ y p, tfD kvs y = some p → ((cs y).length : Int) ≤ L := fun y p hy => by
      rw [cs_len]
      refine lo _ (List.mem_map.mpr ⟨(y, priceIn kvs y), List.mem_map.mpr ⟨y, pm.mem_iff.mpr ((tf_key al).mpr ⟨p, hy⟩), rfl⟩, rfl⟩)
    obtain ⟨Ln, rfl⟩ : ∃ Ln : Nat, L = (Ln : Int) := by
      obtain ⟨q, _, e⟩ := List.mem_map.mp lm
      exact ⟨q.1.length, e.symm⟩
    have hLn : ∀ y p, tfD kvs y = some p → (cs y).length ≤ Ln := fun y p hy => by have := hLz y p hy; omega
    have hL5 : Ln ≤ 5 ∧ 1 ≤ Ln := by
      obtain ⟨q, hq, e⟩ := List.mem_map.mp lm
      obtain ⟨y, hy, rfl⟩ := List.mem_map.mp hq
      have h1 := keyStrs_piece al y (pm.mem_iff.mp hy)
      have h2 := cs_len y
      have e' : (y.length : Int) = (Ln : Int) := e
      omega
    have at' : ∀ {H'} {y : Str}, Same H H' → DGet H' d (.str y) ((tfD kvs y).map V.int) := fun s => .inl ⟨_, Sum.inr _, .inr ⟨od, s _ _ A.dc⟩, rfl, by rw [tar_val (tar_book av pm), ef]⟩
    refine ⟨(by show 1 ≤ sizeLine; decide), fun fo hfo => ?_⟩
    refine ⟨_, rfl, z, rfl, fits_sz (by omega), _, _, rfl, rfl, 1, _, rfl, ⟨by omega, by omega, by omega, by omega⟩, for_range (lo := 1) (Pv := fun i σ H' => ∃ x3 x4 x5 x6, σ = [some (.ref b), some (.str z), some (.ref fo), x3, x4, x5, x6] ∧ Same H H' ∧ H' fo = some (.lst (rowV (tfD kvs) (cs z) (i + 1))))
      ⟨_, _, _, _, rfl, same_new hfo, by rw [upd_same, rowV_one good]⟩ ?_ ?_⟩
    · rintro i σ H1 hi ⟨x3, x4, x5, x6, rfl, s1, f1⟩
      have hi' : i < z.length := by omega
      have e1 : (1 : Int) + (i : Int) = ((i + 1 : Nat) : Int) := by omega
      rw [e1]
      have hl : ((cs z).take (i + 1)).length = i + 1 := by rw [List.length_take]; omega
      have ovl := ov.take (i + 1)
      obtain ⟨c, hc⟩ : ∃ c, (cs z)[i]? = some c := ⟨_, List.getElem?_eq_getElem (by omega)⟩
      obtain ⟨p, hp⟩ := ov c (List.mem_of_getElem? hc)
      have ob1 := s1 _ _ A.ob
      have hdrop : ((cs z).take (i + 1)).drop i = [c] := by
        rw [List.take_add_one, hc, List.drop_append, List.drop_of_length_le (by rw [List.length_take]; omega), List.length_take, Nat.min_eq_left (by omega), Nat.sub_self]
        rfl
      have htake : ∀ s, s ≤ i + 1 → ((cs z).take (i + 1)).take s = (cs z).take s := fun s hs => by rw [List.take_take, Nat.min_eq_left hs]
      have c0 : costF (tfD kvs) ((cs z).take (i + 1)) i = some (lp (tfD kvs) ((cs z).take i) + p) := by
        unfold costF
        rw [hdrop, htake i (by omega), show sOf [c] = ch c from rfl, hp]
        rfl
      refine ⟨_, rfl, _, rfl, fo, _, _, _, rfl, rfl, SqL.of f1, by rw [rowV_succ]; exact atI_last, _, rfl, b, C, dx, _, _, rfl, ob1, T.cl, T.n_own_prices, bf_prices, _, rfl, _, rfl, _, _, rfl, rfl, z, _, c, rfl, rfl, fits_sz (by omega), by rw [show ((i + 1 : Nat) : Int) - 1 = ((i : Nat) : Int) by omega]; exact atI_nat hc, d, .int p, rfl, by rw [show some (V.int p) = (tfD kvs (ch c)).map V.int by rw [hp]; rfl]; exact at' s1, _, _, rfl, rfl, ?_⟩
      refine ⟨_, rfl, _, rfl, b, C, dx, _, _, rfl, ob1, T.cl, T.n_own_longest, bf_longest, _, _, rfl, rfl, _, _, rfl, _, rfl, _, _, rfl, rfl, ((i + 1 - Ln : Nat) : Int), _, congrArg (fun t => [V.int t, V.int (((i + 1 : Nat) : Int) - 1)]) (maxN (i + 1) Ln), ⟨by omega, by omega, by omega, by omega⟩, ?_⟩
      have e2 : ((((i + 1 : Nat) : Int) - 1) - ((i + 1 - Ln : Nat) : Int)).toNat = i - (i + 1 - Ln) := by omega
      rw [e2]
      refine for_range (lo := ((i + 1 - Ln : Nat) : Int)) (Pv := fun j σ H' => ∃ m x5 x6, σ = [some (.ref b), some (.str z), some (.ref fo), some (.int ((i + 1 : Nat) : Int)), some (.int m), x5, x6] ∧ Same H H' ∧ H' fo = some (.lst (rowV (tfD kvs) (cs z) (i + 1))) ∧
        (∃ s, s < i + 1 ∧ costF (tfD kvs) ((cs z).take (i + 1)) s = some m) ∧ ∀ s y, (s = i ∨ (i + 1 - Ln ≤ s ∧ s < i + 1 - Ln + j)) → costF (tfD kvs) ((cs z).take (i + 1)) s = some y → m ≤ y)
        ⟨_, _, _, rfl, s1, f1, ⟨i, by omega, c0⟩, fun s y hs hy => ?_⟩ ?_ ?_
      · rcases hs with rfl | ⟨h1, h2⟩
        · rw [c0] at hy
          exact Int.le_of_eq (Option.some.inj hy)
        · omega
      · rintro j σ H2 hj ⟨m, y5, y6, rfl, s2, f2, hm, hb⟩
        have e3 : ((i + 1 - Ln : Nat) : Int) + (j : Int) = ((i + 1 - Ln + j : Nat) : Int) := by omega
        have hs' : i + 1 - Ln + j < i := by omega
        obtain ⟨st, hst⟩ : ∃ st, st = i + 1 - Ln + j := ⟨_, rfl⟩
        rw [e3, ← hst]
        rw [← hst] at hs'
        have hcut : cutS z (some (st : Int)) (some ((i + 1 : Nat) : Int)) = sOf (((cs z).take (i + 1)).drop st) := str_ext (by rw [cs_cutAB (by omega) (by omega), cs_sOf])
        refine ⟨_, rfl, b, C, dx, _, _, rfl, s2 _ _ A.ob, T.cl, T.n_own_prices, bf_prices, d, rfl, .inl ⟨_, .inr ⟨od, s2 _ _ A.dc⟩⟩, _, rfl, _, rfl, _, rfl, _, rfl, _, rfl, z, rfl, fits_sz (by omega), _, by rw [hcut]; exact at' s2, ?_⟩
        have next : ∀ (m' : Int), (∃ s, s < i + 1 ∧ costF (tfD kvs) ((cs z).take (i + 1)) s = some m') → m' ≤ m → (∀ y, costF (tfD kvs) ((cs z).take (i + 1)) st = some y → m' ≤ y) → ∀ s y, (s = i ∨ (i + 1 - Ln ≤ s ∧ s < i + 1 - Ln + (j + 1))) → costF (tfD kvs) ((cs z).take (i + 1)) s = some y → m' ≤ y := by
          intro m' _ hle hy' s y hs hy
          by_cases e : s = st
          · subst e
            exact hy' y hy
          · have := hb s y (by omega) hy
            omega
        cases e4 : tfD kvs (sOf (((cs z).take (i + 1)).drop st)) with
        | none =>
          refine ⟨_, rfl, rfl, false, rfl, ?_⟩
          refine itF rfl ?_
          refine ⟨m, _, _, rfl, s2, f2, hm, next m hm (Int.le_refl _) fun y hy => ?_⟩
          unfold costF at hy
          rw [e4] at hy
          cases hy
        | some p' =>
          have cy : costF (tfD kvs) ((cs z).take (i + 1)) st = some (lp (tfD kvs) ((cs z).take st) + p') := by
            unfold costF
            rw [e4, htake st (by omega)]
            rfl
          refine ⟨_, rfl, rfl, true, rfl, ?_⟩
          refine itT rfl ?_
          refine ⟨_, rfl, _, rfl, fo, _, _, _, rfl, rfl, SqL.of f2, at_of (j := st) rfl (rowV_at (by omega)), _, rfl, _, _, rfl, rfl, _, rfl, _, _, rfl, rfl, _, rfl, ?_⟩
          refine itB (fun q => ?_) (fun q => ?_)
          · have q' := of_decide_eq_true q
            refine ⟨_, rfl, _, rfl, fo, _, _, _, rfl, rfl, SqL.of f2, at_of (j := st) rfl (rowV_at (by omega)), _, rfl, _, _, rfl, rfl, ?_⟩
            refine ⟨_, _, _, rfl, s2, f2, ⟨st, by omega, cy⟩, next _ ⟨st, by omega, cy⟩ (Int.le_of_lt q') fun y hy => ?_⟩
            rw [cy] at hy
            exact Int.le_of_eq (Option.some.inj hy)
          · have q' := of_decide_eq_false q
            refine ⟨m, _, _, rfl, s2, f2, hm, next m hm (Int.le_refl _) fun y hy => ?_⟩
            rw [cy] at hy
            have := Option.some.inj hy
            omega
      · rintro σ H2 ⟨m, y5, y6, rfl, s2, f2, hm, hb⟩
        have em : m = lp (tfD kvs) ((cs z).take (i + 1)) := best_end good ovl (fun q => by rw [q] at hl; simp at hl) hLn (by rw [hl]; exact hm) fun s y h1 h2 hy => hb s y (by rw [hl] at h1 h2; omega) hy
        subst em
        refine ⟨_, rfl, .inl ⟨rfl, _, SqL.of f2⟩, _, rfl, fo, _, _, rfl, rfl, f2, by rw [rowV_len]; exact small1000' (by omega), ?_⟩
        refine ⟨_, _, _, _, rfl, same_mut s2 hfo, ?_⟩
        rw [upd_same, rowV_succ (n := i + 1)]
    · rintro σ H1 ⟨x3, x4, x5, x6, rfl, s1, f1⟩
      have e1 : ((z.length : Int) + 1 - 1).toNat = z.length := by omega
      rw [e1] at f1
      exact ⟨_, rfl, k fo H1 hfo f1 s1⟩
theorem sc_require_book : FnScope ["value"] ["value"] (defScope s_require_book) := ⟨rfl, rfl, rfl, by decide +kernel, rfl, by decide +kernel, by decide +kernel⟩
theorem ok_require_book {f : Addr} {fd : FuncData} (F : Fun K "require_book" "require_book" s_require_book f fd) (T : Txt K mg C) : FnOk P w K mg base CX0 1 f fd ["value"] (spReqBook C) := by
  refine F.ok sc_require_book (fun vs H Q E h => ?_) (fun cdv A outer s H vs Q E hr h => ?_)
  · obtain ⟨b, dx, fs, rfl, _⟩ := h
    rfl
  · have hu := hu_of hr
    obtain ⟨b, dx, fs, rfl, hb, k⟩ := h
    refine ⟨_, (pss_one (ps_if (pt_not (pt_val (pe_callB (C8.call_isC T.ic) (by rfl) T.b_isinstance (by decide +kernel) (pa_cons (pv 0) (pa_cons (pe_glob (v := .ref C) rfl T.gC rfl) pa_nil))))) (pss_one ps_never) pss_nil)), ?_⟩
    exact ⟨_, rfl, b, dx, fs, rfl, hb, true, rfl, k⟩
theorem sc_is_text_over : FnScope ["book", "value", "sign"] ["book", "value"] (defScope s_is_text_over) := ⟨rfl, rfl, rfl, by decide +kernel, rfl, by decide +kernel, by decide +kernel⟩
theorem ok_is_text_over {f : Addr} {fd : FuncData} (F : Fun K "is_text_over" "is_text_over" s_is_text_over f fd) (T : Txt K mg C) (c_is_text : HasO P w K mg base CX0 2 "is_text" ["value"] (spIs K isText)) : FnOk P w K mg base CX0 3 f fd ["book", "value"] (spTextOver C) := by
  refine F.ok sc_is_text_over (fun vs H Q E h => ?_) (fun cdv A outer s H vs Q E hr h => ?_)
  · obtain ⟨b, kvs, z, rfl, _⟩ := h
    rfl
  · have hu := hu_of hr
    obtain ⟨b, kvs, z, rfl, B, hz, k⟩ := h
    refine ⟨_, (pss_one (ps_ret (pe_and (pe_hasO c_is_text (hr.mono (by decide)) pass0 (pa_cons (pv 1) pa_nil)) (pe_one (pe_callB (g_all K rfl) (by rfl) T.b_all (by decide +kernel) (pa_cons (pe_lc (own := [("sign", 2)]) rfl sc_is_text_over.nd (pi_str (pv 1)) (blkOk_by (own := [("sign", 2)]) (N := ["book", "value", "sign"]) (sc := defScope s_is_text_over) (by decide +kernel)) (fun _ _ _ _ _ => (pg_name (i := 2) sc_is_text_over.nd rfl (Or.inl rfl))) (fun _ _ _ _ _ => pts_nil) (fun _ _ _ _ _ => (pe_cmpR (g_in_seq K) (pv 2) (g_fld K (pv 0)) (by rfl)))) pa_nil)))))), ?_⟩
    obtain ⟨av, nd, ys, L, M, dx, d, tp, ta, od, pm, so, A⟩ := id B
    obtain ⟨_, al, _, _⟩ := ap_parts av
    
    refine ⟨_, rfl, .str z, rfl, tyd_str z, hz, fun H1 s1 => ⟨_, rfl, ?_⟩⟩
    refine itB (fun e1 => ?_) (fun e1 => ?_)
    · refine ⟨_, rfl, z, rfl, fun D hD => ?_⟩
      refine lcp_str (fun c => .bl (tfD kvs (ch c)).isSome) (fits_sz hz) (fun c acc N hc hN => ?_) ?_
      · have s2 : Same H (upd H1 D (.lst acc)) := s1.trans (same_new hD)
        refine ⟨_, rfl, _, rfl, b, C, dx, _, _, rfl, s2 _ _ A.ob, T.cl, T.n_own_alphabet, bf_alphabet, ta, _, rfl, .inr (SqT.of (s2 _ _ A.al)), rfl, flat_strs _, ?_⟩
        rw [if_neg Bool.false_ne_true, inV_str]
        have e : decide (ch c ∈ sgn (psOf kvs ys)) = (tfD kvs (ch c)).isSome := by
          rw [Bool.eq_iff_iff, decide_eq_true_eq, sgn_mem al pm, Option.isSome_iff_exists]
        rw [e]
        exact hN
      · refine ⟨D, (cs z).map fun c => (tfD kvs (ch c)).isSome, rfl, SqL.of (by rw [upd_same, List.map_map]; rfl), ?_⟩
        have e : ((cs z).map fun c => (tfD kvs (ch c)).isSome).all id = overB kvs z := by
          unfold overB
          rw [e1, List.all_map]
          rfl
        rw [e]
        exact k _ (s1.trans (same_new hD))
    · have e : overB kvs z = false := by
        unfold overB
        rw [e1]
        rfl
      have k1 := k _ s1
      rw [e] at k1
      exact k1
theorem sc_require_text : FnScope ["book", "value"] ["book", "value"] (defScope s_require_text) := ⟨rfl, rfl, rfl, by decide +kernel, rfl, by decide +kernel, by decide +kernel⟩
theorem ok_require_text {f : Addr} {fd : FuncData} (F : Fun K "require_text" "require_text" s_require_text f fd) (T : Txt K mg C) (c_is_text_over : HasO P w K mg base CX0 3 "is_text_over" ["book", "value"] (spTextOver C)) : FnOk P w K mg base CX0 4 f fd ["book", "value"] (spReqText C) := by
  refine F.ok sc_require_text (fun vs H Q E h => ?_) (fun cdv A outer s H vs Q E hr h => ?_)
  · obtain ⟨b, kvs, z, rfl, _⟩ := h
    rfl
  · have hu := hu_of hr
    obtain ⟨b, kvs, z, rfl, B, hz, ok, k⟩ := h
    refine ⟨_, (pss_one (ps_if (pt_not (pt_val (pe_hasO c_is_text_over (hr.mono (by decide)) pass0 (pa_cons (pv 0) (pa_cons (pv 1) pa_nil))))) (pss_one ps_never) pss_nil)), ?_⟩
    exact ⟨_, rfl, _, rfl, b, kvs, z, rfl, B, hz, fun H1 s1 => ⟨true, congrArg V.bl ok, k _ s1⟩⟩
theorem sc_Book_accepts : FnScope ["self", "value"] ["self", "value"] (defScope s_Book_accepts) := ⟨rfl, rfl, rfl, by decide +kernel, rfl, by decide +kernel, by decide +kernel⟩
theorem ok_Book_accepts {f : Addr} {fd : FuncData} (F : Fun K "accepts" "Book.accepts" s_Book_accepts f fd) (T : Txt K mg C) (c_is_text_over : HasO P w K mg base CX0 3 "is_text_over" ["book", "value"] (spTextOver C)) : FnOk P w K mg base CX0 4 f fd ["self", "value"] (spTextOver C) := by
  refine F.ok sc_Book_accepts (fun vs H Q E h => ?_) (fun cdv A outer s H vs Q E hr h => ?_)
  · obtain ⟨b, kvs, z, rfl, _⟩ := h
    rfl
  · have hu := hu_of hr
    obtain ⟨b, kvs, z, rfl, B, hz, k⟩ := h
    refine ⟨_, (pss_one (ps_ret (pe_hasO c_is_text_over (hr.mono (by decide)) pass0 (pa_cons (pv 0) (pa_cons (pv 1) pa_nil))))), ?_⟩
    exact ⟨_, rfl, _, rfl, b, kvs, z, rfl, B, hz, k⟩
theorem sc_front_in : FnScope ["book", "text", "prices", "many", "back"] ["book", "text"] (defScope s_front_in) := ⟨rfl, rfl, rfl, by decide +kernel, rfl, by decide +kernel, by decide +kernel⟩
theorem ok_front_in {f : Addr} {fd : FuncData} (F : Fun K "front_in" "front_in" s_front_in f fd) (T : Txt K mg C) (c_prices_along : HasO P w K mg base CX0 2 "prices_along" ["book", "text"] (spAlong C)) : FnOk P w K mg base CX0 3 f fd ["book", "text"] (spFrontIn C) := by
  refine F.ok sc_front_in (fun vs H Q E h => ?_) (fun cdv A outer s H vs Q E hr h => ?_)
  · obtain ⟨b, kvs, z, rfl, _⟩ := h
    rfl
  · have hu := hu_of hr
    obtain ⟨b, kvs, z, rfl, B, ov, hz, hx, k⟩ := h
    refine ⟨_, (pss_cons (ps_set (i := 2) sc_front_in.nd rfl (Or.inr rfl) (pe_hasO c_prices_along (hr.mono (by decide)) pass0 (pa_cons (pv 0) (pa_cons (pv 1) pa_nil))))
      (pss_cons (ps_set (i := 3) sc_front_in.nd rfl (Or.inl rfl) (pe_callB (g_min K rfl) (by rfl) T.b_min (by decide +kernel) (pa_cons (pe_lst (pa_cons (pe_op op_sub (g_fld K (pv 0)) pe_int) (pa_cons (pe_callB call_len_str (by rfl) T.b_len (by decide +kernel) (pa_cons (pv 1) pa_nil)) pa_nil))) pa_nil)))
      (pss_one (ps_ret (pe_tup (pa_cons (pe_slice sl_str (pv 1) (po_some (pe_op op_sub (pe_callB call_len_str (by rfl) T.b_len (by decide +kernel) (pa_cons (pv 1) pa_nil)) (pv 3))) po_none) (pa_cons (pe_callTy (g_tuple_of K) (by rfl) T.b_tuple (by decide +kernel) (pa_cons (pe_lc (own := [("back", 4)]) rfl sc_front_in.nd (pi_range2 (by rfl) T.b_range (pa_cons pe_int (pa_cons (pe_op op_add (pv 3) pe_int) pa_nil))) (blkOk_by (own := [("back", 4)]) (N := ["book", "text", "prices", "many", "back"]) (sc := defScope s_front_in) (by decide +kernel)) (fun _ _ _ _ _ => (pg_name (i := 4) sc_front_in.nd rfl (Or.inl rfl))) (fun _ _ _ _ _ => pts_nil) (fun _ _ _ _ _ => (pe_op op_sub (pe_ix (g_ix_list K) (pv 2) (pe_op op_sub (pe_un un_neg pe_int) (pv 4)) (fun _ _ => rfl)) (pe_ix (g_ix_list K) (pv 2) (pe_un un_neg pe_int) (fun _ _ => rfl))))) pa_nil)) pa_nil))))))), ?_⟩
    obtain ⟨av, nd, ys, Lo, M, dx, d, tp, ta, od, pm, so, A⟩ := id B
    obtain ⟨_, al, _, _⟩ := ap_parts av
    have tar := tar_of av nd
    obtain ⟨Ln, rfl⟩ : ∃ Ln : Nat, Lo = (Ln : Int) := by
      obtain ⟨q, _, e⟩ := List.mem_map.mp A.lo.1
      exact ⟨q.1.length, e.symm⟩
    obtain ⟨wide, l1, l5⟩ := wide_of av pm A.lo
    
    have lz := cs_len z
    refine ⟨_, rfl, _, rfl, b, kvs, z, rfl, B, ov, by omega, fun ro H1 hro r1 s1 => ?_⟩
    refine ⟨_, rfl, b, C, dx, _, _, rfl, s1 _ _ A.ob, T.cl, T.n_own_longest, bf_longest, _, _, rfl, rfl, _, rfl, z, rfl, fits_sz (by omega), by show 2 ≤ sizeLine; decide, fun ml hml => ?_⟩
    refine ⟨ml, [(Ln : Int) - 1, (z.length : Int)], rfl, SqL.of upd_same, by simp, fun m hm hle => ?_⟩
    have em : m = ((min (Ln - 1) z.length : Nat) : Int) := by
      have h1 := hle _ List.mem_cons_self
      have h2 := hle _ (List.mem_cons_of_mem _ List.mem_cons_self)
      have h3 : m = (Ln : Int) - 1 ∨ m = (z.length : Int) := by simpa using hm
      omega
    subst em
    have s2 : Same H (upd H1 ml (.lst [(fun i j : Int => V.int (i - j)) (Ln : Int) 1, V.int (z.length : Int)])) := s1.trans (same_new hml)
    have r2 := same_new hml (o := .lst [(fun i j : Int => V.int (i - j)) (Ln : Int) 1, V.int (z.length : Int)]) _ _ r1
    generalize (upd H1 ml (.lst [(fun i j : Int => V.int (i - j)) (Ln : Int) 1, V.int (z.length : Int)])) = H2 at s2 r2 ⊢
    have ecut : (z.length : Int) - ((min (Ln - 1) z.length : Nat) : Int) = ((z.length - min (Ln - 1) z.length : Nat) : Int) := by omega
    have hcut : cutS z (some ((z.length : Int) - ((min (Ln - 1) z.length : Nat) : Int))) none = sOf (frontW Ln (cs z)) := str_ext (by rw [ecut, cs_cutFrom (by omega), cs_sOf]; unfold frontW; rw [lz])
    refine ⟨_, rfl, _, rfl, z, rfl, fits_sz (by omega), _, rfl, _, _, rfl, rfl, _, rfl, z, rfl, fits_sz (by omega), ?_⟩
    rw [hcut]
    refine ⟨_, rfl, _, _, rfl, rfl, 1, _, rfl, ⟨by omega, by omega, by omega, by omega⟩, fun D hD => ?_⟩
    have e3 : (((min (Ln - 1) z.length : Nat) : Int) + 1 - 1).toNat = min (Ln - 1) z.length := by omega
    rw [e3]
    have hD0 : H D = none := s2.free hD
    refine lc_range (fun i H' => Same H H' ∧ H' ro = some (.lst (rowV (tfD kvs) (cs z) (z.length + 1))) ∧ H' D = some (.lst (((List.range i).map fun i => lp (tfD kvs) ((cs z).take (z.length - (i + 1))) - lp (tfD kvs) (cs z)).map V.int))) ⟨s2.trans (same_new hD), same_new hD _ _ r2, upd_same⟩ ?_ ?_
    · rintro i H3 hi ⟨s3, r3, d3⟩
      have nrD : ro ≠ D := ne_of_none r2 hD
      have full : (cs z).take z.length = cs z := List.take_of_length_le (by omega)
      refine ⟨wipe_set, _, rfl, _, rfl, _, rfl, _, _, rfl, rfl, ro, _, _, .int (lp (tfD kvs) ((cs z).take (z.length - (i + 1)))), rfl, rfl, SqL.of r3, ?_, _, rfl, _, rfl, ro, _, _, .int (lp (tfD kvs) (cs z)), rfl, rfl, SqL.of r3, by rw [rowV_succ, full]; exact atI_last, _, _, rfl, rfl, ?_⟩
      · have e5 : -(1 : Int) - (1 + (i : Int)) = -((i + 1 : Nat) : Int) - 1 := by omega
        rw [e5, atI_neg (by rw [rowV_len]; omega), rowV_len, rowV_at (by omega)]
        have e6 : z.length + 1 - 1 - (i + 1) = z.length - (i + 1) := by omega
        rw [e6]
      · refine ⟨_, d3, by rw [List.length_map, List.length_map, List.length_range]; exact small1000' (by omega), same_mut s3 hD0, by rw [upd_ne nrD]; exact r3, ?_⟩
        rw [upd_same, List.range_succ, List.map_append, List.map_append]
        rfl
    rintro H3 ⟨s3, r3, d3⟩
    refine ⟨D, _, rfl, .inl ⟨SqL.of d3, fun td htd => ?_⟩⟩
    refine ⟨by show 2 ≤ sizeLine; decide, fun t ht => ?_⟩
    refine k Ln t _ wide ⟨td, upd_same, ?_⟩ ((s3.trans (same_new htd)).trans (same_new ht))
    refine same_new ht _ _ ?_
    rw [upd_same]
    unfold frontD
    rw [lz]
theorem sc_step_in : FnScope ["book", "front", "sign", "signs", "differences", "longer", "ahead", "ends", "change", "kept", "moved", "piece", "one"] ["book", "front", "sign"] (defScope s_step_in) := ⟨rfl, rfl, rfl, by decide +kernel, rfl, by decide +kernel, by decide +kernel⟩
theorem ok_step_in {f : Addr} {fd : FuncData} (F : Fun K "step_in" "step_in" s_step_in f fd) (T : Txt K mg C) : FnOk P w K mg base CX0 2 f fd ["book", "front", "sign"] (spStepIn C) := by
  refine F.ok sc_step_in (fun vs H Q E h => ?_) (fun cdv A outer s H vs Q E hr h => ?_)
  · obtain ⟨b, f, kvs, l, ds, c, L, rfl, _⟩ := h
    rfl
  · have hu := hu_of hr
    obtain ⟨b, f, kvs, l, ds, c, L, rfl, B, fr, wL, ol, oc, hlL, hds, hll, hdi, k⟩ := h
    refine ⟨_, (pss_cons (ps_asg (pv 1) (g_tup K (n := 2) rfl (pgs_cons (pg_name (i := 3) sc_step_in.nd rfl (Or.inl rfl)) (pgs_cons (pg_name (i := 4) sc_step_in.nd rfl (Or.inl rfl)) pgs_nil))))
      (pss_cons (ps_asg (pe_tup (pa_cons (pe_op op_add_str (pv 3) (pv 2)) (pa_cons (pe_tup (pa_cons pe_int (StX.pa_star (pv 4) pa_nil))) pa_nil))) (g_tup K (n := 2) rfl (pgs_cons (pg_name (i := 5) sc_step_in.nd rfl (Or.inr rfl)) (pgs_cons (pg_name (i := 6) sc_step_in.nd rfl (Or.inr rfl)) pgs_nil))))
      (pss_cons (ps_setLc (i := 7) (own := [("piece", 11)]) rfl sc_step_in.nd rfl rfl (sw_true rfl rfl rfl (by decide +kernel)) (g_tuple K (g_fld K (pv 0))) (blkOk_by (own := [("piece", 11)]) (N := ["book", "front", "sign", "signs", "differences", "longer", "ahead", "ends", "change", "kept", "moved", "piece", "one"]) (sc := defScope s_step_in) (by decide +kernel)) (fun _ _ _ _ _ => (pg_name (i := 11) sc_step_in.nd rfl (Or.inl rfl))) (fun _ _ _ _ _ => (pts_one (pt_val (pe_m1 PySem.F.slot_str_endswith PySem.F.type_str_endswith mt_endswith (pv 5) (pv 11))))) (fun _ _ _ _ _ => (pv 11)))
      (pss_cons (ps_set (i := 8) sc_step_in.nd rfl (Or.inr rfl) (pe_callB (g_min K rfl) (by rfl) T.b_min (by decide +kernel) (pa_cons (pe_lc (own := [("piece", 11)]) rfl sc_step_in.nd (g_list K (pv 7)) (blkOk_by (own := [("piece", 11)]) (N := ["book", "front", "sign", "signs", "differences", "longer", "ahead", "ends", "change", "kept", "moved", "piece", "one"]) (sc := defScope s_step_in) (by decide +kernel)) (fun _ _ _ _ _ => (pg_name (i := 11) sc_step_in.nd rfl (Or.inl rfl))) (fun _ _ _ _ _ => pts_nil) (fun _ _ _ _ _ => (pe_op op_add (pe_dget hu (g_fld K (pv 0)) (pv 11) (fun _ _ => rfl)) (pe_ix (g_ix_tup K) (pv 6) (pe_op op_sub (pe_callB call_len_str (by rfl) T.b_len (by decide +kernel) (pa_cons (pv 11) pa_nil)) pe_int) (fun _ _ => rfl))))) pa_nil)))
      (pss_cons (ps_set (i := 9) sc_step_in.nd rfl (Or.inl rfl) (pe_slice sl_str (pv 5) (po_some (pe_callB (g_max K rfl) (by rfl) T.b_max (by decide +kernel) (pa_cons (pe_lst (pa_cons pe_int (pa_cons (pe_op op_add (pe_op op_sub (pe_callB call_len_str (by rfl) T.b_len (by decide +kernel) (pa_cons (pv 5) pa_nil)) (g_fld K (pv 0))) pe_int) pa_nil))) pa_nil))) po_none))
      (pss_cons (ps_setLc (i := 10) (own := [("one", 12)]) rfl sc_step_in.nd rfl rfl (sw_true rfl rfl rfl (by decide +kernel)) (g_tuple K (pv 6)) (blkOk_by (own := [("one", 12)]) (N := ["book", "front", "sign", "signs", "differences", "longer", "ahead", "ends", "change", "kept", "moved", "piece", "one"]) (sc := defScope s_step_in) (by decide +kernel)) (fun _ _ _ _ _ => (pg_name (i := 12) sc_step_in.nd rfl (Or.inl rfl))) (fun _ _ _ _ _ => pts_nil) (fun _ _ _ _ _ => (pe_op op_sub (pv 12) (pv 8))))
      (pss_one (ps_ret (pe_tup (pa_cons (pe_tup (pa_cons (pv 9) (pa_cons (pe_callTy (g_tuple_of K) (by rfl) T.b_tuple (by decide +kernel) (pa_cons (pe_slice (g_sl_list K) (pv 10) po_none (po_some (pe_callB call_len_str (by rfl) T.b_len (by decide +kernel) (pa_cons (pv 9) pa_nil)))) pa_nil)) pa_nil))) (pa_cons (pv 8) pa_nil))))))))))), ?_⟩
    obtain ⟨av, nd, ys, Lo, M, dx, d, tp, ta, od, pm, so, A⟩ := id B
    obtain ⟨_, al, _, _⟩ := ap_parts av
    have tar := tar_of av nd
    obtain ⟨Ln, rfl⟩ : ∃ Ln : Nat, Lo = (Ln : Int) := by
      obtain ⟨q, _, e⟩ := List.mem_map.mp A.lo.1
      exact ⟨q.1.length, e.symm⟩
    obtain ⟨wide, l1, l5⟩ := wide_of av pm A.lo
    
    have eL := wide.uniq wL
    subst eL
    obtain ⟨fd, fr1, fr2⟩ := fr
    refine ⟨_, rfl, f, _, rfl, SqT.of fr1, rfl, _, _, rfl, _, _, rfl, rfl, ?_⟩
    have lgl : (sOf l ++ ch c) = sOf (l ++ [c]) := str_ext (by rw [cs_app, cs_sOf, cs_sOf])
    refine ⟨_, rfl, _, rfl, sOf l, ch c, rfl, rfl, by rw [sOf_len]; exact fits_sz (by show l.length + 1 ≤ 100000; omega), ?_⟩
    rw [lgl]
    refine ⟨_, rfl, fd, _, rfl, .inl (SqT.of fr2), by show (ds.map V.int ++ []).length + 1 ≤ sizeLine; rw [List.append_nil, List.length_map]; exact fits_sz (by omega), fun aa haa => ?_⟩
    have ea : V.int 0 :: (ds.map V.int ++ []) = ((0 : Int) :: ds).map V.int := by rw [List.append_nil]; rfl
    refine ⟨by show 2 ≤ sizeLine; decide, fun t1 ht1 => ?_⟩
    refine ⟨t1, _, rfl, SqT.of upd_same, rfl, _, _, rfl, _, _, rfl, rfl, ?_⟩
    have s1 : Same H (upd (upd H aa (.tup (V.int 0 :: (ds.map V.int ++ [])))) t1 (.tup [.str (sOf (l ++ [c])), .ref aa])) := (same_new haa).trans (same_new ht1)
    have a1 : (upd (upd H aa (.tup (V.int 0 :: (ds.map V.int ++ [])))) t1 (.tup [.str (sOf (l ++ [c])), .ref aa])) aa = some (.tup (((0 : Int) :: ds).map V.int)) := by
      rw [← ea]
      exact same_new ht1 _ _ upd_same
    generalize (upd (upd H aa (.tup (V.int 0 :: (ds.map V.int ++ [])))) t1 (.tup [.str (sOf (l ++ [c])), .ref aa])) = H1 at s1 a1 ⊢
    have clg : cs (sOf (l ++ [c])) = l ++ [c] := cs_sOf _
    have llg : (sOf (l ++ [c])).length = l.length + 1 := by rw [sOf_len, List.length_append]; rfl
    generalize sOf (l ++ [c]) = lg at clg llg ⊢
    have pi : H tp = some (.tup (ys.map V.str)) := by
      rw [A.pi]
      unfold psOf
      rw [List.map_map]
      rfl
    have ly : ys.length ≤ 12 := by
      obtain ⟨⟨_, n2⟩, _⟩ := ap_parts av
      have h := congrArg List.length (keys_of al)
      rw [List.length_map, List.length_map] at h
      rw [pm.length_eq]
      omega
    -- the pieces at the end
    refine ⟨_, rfl, b, C, dx, _, _, rfl, s1 _ _ A.ob, T.cl, T.n_own_pieces, bf_pieces, tp, rfl, ⟨_, SqT.of (s1 _ _ pi)⟩, fun D hD => ?_⟩
    refine lcs ys (walk_tupF (K := K) V.str ys) (fun y => if Txt.endswith lg y = true then some (V.str y) else none) hD (by omega) (fun H' s => SqT.of (s _ _ (s1 _ _ pi))) ?_ ?_
    · rintro i y x H3 H4 hi s3 ⟨rfl, y', ey, rfl⟩ N M' hN hM
      have e1 : y = y' := Option.some.inj (hi.symm.trans ey)
      subst e1
      refine ⟨wipe_set, _, rfl, ⟨_, rfl⟩, _, rfl, _, _, rfl, rfl, _, rfl, ?_⟩
      refine itB (fun q => ?_) (fun q => ?_)
      · exact ⟨_, rfl, hN _ _ (if_pos q) (Same.refl _)⟩
      · exact hM _ (if_neg (by rw [q]; exact Bool.false_ne_true)) (Same.refl _)
    rintro H2 s2 e2
    rw [ends_fm] at e2
    have s02 := s1.trans s2
    obtain ⟨mpos, mmin⟩ := step_min (ds := ds) av pm clg hds oc
    have eys : ∀ y ∈ ys.filter (fun y => Txt.endswith lg y), y ∈ ys ∧ (cs y).length ≤ l.length + 1 ∧ 1 ≤ (cs y).length := fun y hy => by
      obtain ⟨h1, h2⟩ := List.mem_filter.mp hy
      obtain ⟨a, ha⟩ := ends_iff.mp h2
      have h3 := congrArg List.length ha
      rw [clg, List.length_append, List.length_append, List.length_singleton] at h3
      exact ⟨h1, by omega, (keyStrs_piece al y (pm.mem_iff.mp h1)).1⟩
    have elen : (ys.filter fun y => Txt.endswith lg y).length ≤ 12 := Nat.le_trans (List.length_filter_le _ _) ly
    generalize (ys.filter fun y => Txt.endswith lg y) = es at e2 mpos mmin eys elen
    -- the change
    refine ⟨_, rfl, D, rfl, ⟨_, SqL.of e2⟩, fun D2 hD2 => ?_⟩
    refine lcs es (walk_listF (K := K) V.str es) (fun y => some (V.int (priceIn kvs y + aheadAt ds y))) hD2 (by omega) (fun H' s => SqL.of (s _ _ e2)) ?_ ?_
    · rintro i y x H3 H4 hi s3 ⟨rfl, y', ey, rfl⟩ N M' hN hM
      have e1 : y = y' := Option.some.inj (hi.symm.trans ey)
      subst e1
      obtain ⟨y1, y2, y3⟩ := eys y (List.mem_of_getElem? hi)
      have yl := cs_len y
      have hv : valV (kvOf (psOf kvs ys)) (Sum.inr y) = some (.int (priceIn kvs y)) := by
        rw [kvOf_ps, val_fun, if_pos y1]
      have ha : ((0 : Int) :: ds)[(cs y).length - 1]? = some (aheadAt ds y) := by
        unfold aheadAt
        rw [List.getElem?_eq_getElem (by rw [List.length_cons]; omega)]
        rfl
      refine ⟨wipe_set, _, rfl, b, C, dx, _, _, rfl, (s02.trans s3) _ _ A.ob, T.cl, T.n_own_prices, bf_prices, _, rfl, d, _, rfl, .inl ⟨_, Sum.inr y, .inr ⟨od, (s02.trans s3) _ _ A.dc⟩, rfl, hv.symm⟩, _, rfl, _, rfl, y, rfl, fits_sz (by omega), _, _, rfl, rfl, aa, _, _, .int (aheadAt ds y), rfl, rfl, SqT.of ((s2.trans s3) _ _ a1), at_of (j := (cs y).length - 1) (by omega) (by rw [List.getElem?_map, ha]; rfl), _, _, rfl, rfl, hN _ _ rfl (Same.refl _)⟩
    rintro H3 s3 e3
    have em : (es.filterMap fun y => some (V.int (priceIn kvs y + aheadAt ds y))) = (es.map fun y => priceIn kvs y + aheadAt ds y).map V.int := by
      rw [fm_some, List.map_map]
      rfl
    rw [em] at e3
    refine ⟨D2, _, rfl, SqL.of e3, mpos, fun m hm hle => ?_⟩
    have stp := mmin m hm hle
    have s03 := s02.trans s3
    have a3 := s3 _ _ (s2 _ _ a1)
    -- what is kept
    refine ⟨_, rfl, _, rfl, lg, rfl, fits_sz (by omega), _, rfl, b, C, dx, _, _, rfl, s03 _ _ A.ob, T.cl, T.n_own_longest, bf_longest, _, _, rfl, rfl, _, _, rfl, rfl, by show 2 ≤ sizeLine; decide, fun ml hml => ?_⟩
    refine ⟨ml, [0, (lg.length : Int) - (Ln : Int) + 1], rfl, SqL.of upd_same, by simp, fun q hq hqle => ?_⟩
    have eq' : q = ((l.length + 1 - (Ln - 1) : Nat) : Int) := by
      have h1 := hqle _ List.mem_cons_self
      have h2 := hqle _ (List.mem_cons_of_mem _ List.mem_cons_self)
      have h3 : q = 0 ∨ q = (lg.length : Int) - (Ln : Int) + 1 := by simpa using hq
      omega
    subst eq'
    refine ⟨_, rfl, lg, rfl, fits_sz (by omega), ?_⟩
    have hcut : cutS lg (some ((l.length + 1 - (Ln - 1) : Nat) : Int)) none = sOf (stepW Ln l c) := str_ext (by rw [cs_cutFrom (by omega), cs_sOf, clg]; rfl)
    rw [hcut]
    have s04 := s03.trans (same_new hml (o := .lst [V.int 0, (fun i j : Int => V.int (i + j)) ((lg.length : Int) - (Ln : Int)) 1]))
    have a4 := same_new hml (o := .lst [V.int 0, (fun i j : Int => V.int (i + j)) ((lg.length : Int) - (Ln : Int)) 1]) _ _ a3
    -- all moved by the change
    refine ⟨_, rfl, aa, rfl, ⟨_, SqT.of a4⟩, fun D3 hD3 => ?_⟩
    refine lcs ((0 : Int) :: ds) (walk_tupF (K := K) V.int ((0 : Int) :: ds)) (fun x => some (V.int (x - m))) hD3 (by rw [List.length_cons]; omega) (fun H' s => SqT.of (s _ _ a4)) ?_ ?_
    · rintro i y x H5 H6 hi s5 ⟨rfl, y', ey, rfl⟩ N M' hN hM
      have e1 : y = y' := Option.some.inj (hi.symm.trans ey)
      subst e1
      exact ⟨wipe_set, _, rfl, _, rfl, _, _, rfl, rfl, hN _ _ rfl (Same.refl _)⟩
    rintro H5 s5 e5
    have emv : (((0 : Int) :: ds).filterMap fun x => some (V.int (x - m))) = (((0 : Int) :: ds).map fun x => x - m).map V.int := by
      rw [fm_some, List.map_map]
      rfl
    rw [emv] at e5
    have s05 := s04.trans s5
    have swl : (sOf (stepW Ln l c)).length = (stepW Ln l c).length := sOf_len _
    have swle : (stepW Ln l c).length ≤ l.length + 1 := by rw [stepW_len]; omega
    refine ⟨_, rfl, _, rfl, _, rfl, _, rfl, fits_sz (by rw [swl]; omega), _, rfl, D3, _, rfl, SqL.of e5, fun q1 hq1 => ?_⟩
    refine ⟨q1, _, rfl, .inl ⟨SqL.of upd_same, fun td htd => ?_⟩⟩
    have ecut : cutV ((((0 : Int) :: ds).map fun x => x - m).map V.int) none (some ((sOf (stepW Ln l c)).length : Int)) = (stepD Ln l ds c m).map V.int := by
      rw [cutV_to (by rw [swl, List.length_map, List.length_map, List.length_cons]; omega), swl, ← List.map_take]
      rfl
    rw [ecut] at htd ⊢
    refine ⟨by show 2 ≤ sizeLine; decide, fun u hu => ?_⟩
    refine ⟨_, rfl, by show 2 ≤ sizeLine; decide, fun t ht => ?_⟩
    refine k t m _ stp ⟨u, upd_same, td, same_new ht _ _ upd_same, same_new ht _ _ (same_new hu _ _ upd_same)⟩ ((((s05.trans (same_new hq1)).trans (same_new htd)).trans (same_new hu)).trans (same_new ht))
theorem sc_has_front_form : FnScope ["book", "value", "signs", "differences", "one"] ["book", "value"] (defScope s_has_front_form) := ⟨rfl, rfl, rfl, by decide +kernel, rfl, by decide +kernel, by decide +kernel⟩
theorem ok_has_front_form {f : Addr} {fd : FuncData} (F : Fun K "has_front_form" "has_front_form" s_has_front_form f fd) (T : Txt K mg C) (c_Book_accepts : C8.Met P w K mg base 4 C "accepts" (spTextOver C) []) (c_is_integer : HasO P w K mg base CX0 1 "is_integer" ["value"] (spIsI K isInteger)) : FnOk P w K mg base CX0 5 f fd ["book", "value"] (spForm C) := by
  refine F.ok sc_has_front_form (fun vs H Q E h => ?_) (fun cdv A outer s H vs Q E hr h => ?_)
  · obtain ⟨b, f, kvs, l, ds, L, rfl, _⟩ := h
    rfl
  · have hu := hu_of hr
    obtain ⟨b, f, kvs, l, ds, L, rfl, fa, k⟩ := h
    refine ⟨_, (pss_cons (ps_if (PW.pt (pw_or (pt_not (pt_val (pe_callB (g_isi K) (by rfl) T.b_isinstance (by decide +kernel) (pa_cons (pv 1) (pa_cons (pe_bltn (v := .ty "tuple") rfl T.b_tuple (by decide +kernel) rfl) pa_nil))))) (pw_or (pt_cmpR op_ne (pe_callB (g_len_seq K) (by rfl) T.b_len (by decide +kernel) (pa_cons (pv 1) pa_nil)) pe_int (nomark _)) (pw_or1 (pt_not (pt_val (pe_callB (g_isi K) (by rfl) T.b_isinstance (by decide +kernel) (pa_cons (pe_ix (g_ix_tup K) (pv 1) pe_int (fun _ _ => rfl)) (pa_cons (pe_bltn (v := .ty "tuple") rfl T.b_tuple (by decide +kernel) rfl) pa_nil))))))))) (pss_one (ps_ret pe_bl)) pss_nil)
      (pss_cons (ps_asg (pv 1) (g_tup K (n := 2) rfl (pgs_cons (pg_name (i := 2) sc_has_front_form.nd rfl (Or.inl rfl)) (pgs_cons (pg_name (i := 3) sc_has_front_form.nd rfl (Or.inl rfl)) pgs_nil))))
      (pss_cons (ps_if (PW.pt (pw_or (pt_not (pt_val (C8.pe_mt c_Book_accepts hr (by decide) (pv 0) (pa_cons (pv 2) pa_nil)))) (pw_or (pt_cmpR op_ge (pe_callB call_len_str (by rfl) T.b_len (by decide +kernel) (pa_cons (pv 2) pa_nil)) (g_fld K (pv 0)) (nomark _)) (pw_or1 (pt_cmpR op_ne (pe_callB call_len_str (by rfl) T.b_len (by decide +kernel) (pa_cons (pv 2) pa_nil)) (pe_callB (g_len_seq K) (by rfl) T.b_len (by decide +kernel) (pa_cons (pv 3) pa_nil)) (nomark _)))))) (pss_one (ps_ret pe_bl)) pss_nil)
      (pss_one (ps_ret (pe_callB (g_all K rfl) (by rfl) T.b_all (by decide +kernel) (pa_cons (pe_lc (own := [("one", 4)]) rfl sc_has_front_form.nd (g_tuple K (pv 3)) (blkOk_by (own := [("one", 4)]) (N := ["book", "value", "signs", "differences", "one"]) (sc := defScope s_has_front_form) (by decide +kernel)) (fun _ _ _ _ _ => (pg_name (i := 4) sc_has_front_form.nd rfl (Or.inl rfl))) (fun _ _ _ _ _ => pts_nil) (fun _ _ _ _ _ => (pe_hasO c_is_integer (hr.mono (by decide)) pass0 (pa_cons (pv 4) pa_nil)))) pa_nil))))))), ?_⟩
    have B := fa.bk
    obtain ⟨av, nd, ys, Lo, M, dx, d, tp, ta, od, pm, so, A⟩ := id B
    obtain ⟨_, al, _, _⟩ := ap_parts av
    have tar := tar_of av nd
    obtain ⟨Ln, rfl⟩ : ∃ Ln : Nat, Lo = (Ln : Int) := by
      obtain ⟨q, _, e⟩ := List.mem_map.mp A.lo.1
      exact ⟨q.1.length, e.symm⟩
    obtain ⟨wide, l1, l5⟩ := wide_of av pm A.lo
    
    have eL := wide.uniq fa.wd
    subst eL
    obtain ⟨fd, fr1, fr2⟩ := fa.fr
    have ll := fa.ln
    have dl := fa.dl
    have lsl : (sOf l).length = l.length := sOf_len l
    have ok : overB kvs (sOf l) = true := overB_true (isText_of (by rw [cs_sOf]; omega) (by rw [cs_sOf]; exact fa.lt)) (by rw [cs_sOf]; exact fa.ov)
    refine ⟨_, rfl, _, _, _, _, _, rfl, .ty _, .base (.tup fr1), kit_ty (show kitB "tuple" "tuple" = some true by decide +kernel), _, rfl, ?_⟩
    refine ⟨_, rfl, f, _, rfl, .inr (SqT.of fr1), rfl, false, rfl, ?_⟩
    refine ⟨_, rfl, f, _, _, _, rfl, rfl, SqT.of fr1, at_of (j := 1) rfl rfl, ?_⟩
    refine ⟨_, _, _, _, _, rfl, .ty _, .base (.tup fr2), kit_ty (show kitB "tuple" "tuple" = some true by decide +kernel), true, rfl, ?_⟩
    refine ⟨_, rfl, f, _, rfl, SqT.of fr1, rfl, _, _, rfl, _, _, rfl, rfl, ?_⟩
    have noA : (bookF d tp ta (Ln : Int) M).lookup ("accepts" : Str) = none := bf_no (by decide +kernel) (by decide +kernel) (by decide +kernel) (by decide +kernel) (by decide +kernel)
    refine ⟨_, rfl, b, dx, _, rfl, A.ob, noA, _, rfl, b, kvs, sOf l, rfl, B, by omega, fun H1 s1 => ⟨true, congrArg V.bl ok, ?_⟩⟩
    refine itF rfl ?_
    refine ⟨_, rfl, sOf l, rfl, fits_sz (by omega), _, rfl, b, C, dx, _, _, rfl, s1 _ _ A.ob, T.cl, T.n_own_longest, bf_longest, _, _, rfl, rfl, false, congrArg V.bl (decide_eq_false (by omega)), ?_⟩
    refine itF rfl ?_
    refine ⟨_, rfl, sOf l, rfl, fits_sz (by omega), _, rfl, fd, _, rfl, .inr (SqT.of (s1 _ _ fr2)), rfl, false, by rw [lsl, List.length_map, dl, decide_eq_true rfl]; rfl, ?_⟩
    refine itF rfl ?_
    -- each difference
    refine ⟨_, rfl, fd, rfl, ⟨_, SqT.of (s1 _ _ fr2)⟩, fun D hD => ?_⟩
    refine lcs ds (walk_tupF (K := K) V.int ds) (fun _ => some (V.bl true)) hD (by omega) (fun H' s => SqT.of (s _ _ (s1 _ _ fr2))) ?_ ?_
    · rintro i y x H3 H4 hi s3 ⟨rfl, y', ey, rfl⟩ N M' hN hM
      have e1 : y = y' := Option.some.inj (hi.symm.trans ey)
      subst e1
      refine ⟨wipe_set, _, rfl, .int y, rfl, tyd_int y, fun H5 s5 => ?_⟩
      rw [fa.di y (List.mem_of_getElem? hi)]
      exact hN _ _ rfl s5
    rintro H3 s3 e3
    have em : (ds.filterMap fun _ => some (V.bl true)) = (ds.map fun _ => true).map V.bl := by
      rw [fm_some, List.map_map]
      rfl
    rw [em] at e3
    refine ⟨D, _, rfl, SqL.of e3, ?_⟩
    have ea : (ds.map fun _ => true).all id = true := by
      rw [List.all_map, List.all_eq_true]
      intro _ _
      rfl
    rw [ea]
    exact k _ (s1.trans s3)
theorem sc_require_sign : FnScope ["book", "value"] ["book", "value"] (defScope s_require_sign) := ⟨rfl, rfl, rfl, by decide +kernel, rfl, by decide +kernel, by decide +kernel⟩
theorem ok_require_sign {f : Addr} {fd : FuncData} (F : Fun K "require_sign" "require_sign" s_require_sign f fd) (T : Txt K mg C) : FnOk P w K mg base CX0 1 f fd ["book", "value"] (spReqSign C) := by
  refine F.ok sc_require_sign (fun vs H Q E h => ?_) (fun cdv A outer s H vs Q E hr h => ?_)
  · obtain ⟨b, kvs, c, rfl, _⟩ := h
    rfl
  · have hu := hu_of hr
    obtain ⟨b, kvs, c, rfl, B, oc, k⟩ := h
    refine ⟨_, (pss_one (ps_if (PW.pt (pw_or (pt_not (pt_val (pe_callB (g_isi K) (by rfl) T.b_isinstance (by decide +kernel) (pa_cons (pv 1) (pa_cons (pe_bltn (v := .ty "str") rfl T.b_str (by decide +kernel) rfl) pa_nil))))) (pw_or1 (pt_cmpR (g_notIn_seq K) (pv 1) (g_fld K (pv 0)) (by rfl))))) (pss_one ps_never) pss_nil)), ?_⟩
    obtain ⟨av, nd, ys, Lo, M, dx, d, tp, ta, od, pm, so, A⟩ := id B
    obtain ⟨_, al, _, _⟩ := ap_parts av
    have tar := tar_of av nd
    obtain ⟨Ln, rfl⟩ : ∃ Ln : Nat, Lo = (Ln : Int) := by
      obtain ⟨q, _, e⟩ := List.mem_map.mp A.lo.1
      exact ⟨q.1.length, e.symm⟩
    obtain ⟨wide, l1, l5⟩ := wide_of av pm A.lo
    
    refine ⟨_, rfl, _, _, _, _, _, rfl, .ty _, .base (.str (ch c)), kit_ty (show kitB "str" "str" = some true by decide +kernel), true, rfl, ?_⟩
    refine ⟨_, rfl, _, rfl, b, C, dx, _, _, rfl, A.ob, T.cl, T.n_own_alphabet, bf_alphabet, ta, _, rfl, .inr (SqT.of A.al), rfl, flat_strs _, ?_⟩
    have e : inV (.str (ch c)) ((sgn (psOf kvs ys)).map V.str) = true := by
      rw [inV_str, decide_eq_true_eq, sgn_mem al pm]
      exact oc c List.mem_cons_self
    rw [e]
    exact ⟨false, rfl, k _ (Same.refl _)⟩
theorem sc_Book___contains__ : FnScope ["self", "value"] ["self", "value"] (defScope s_Book___contains__) := ⟨rfl, rfl, rfl, by decide +kernel, rfl, by decide +kernel, by decide +kernel⟩
theorem ok_Book___contains__ {f : Addr} {fd : FuncData} (F : Fun K "__contains__" "Book.__contains__" s_Book___contains__ f fd) (T : Txt K mg C) (c_is_piece : HasO P w K mg base CX0 2 "is_piece" ["value"] (spIs K isPiece)) : FnOk P w K mg base CX0 3 f fd ["self", "value"] (spHasKey C) := by
  refine F.ok sc_Book___contains__ (fun vs H Q E h => ?_) (fun cdv A outer s H vs Q E hr h => ?_)
  · obtain ⟨b, kvs, z, rfl, _⟩ := h
    rfl
  · have hu := hu_of hr
    obtain ⟨b, kvs, z, rfl, B, hz, k⟩ := h
    refine ⟨_, (pss_one (ps_ret (pe_and (pe_hasO c_is_piece (hr.mono (by decide)) pass0 (pa_cons (pv 1) pa_nil)) (pe_one (pe_cmp (pc_din hu (pv 1) (g_fld K (pv 0)))))))), ?_⟩
    obtain ⟨av, nd, ys, Lo, Mo, dx, d, tp, ta, od, pm, so, A⟩ := id B
    obtain ⟨_, al, _, _⟩ := ap_parts av
    
    have szz : szV (.str z) := show z.length ≤ 100000 by omega
    refine ⟨_, rfl, .str z, rfl, tyd_str z, szz, fun H1 s1 => ?_⟩
    have A1 := A.same s1
    have F0 : tfD (kvOf (psOf kvs ys)) z = tfD kvs z := congrFun (tf_psOf al pm) z
    refine ⟨isPiece (.str z), rfl, ?_⟩
    refine itB (fun q => ?_) (fun q => ?_)
    · refine ⟨_, rfl, _, rfl, b, C, dx, _, _, rfl, A1.ob, T.cl, T.n_own_prices, bf_prices, d, _, rfl, .inl ⟨_, Sum.inr z, .inr ⟨od, A1.dc⟩, rfl, rfl⟩, ?_⟩
      have e : (valV (kvOf (psOf kvs ys)) (Sum.inr z)).isSome = (tfD kvs z).isSome := by
        rw [← F0]
        unfold tfD
        rw [kvOf_ps, val_fun]
        split <;> rfl
      have fin := k H1 s1
      rw [← e] at fin
      exact fin
    · have no : tfD kvs z = none := by
        cases e : tfD kvs z with
        | none => rfl
        | some p =>
          obtain ⟨h1, h2, h3⟩ := keyStrs_piece al z ((tf_key al).mpr ⟨p, e⟩)
          rw [isPiece_of h3, decide_eq_true h1, decide_eq_true h2] at q
          cases q
      have fin := k H1 s1
      rw [no] at fin
      exact fin
theorem sc__law_reel_of : FnScope ["script", "spot", "cell", "great", "blend"] ["script", "spot"] (defScope s__law_reel_of) := ⟨rfl, rfl, rfl, by decide +kernel, rfl, by decide +kernel, by decide +kernel⟩
theorem ok__law_reel_of {f : Addr} {fd : FuncData} (F : Fun K "_law_reel_of" "_law_reel_of" s__law_reel_of f fd) (T : Txt K mg C) : FnG P w K mg base CX0 1 f fd ["script", "spot"] (spDice K) := by
  refine fn_g0 F sc__law_reel_of (fun vs H Q E h => ?_) (fun cdv A outer s H vs Q E hg hr h => ?_)
  · obtain ⟨a, ns, s, rfl, _⟩ := h
    rfl
  · have hu := hu_of hr
    obtain ⟨a, ns, s, rfl, hS, hn, hs0, hs1, k⟩ := h
    refine ⟨_, (pss_cons (ps_set (i := 2) sc__law_reel_of.nd rfl (Or.inl rfl) (pe_ifExp (pt_cmpR op_lt (pv 1) (pe_callB (g_len_seq K) (by rfl) T.b_len (by decide +kernel) (pa_cons (pv 0) pa_nil)) (nomark _)) (pe_ix (g_ix_list K) (pv 0) (pv 1) (fun _ _ => rfl)) (pe_op op_add (pe_op op_mulW pe_int (pv 1)) pe_int)))
      (pss_cons (ps_set (i := 3) sc__law_reel_of.nd rfl (Or.inl rfl) (pe_op op_mod (pe_callTy call_int1 (by rfl) T.b_int (by decide +kernel) (pa_cons (pe_callB call_abs (by rfl) T.b_abs (by decide +kernel) (pa_cons (pv 2) pa_nil)) pa_nil)) (pe_op op_powW (pe_op op_powW pe_int pe_int) pe_int)))
      (pss_cons (ps_set (i := 4) sc__law_reel_of.nd rfl (Or.inl rfl) (pe_op op_add (pe_op op_add (pe_op op_add (pe_op op_mulW (pv 3) pe_int) (pe_op op_mulW pe_int (pv 1))) (pe_op op_mulW pe_int (pe_callTy call_int1 (by rfl) T.b_int (by decide +kernel) (pa_cons (pe_cmpR op_lt (pv 2) pe_int (nomark _)) pa_nil)))) pe_int))
      (pss_one (ps_ret (pe_lst (pa_cons (pe_callB (call_max2 rfl) (by rfl) T.b_max (by decide +kernel) (pa_cons pe_int (pa_cons (pe_op op_sub (pv 3) (pe_op op_powW pe_int pe_int)) pa_nil))) (pa_cons (pe_op op_mod (pe_callTy call_int1 (by rfl) T.b_int (by decide +kernel) (pa_cons (pv 4) pa_nil)) pe_int) (pa_cons pe_int pa_nil))))))))), ?_⟩
    refine tif_int (c := decide (s < ((ns.map V.int).length : Int))) (fun _ => True) (fun N hN => ?_) (fun e N hN => ?_) (fun e N hN => ?_) (fun cell _ => ?_)
    · exact ⟨_, rfl, _, rfl, _, _, rfl, .inl hS, _, _, rfl, rfl, _, rfl, hN⟩
    · have e1 : s.toNat < ns.length := by
        have := of_decide_eq_true e
        rw [List.length_map] at this
        omega
      refine ⟨_, rfl, _, rfl, _, _, _, _, rfl, rfl, hS, at_of (j := s.toNat) (by omega) (by rw [List.getElem?_map, List.getElem?_eq_getElem e1]; rfl), ?_⟩
      exact hN _ trivial
    · refine ⟨_, rfl, _, _, rfl, rfl, wide_mul (a := 8) (b := 8) (by decide) (by omega) (by decide) (by decide) (by decide), _, _, rfl, rfl, ?_⟩
      exact hN _ trivial
    · refine ⟨_, rfl, _, rfl, .inl ⟨_, rfl, _, _, rfl, rfl, ⟨by decide, by decide +kernel⟩, _, _, rfl, rfl, ⟨by decide, by decide +kernel⟩, _, _, rfl, rfl, (show (0 : Int) < ((10 : Int) ^ (58 : Int).toNat) ^ (10 : Int).toNat by decide +kernel), ?_⟩⟩
      have wb := big_mod (x := if cell < 0 then -cell else cell) (m := ((10 : Int) ^ (58 : Int).toNat) ^ (10 : Int).toNat) (by decide +kernel) (by decide +kernel)
      dsimp only [gName, tRet, tLst, tCons]
      generalize (if cell < 0 then -cell else cell) % ((10 : Int) ^ (58 : Int).toNat) ^ (10 : Int).toNat = great at wb ⊢
      obtain ⟨w0, w1⟩ := wb
      refine ⟨_, rfl, _, _, rfl, rfl, wide_mul (a := 2420) (b := 40) w1 (by decide) (by decide) (by decide) (by decide), _, rfl, _, _, rfl, rfl, wide_mul (a := 20) (b := 8) (by decide) (by omega) (by decide) (by decide) (by decide), _, _, rfl, rfl, _, rfl, _, _, rfl, rfl, .inr ⟨_, rfl, _, _, rfl, rfl, wide_mul (a := 8) (b := 8) (by decide) (by split <;> decide) (by decide) (by decide) (by decide), _, _, rfl, rfl, _, _, rfl, rfl, ?_⟩⟩
      dsimp only [gName, tRet, tLst, tCons]
      generalize great * 1000033 + 7027 * s + 37 * (if decide (cell < 0) = true then (1 : Int) else 0) + 11 = blend
      refine ⟨_, rfl, _, _, rfl, rfl, ⟨by decide, by decide +kernel⟩, _, _, rfl, rfl, _, _, rfl, _, rfl, .inl ⟨_, rfl, _, _, rfl, rfl, (show (0 : Int) < 2305843009213693973 by decide), ?_⟩⟩
      refine ⟨(by show 3 ≤ sizeLine; decide), fun p hp => ?_⟩
      obtain ⟨m0, m1⟩ := big_mod (x := blend) (m := 2305843009213693973) (by decide) (by decide +kernel)
      exact k p _ hp (same_new hp) ⟨_, _, _, upd_same, big_cut w0 w1 (by decide +kernel), big_of m0 m1, Int.le_refl _, by omega⟩
theorem sc__law_spin : FnScope ["reel", "total", "found", "one", "two"] ["reel", "total"] (defScope s__law_spin) := ⟨rfl, rfl, rfl, by decide +kernel, rfl, by decide +kernel, by decide +kernel⟩
theorem ok__law_spin {f : Addr} {fd : FuncData} (F : Fun K "_law_spin" "_law_spin" s__law_spin f fd) (T : Txt K mg C) : FnG P w K mg base CX0 1 f fd ["reel", "total"] (spRollB) := by
  refine fn_g0 F sc__law_spin (fun vs H Q E h => ?_) (fun cdv A outer s H vs Q E hg hr h => ?_)
  · obtain ⟨l, u, n, rfl, _⟩ := h
    rfl
  · have hu := hu_of hr
    obtain ⟨l, u, n, rfl, hu0, hu1, ⟨d0, d1, d2, hD, b0, b1, p2, q2⟩, k⟩ := h
    refine ⟨_, (pss_cons (ps_if (pt_cmpR op_gt (pe_ix (g_ix_list K) (pv 0) pe_int (fun _ _ => rfl)) pe_int (nomark _)) (pss_cons (ps_set (i := 2) sc__law_spin.nd rfl (Or.inl rfl) (pe_op op_mod (pe_callTy call_int1 (by rfl) T.b_int (by decide +kernel) (pa_cons (pe_ix (g_ix_list K) (pv 0) pe_int (fun _ _ => rfl)) pa_nil)) (pv 1)))
      (pss_cons (ps_asg (pe_op op_fdivW (pe_ix (g_ix_list K) (pv 0) pe_int (fun _ _ => rfl)) (pv 1)) (pg_sub (pv 0) pe_int set_list))
      (pss_one (ps_ret (pv 2))))) pss_nil)
      (pss_cons (ps_asg (pe_op op_add (pe_ix (g_ix_list K) (pv 0) pe_int (fun _ _ => rfl)) pe_int) (pg_sub (pv 0) pe_int set_list))
      (pss_cons (ps_set (i := 3) sc__law_spin.nd rfl (Or.inl rfl) (pe_op op_mod (pe_callTy call_int1 (by rfl) T.b_int (by decide +kernel) (pa_cons (pe_op op_add (pe_ix (g_ix_list K) (pv 0) pe_int (fun _ _ => rfl)) (pe_op op_mulW pe_int (pe_ix (g_ix_list K) (pv 0) pe_int (fun _ _ => rfl)))) pa_nil)) pe_int))
      (pss_cons (ps_set (i := 4) sc__law_spin.nd rfl (Or.inl rfl) (pe_op op_add (pe_op op_mulW (pe_op op_mod (pe_callTy call_int1 (by rfl) T.b_int (by decide +kernel) (pa_cons (pe_op op_mulW (pv 3) (pv 3)) pa_nil)) pe_int) (pv 3)) (pe_op op_mulW pe_int (pe_ix (g_ix_list K) (pv 0) pe_int (fun _ _ => rfl)))))
      (pss_one (ps_ret (pe_op op_mod (pe_callTy call_int1 (by rfl) T.b_int (by decide +kernel) (pa_cons (pe_op op_fdivW (pe_op op_mod (pe_callTy call_int1 (by rfl) T.b_int (by decide +kernel) (pa_cons (pe_op op_add (pv 4) (pe_ix (g_ix_list K) (pv 0) pe_int (fun _ _ => rfl))) pa_nil)) pe_int) pe_int) pa_nil)) (pv 1)))))))), ?_⟩
    refine ⟨_, rfl, _, _, _, _, rfl, rfl, SqL.of hD, rfl, _, _, rfl, rfl, _, rfl, ?_⟩
    have u0 : 0 < u := by omega
    refine itB (fun e => ?_) (fun e => ?_)
    · refine ⟨_, rfl, _, _, _, _, rfl, rfl, SqL.of hD, rfl, .inl ⟨_, rfl, _, rfl, _, _, rfl, rfl, u0, ?_⟩⟩
      refine ⟨_, rfl, _, _, _, _, rfl, rfl, SqL.of hD, rfl, _, rfl, _, _, rfl, rfl, wide_div (b := 210) u0 (by omega) (by decide) (by decide), ?_⟩
      refine ⟨_, rfl, _, _, _, _, rfl, rfl, hD, rfl, ?_⟩
      refine ⟨_, rfl, ?_⟩
      exact k _ _ (Int.emod_nonneg _ (by omega)) (Int.emod_lt_of_pos _ u0) Kp.upd ⟨_, _, _, upd_same, big_div b0 hu0, b1, p2, by omega⟩
    · refine ⟨_, rfl, _, _, _, _, rfl, rfl, SqL.of hD, rfl, _, _, rfl, rfl, _, rfl, _, _, _, _, rfl, rfl, hD, rfl, ?_⟩
      have hD2 : upd H l (.lst [.int d0, .int d1, .int (d2 + 1)]) l = some (.lst [.int d0, .int d1, .int (d2 + 1)]) := upd_same
      refine ⟨_, rfl, _, _, _, _, rfl, rfl, SqL.of hD2, rfl, _, rfl, _, _, _, _, rfl, rfl, SqL.of hD2, rfl, _, _, rfl, rfl, wide_mul (a := 40) (b := 64) (by decide) (by omega) (by decide) (by decide) (by decide), _, _, rfl, rfl, .inl ⟨_, rfl, _, _, rfl, rfl, (show (0 : Int) < 2305843009213693951 by decide), ?_⟩⟩
      have o1 := Int.emod_nonneg (d1 + 961748927 * (d2 + 1)) (by decide : (2305843009213693951 : Int) ≠ 0)
      have o2 := Int.emod_lt_of_pos (d1 + 961748927 * (d2 + 1)) (by decide : (0 : Int) < 2305843009213693951)
      dsimp only
      generalize (d1 + 961748927 * (d2 + 1)) % 2305843009213693951 = one' at o1 o2 ⊢
      refine ⟨_, rfl, _, rfl, _, _, rfl, rfl, wide_mul (a := 64) (b := 64) (by omega) (by omega) (by decide) (by decide) (by decide), .inl ⟨_, rfl, _, _, rfl, rfl, (show (0 : Int) < 1152921504606846899 by decide), ?_⟩⟩
      have t1 := Int.emod_nonneg (one' * one') (by decide : (1152921504606846899 : Int) ≠ 0)
      have t2 := Int.emod_lt_of_pos (one' * one') (by decide : (0 : Int) < 1152921504606846899)
      dsimp only
      generalize (one' * one') % 1152921504606846899 = two' at t1 t2 ⊢
      refine ⟨_, rfl, _, _, rfl, rfl, wide_mul (a := 64) (b := 64) (by omega) (by omega) (by decide) (by decide) (by decide), _, rfl, _, _, _, _, rfl, rfl, SqL.of hD2, rfl, _, _, rfl, rfl, wide_mul (a := 20) (b := 64) (by decide) (by omega) (by decide) (by decide) (by decide), _, _, rfl, rfl, ?_⟩
      refine ⟨_, rfl, _, rfl, _, _, _, _, rfl, rfl, SqL.of hD2, rfl, _, _, rfl, rfl, .inl ⟨_, rfl, ?_⟩⟩
      refine ⟨_, _, rfl, rfl, (show (0 : Int) < 4398046511119 by decide), _, _, rfl, rfl, wide_div (b := 64) (by decide) (by decide) (by decide) (by decide), .inl ⟨_, rfl, _, rfl, _, _, rfl, rfl, u0, ?_⟩⟩
      exact k _ _ (Int.emod_nonneg _ (by omega)) (Int.emod_lt_of_pos _ u0) Kp.upd ⟨_, _, _, hD2, b0, b1, by omega, by omega⟩
theorem sc__law_pick : FnScope ["reel", "items"] ["reel", "items"] (defScope s__law_pick) := ⟨rfl, rfl, rfl, by decide +kernel, rfl, by decide +kernel, by decide +kernel⟩
theorem ok__law_pick {f : Addr} {fd : FuncData} (F : Fun K "_law_pick" "_law_pick" s__law_pick f fd) (T : Txt K mg C) (c__law_spin : Has P w K mg base CX0 1 "_law_spin" ["reel", "total"] (spRollB)) : FnG P w K mg base CX0 2 f fd ["reel", "items"] (spPick K) := by
  refine fn_g0 F sc__law_pick (fun vs H Q E h => ?_) (fun cdv A outer s H vs Q E hg hr h => ?_)
  · obtain ⟨l, x, ys, n, rfl, _⟩ := h
    rfl
  · have hu := hu_of hr
    obtain ⟨l, x, ys, n, rfl, S, ne, hl, D, k⟩ := h
    have hpos : 0 < ys.length := List.length_pos_iff.mpr ne
    refine ⟨_, (pss_one (ps_ret (pe_ix (g_ix_seq K) (pv 1) (pe_has c__law_spin hg (hr.mono (by decide)) pass0 (pa_cons (pv 0) (pa_cons (pe_callB (g_len K) (by rfl) T.b_len (by decide +kernel) (pa_cons (pv 1) pa_nil)) pa_nil))) (fun _ _ => rfl)))), ?_⟩
    have hlen : LenV K x H ys.length := by
      cases S with
      | lst _ h => exact .inl ⟨_, h, rfl⟩
      | tup _ h => exact .inr ⟨_, h, rfl⟩
      | str h e => exact ⟨fits_sz (by omega), by rw [e, signsV_len]⟩
    refine ⟨_, rfl, _, rfl, _, rfl, _, _, rfl, hlen, l, _, n, rfl, by omega, by omega, D, fun r H' r0 r1 kp D' => ?_⟩
    have hr1 : r.toNat < ys.length := by omega
    have hat : ys[r.toNat]? = some ys[r.toNat] := List.getElem?_eq_getElem hr1
    have hmem : ys[r.toNat] ∈ ys := List.getElem_mem hr1
    cases S with
    | lst n h => exact .inl ⟨_, _, _, _, rfl, rfl, kp.seq n h, at_of (j := r.toNat) (by omega) hat, k _ _ hmem kp D'⟩
    | tup n h => exact .inr (.inl ⟨_, _, _, _, rfl, rfl, kp.tup n h, at_of (j := r.toNat) (by omega) hat, k _ _ hmem kp D'⟩)
    | @str z _ h e =>
      subst e
      have hc : ∃ c, (cs z)[r.toNat]? = some c := ⟨_, List.getElem?_eq_getElem (by rw [cs_len, ← signsV_len]; exact hr1)⟩
      obtain ⟨c, hc⟩ := hc
      have e2 : atI (cs z) r = some c := by
        have : r = ((r.toNat : Nat) : Int) := by omega
        rw [this]
        exact atI_nat hc
      refine .inr (.inr ⟨_, _, _, rfl, rfl, fits_sz (by omega), e2, ?_⟩)
      refine k _ _ ?_ kp D'
      unfold signsV
      exact List.mem_map.mpr ⟨c, List.mem_of_getElem? hc, rfl⟩
theorem sc__law_mixed : FnScope ["reel", "items", "left", "found"] ["reel", "items"] (defScope s__law_mixed) := ⟨rfl, rfl, rfl, by decide +kernel, rfl, by decide +kernel, by decide +kernel⟩
theorem ok__law_mixed {f : Addr} {fd : FuncData} (F : Fun K "_law_mixed" "_law_mixed" s__law_mixed f fd) (T : Txt K mg C) (c__law_spin : Has P w K mg base CX0 1 "_law_spin" ["reel", "total"] (spRollB)) : FnG P w K mg base CX0 2 f fd ["reel", "items"] (spMix K) := by
  refine fn_g0 F sc__law_mixed (fun vs H Q E h => ?_) (fun cdv A outer s H vs Q E hg hr h => ?_)
  · obtain ⟨l, a, ys, n, rfl, _⟩ := h
    rfl
  · have hu := hu_of hr
    obtain ⟨l, a, ys, n, rfl, na, ha, hl, D, k⟩ := h
    refine ⟨_, (pss_cons (ps_par (i := 2) (j := 3) (by rfl) sc__law_mixed.nd rfl rfl (by decide) rfl rfl (pa_cons (pe_callTy (g_list_of K) (by rfl) T.b_list (by decide +kernel) (pa_cons (pv 1) pa_nil)) (pa_cons (pe_lst pa_nil) pa_nil)) (by rfl))
      (pss_cons (ps_while PassesOwn.never (pt_cmpR (op_neNil hr.units0) (pv 2) (pe_lst pa_nil) (nomark _)) (pss_one (ps_expr (g_bm K PySem.F.plainAttrs_list PySem.F.slot_list_append PySem.F.type_list_append mt_append (pv 3) (pa_cons (g_bm K PySem.F.plainAttrs_list PySem.F.slot_list_pop PySem.F.type_list_pop mt_popAt (pv 2) (pa_cons (pe_has c__law_spin hg (hr.mono (by decide)) pass0 (pa_cons (pv 0) (pa_cons (pe_callB (g_len_seq K) (by rfl) T.b_len (by decide +kernel) (pa_cons (pv 2) pa_nil)) pa_nil))) pa_nil)) pa_nil)))))
      (pss_one (ps_ret (pv 3))))), ?_⟩
    refine ⟨_, rfl, a, _, rfl, .inl ha, fun lf hlf => ?_⟩
    refine ⟨by show 0 ≤ sizeLine; decide, fun fo hfo => ?_⟩
    have nlf : lf ≠ l := D.ne hlf
    have nfo : fo ≠ l := (D.new hlf).ne hfo
    have nff : lf ≠ fo := ne_of_none upd_same hfo
    have hfo0 : H fo = none := (same_new hlf).free hfo
    refine ⟨_, _, rfl, ?_⟩
    refine ⟨fun m' σ H' => ∃ zs rest : List V, m' = rest.length ∧ σ = [some (.ref l), some (.ref a), some (.ref lf), some (.ref fo)] ∧ (zs ++ rest).Perm ys ∧ H' lf = some (.lst rest) ∧ H' fo = some (.lst zs) ∧ Kp l H H' ∧ Dice H' l (n + rest.length),
      ⟨_, [], ys, rfl, rfl, List.Perm.refl _, by rw [upd_ne nff]; exact upd_same, upd_same, ((Kp.refl _ _).new hlf).new hfo, (D.new hlf).new hfo⟩, ?_⟩
    rintro m' σ H1 ⟨zs, rest, rfl, rfl, pm, e1, e2, kp, D1⟩
    have lr : zs.length + rest.length = ys.length := by
      have := pm.length_eq
      rwa [List.length_append] at this
    refine ⟨_, rfl, by show 0 ≤ sizeLine; decide, fun p hp => ?_⟩
    have npl : p ≠ l := D1.ne hp
    have e1' := same_new hp (o := .lst []) _ _ e1
    have e2' := same_new hp (o := .lst []) _ _ e2
    have kp' := kp.new hp (o := .lst [])
    have D1' := D1.new hp (o := .lst [])
    refine ⟨lf, p, _, rfl, rfl, e1', upd_same, _, rfl, ?_⟩
    generalize upd H1 p (.lst []) = H2 at e1' e2' kp' D1' ⊢
    cases hr : rest with
    | nil =>
      subst hr
      refine itF rfl ?_
      rw [List.append_nil] at pm
      exact ⟨_, rfl, k fo zs H2 hfo0 nfo pm e2' kp' (D1'.le (by omega))⟩
    | cons r0 rr =>
      rw [← hr]
      have pos : 0 < rest.length := by rw [hr]; simp
      refine itT (by rw [hr]; rfl) ⟨fun σ' H' => ∃ zs' rest' : List V, rest'.length + 1 = rest.length ∧ σ' = [some (.ref l), some (.ref a), some (.ref lf), some (.ref fo)] ∧ (zs' ++ rest').Perm ys ∧ H' lf = some (.lst rest') ∧ H' fo = some (.lst zs') ∧ Kp l H H' ∧ Dice H' l (n + rest'.length),
        fun σ' H' ⟨zs', rest', h1, h2⟩ => ⟨rest'.length, by omega, zs', rest', rfl, h2⟩, ?_⟩
      refine ⟨_, rfl, .inl ⟨rfl, _, SqL.of e2'⟩, _, rfl, .inl ⟨rfl, _, SqL.of e1'⟩, _, rfl, _, rfl, lf, _, rfl, .inl (SqL.of e1'), l, _, n + (rest.length - 1), rfl, by omega, by omega, D1'.le (by omega), fun r H3 r0' r1 kp2 D2 => ?_⟩
      obtain ⟨y, hy⟩ : ∃ y, rest[r.toNat]? = some y := ⟨_, List.getElem?_eq_getElem (by omega)⟩
      have e1'' := kp2 _ _ e1' nlf
      have e2'' := kp2 _ _ e2' nfo
      refine ⟨lf, rest, r, r.toNat, y, rfl, rfl, e1'', by omega, by omega, ix_pos r0' (by omega), hy, ?_⟩
      refine ⟨fo, zs, y, rfl, rfl, by rw [upd_ne nff.symm]; exact e2'', small1000' (by omega), ?_⟩
      have el : (rest.eraseIdx r.toNat).length + 1 = rest.length := by
        have := (erase_perm hy).length_eq
        rwa [List.length_cons] at this
      refine ⟨zs ++ [y], rest.eraseIdx r.toNat, el, rfl, ?_, ?_, by rw [upd_same], ?_, ?_⟩
      · rw [List.append_assoc]
        exact ((erase_perm hy).append_left zs).trans pm
      · rw [upd_ne nff, upd_same]
      · exact ((kp'.trans kp2).mut hlf).mut hfo0
      · exact ((D2.le (by omega)).upd nlf).upd nfo
theorem sc__law_letters : FnScope ["reel", "size", "left", "found", "turn"] ["reel", "size"] (defScope s__law_letters) := ⟨rfl, rfl, rfl, by decide +kernel, rfl, by decide +kernel, by decide +kernel⟩
theorem ok__law_letters {f : Addr} {fd : FuncData} (F : Fun K "_law_letters" "_law_letters" s__law_letters f fd) (T : Txt K mg C) (c__law_spin : Has P w K mg base CX0 1 "_law_spin" ["reel", "total"] (spRollB)) : FnG P w K mg base CX0 2 f fd ["reel", "size"] (spLettB) := by
  refine fn_g0 F sc__law_letters (fun vs H Q E h => ?_) (fun cdv A outer s H vs Q E hg hr h => ?_)
  · obtain ⟨l, m, n, rfl, _⟩ := h
    rfl
  · have hu := hu_of hr
    obtain ⟨l, m, n, rfl, hm, D, k⟩ := h
    refine ⟨_, (pss_cons (ps_par (i := 2) (j := 3) (by rfl) sc__law_letters.nd rfl rfl (by decide) rfl rfl (pa_cons (pe_callTy (call_list_str rfl) (by rfl) T.b_list (by decide +kernel) (pa_cons pe_str pa_nil)) (pa_cons (pe_lst pa_nil) pa_nil)) (by rfl))
      (pss_cons (ps_for PassesOwn.never rfl (pi_range1 (by rfl) T.b_range (pa_cons (pv 1) pa_nil)) (pg_name (i := 4) sc__law_letters.nd rfl (Or.inl rfl)) (pss_one (ps_expr (g_bm K PySem.F.plainAttrs_list PySem.F.slot_list_append PySem.F.type_list_append mt_append (pv 3) (pa_cons (g_bm K PySem.F.plainAttrs_list PySem.F.slot_list_pop PySem.F.type_list_pop mt_popAt (pv 2) (pa_cons (pe_has c__law_spin hg (hr.mono (by decide)) pass0 (pa_cons (pv 0) (pa_cons (pe_callB (g_len_seq K) (by rfl) T.b_len (by decide +kernel) (pa_cons (pv 2) pa_nil)) pa_nil))) pa_nil)) pa_nil)))))
      (pss_one (ps_ret (pv 3))))), ?_⟩
    have l26 : (cs (Str.ofString "abcdefghijklmnopqrstuvwxyz")).length = 26 := by decide +kernel
    have all : ∀ c ∈ cs (Str.ofString "abcdefghijklmnopqrstuvwxyz"), lett c = true := List.all_eq_true.mp (show (Str.ofString "abcdefghijklmnopqrstuvwxyz").cps.toList.all lett = true by decide +kernel)
    refine ⟨Str.ofString "abcdefghijklmnopqrstuvwxyz", rfl, by decide +kernel, fun lf hlf => ?_⟩
    refine ⟨by show 0 ≤ sizeLine; decide, fun fo hfo => ?_⟩
    have nlf : lf ≠ l := D.ne hlf
    have nfo : fo ≠ l := (D.new hlf).ne hfo
    have nff : lf ≠ fo := ne_of_none upd_same hfo
    have hfo0 : H fo = none := (same_new hlf).free hfo
    refine ⟨_, _, rfl, ?_⟩
    refine ⟨_, rfl, (m : Int), rfl, by omega, by omega, ?_⟩
    rw [Int.toNat_natCast]
    refine for_range (lo := 0) (n := m) (fun i σ H' => ∃ (zs rest : List Nat) (x4 : Option V), σ = [some (.ref l), some (.int (m : Int)), some (.ref lf), some (.ref fo), x4] ∧ zs.length = i ∧ rest.length + i = 26 ∧ (∀ c ∈ zs, lett c = true) ∧ (∀ c ∈ rest, lett c = true) ∧ H' lf = some (.lst (rest.map chV)) ∧ H' fo = some (.lst (zs.map chV)) ∧ Kp l H H' ∧ Dice H' l (n + (m - i)))
      ⟨[], cs (Str.ofString "abcdefghijklmnopqrstuvwxyz"), _, rfl, rfl, by rw [l26], fun _ h => (List.not_mem_nil h).elim, all, by rw [upd_ne nff]; exact upd_same, upd_same, ((Kp.refl _ _).new hlf).new hfo, ((D.new hlf).new hfo).le (by omega)⟩ ?_ ?_
    · rintro i σ H1 hi ⟨zs, rest, x4, rfl, zl, rl, hz, hrr, e1, e2, kp, D1⟩
      refine ⟨_, rfl, .inl ⟨rfl, _, SqL.of e2⟩, _, rfl, .inl ⟨rfl, _, SqL.of e1⟩, _, rfl, _, rfl, lf, _, rfl, .inl (SqL.of e1), l, _, n + (m - (i + 1)), rfl, by rw [List.length_map]; omega, by rw [List.length_map]; omega, D1.le (by omega), fun r H3 r0' r1 kp2 D2 => ?_⟩
      rw [List.length_map] at r1
      obtain ⟨y, hy⟩ : ∃ y, rest[r.toNat]? = some y := ⟨_, List.getElem?_eq_getElem (by omega)⟩
      have e1'' := kp2 _ _ e1 nlf
      have e2'' := kp2 _ _ e2 nfo
      refine ⟨lf, rest.map chV, r, r.toNat, chV y, rfl, rfl, e1'', by omega, by omega, ix_pos r0' (by rw [List.length_map]; omega), by rw [List.getElem?_map, hy]; rfl, ?_⟩
      refine ⟨fo, zs.map chV, chV y, rfl, rfl, by rw [upd_ne nff.symm]; exact e2'', by rw [List.length_map]; exact small1000' (by omega), ?_⟩
      have el : (rest.eraseIdx r.toNat).length + 1 = rest.length := by
        have := (erase_perm hy).length_eq
        rwa [List.length_cons] at this
      have ym := hrr y (List.mem_of_getElem? hy)
      refine ⟨zs ++ [y], rest.eraseIdx r.toNat, _, rfl, by rw [List.length_append, zl]; rfl, by omega, fun c hc => ?_, fun c hc => hrr c (List.mem_of_mem_eraseIdx hc), ?_, by rw [upd_same, List.map_append]; rfl, ((kp.trans kp2).mut hlf).mut hfo0, ((D2.le (by omega)).upd nlf).upd nfo⟩
      · rcases List.mem_append.mp hc with h | h
        · exact hz c h
        · rw [List.mem_singleton.mp h]
          exact ym
      · rw [upd_ne nff, upd_same, ← DT.map_erase]
    rintro σ H1 ⟨zs, rest, x4, rfl, zl, rl, hz, hrr, e1, e2, kp, D1⟩
    exact ⟨_, rfl, k fo zs H1 hfo0 nfo zl hz e2 kp (D1.le (by omega))⟩
theorem sc__law_drawn_text : FnScope ["reel", "signs", "size", "spot"] ["reel", "signs", "size"] (defScope s__law_drawn_text) := ⟨rfl, rfl, rfl, by decide +kernel, rfl, by decide +kernel, by decide +kernel⟩
theorem ok__law_drawn_text {f : Addr} {fd : FuncData} (F : Fun K "_law_drawn_text" "_law_drawn_text" s__law_drawn_text f fd) (T : Txt K mg C) (c__law_pick : Has P w K mg base CX0 2 "_law_pick" ["reel", "items"] (spPick K)) : FnG P w K mg base CX0 3 f fd ["reel", "signs", "size"] (spLetters K) := by
  refine fn_g0 F sc__law_drawn_text (fun vs H Q E h => ?_) (fun cdv A outer s H vs Q E hg hr h => ?_)
  · obtain ⟨l, x, cl, m, n, rfl, _⟩ := h
    rfl
  · have hu := hu_of hr
    obtain ⟨l, x, cl, m, n, rfl, S, ne, hl, hm, D, k⟩ := h
    refine ⟨_, (pss_one (ps_ret (g_join K pe_str (pe_lc (own := [("spot", 3)]) rfl sc__law_drawn_text.nd (pi_range1 (by rfl) T.b_range (pa_cons (pv 2) pa_nil)) (blkOk_by (own := [("spot", 3)]) (N := ["reel", "signs", "size", "spot"]) (sc := defScope s__law_drawn_text) (by decide +kernel)) (fun _ _ _ _ _ => (pg_name (i := 3) sc__law_drawn_text.nd rfl (Or.inl rfl))) (fun _ _ _ _ _ => pts_nil) (fun _ _ _ _ _ => (pe_has c__law_pick hg (hr.mono (by decide)) pass0 (pa_cons (pv 0) (pa_cons (pv 1) pa_nil)))))))), ?_⟩
    refine ⟨⟨_, rfl⟩, _, rfl, _, rfl, by omega, by omega, fun p hp => ?_⟩
    have npl : p ≠ l := D.ne hp
    refine lc_range (fun i H' => ∃ zs : List Nat, zs.length = i ∧ (∀ c ∈ zs, c ∈ cl) ∧ H' p = some (.lst (zs.map chV)) ∧ Kp l H H' ∧ Dice H' l (n + (m - i)) ∧ i ≤ m)
      ⟨[], rfl, fun _ z => (List.not_mem_nil z).elim, upd_same, (Kp.refl _ _).new hp, D.upd npl, Nat.zero_le _⟩ ?_ ?_
    · rintro i H' hi ⟨zs, e1, e2, e3, kp, D', hi2⟩
      have e6 : Int.toNat (m : Int) = m := by omega
      rw [e6] at hi
      refine ⟨rfl, _, rfl, _, rfl, l, x, cl.map chV, n + (m - (i + 1)), rfl, S.kp kp, by simpa using ne, by simpa using hl, D'.le (by omega), fun y H2 hy kp2 D2 => ?_⟩
      obtain ⟨c, hc, rfl⟩ := List.mem_map.mp hy
      refine ⟨_, kp2 _ _ e3 npl, by rw [List.length_map]; exact Nat.lt_of_le_of_lt (by omega : zs.length ≤ 10000) (by decide), zs ++ [c], ?_, ?_, ?_, ?_, ?_, by omega⟩
      · rw [List.length_append, e1]
        rfl
      · intro d hd
        rcases List.mem_append.mp hd with hd | hd
        · exact e2 d hd
        · rw [List.mem_singleton.mp hd]
          exact hc
      · rw [upd_same, List.map_append]
        rfl
      · exact (kp.trans kp2).mut hp
      · exact D2.upd npl
    · rintro H' ⟨zs, e1, e2, e3, kp, D', hi2⟩
      have e6 : Int.toNat (m : Int) = m := by omega
      rw [e6] at e1 D'
      refine ⟨_, p, zs.map ch, rfl, rfl, .inl (SqL.of (by rw [e3, List.map_map]; rfl)), ?_, ?_⟩
      · rw [sum_ch, List.length_map]
        show zs.length + zs.length * 0 ≤ _
        omega
      · rw [join_ch]
        exact k zs H' e1 e2 kp (D'.le (by omega))
theorem sc__law_drawn_book : FnScope ["reel", "signs", "found", "kind", "dear", "sign", "one", "two", "turn", "piece"] ["reel"] (defScope s__law_drawn_book) := ⟨rfl, rfl, rfl, by decide +kernel, rfl, by decide +kernel, by decide +kernel⟩
theorem ok__law_drawn_book {f : Addr} {fd : FuncData} (F : Fun K "_law_drawn_book" "_law_drawn_book" s__law_drawn_book f fd) (T : Txt K mg C) (c__law_letters : Has P w K mg base CX0 2 "_law_letters" ["reel", "size"] (spLettB)) (c__law_pick : Has P w K mg base CX0 2 "_law_pick" ["reel", "items"] (spPick K)) (c__law_spin : Has P w K mg base CX0 1 "_law_spin" ["reel", "total"] (spRollB)) (c__law_drawn_text : Has P w K mg base CX0 3 "_law_drawn_text" ["reel", "signs", "size"] (spLetters K)) (c__law_mixed : Has P w K mg base CX0 2 "_law_mixed" ["reel", "items"] (spMix K)) : FnG P w K mg base CX0 4 f fd ["reel"] (spBookB) := by
  refine fn_g0 F sc__law_drawn_book (fun vs H Q E h => ?_) (fun cdv A outer s H vs Q E hg hr h => ?_)
  · obtain ⟨l, n, rfl, _⟩ := h
    rfl
  · have hu := hu_of hr
    obtain ⟨l, n, rfl, D, k⟩ := h
    refine ⟨_, (pss_cons (ps_par (i := 1) (j := 2) (by rfl) sc__law_drawn_book.nd rfl rfl (by decide) rfl rfl (pa_cons (pe_has c__law_letters hg (hr.mono (by decide)) pass0 (pa_cons (pv 0) (pa_cons (pe_has c__law_pick hg (hr.mono (by decide)) pass0 (pa_cons (pv 0) (pa_cons (pe_lst (pa_cons pe_int (pa_cons pe_int (pa_cons pe_int (pa_cons pe_int (pa_cons pe_int (pa_cons pe_int pa_nil))))))) pa_nil))) pa_nil))) (pa_cons pe_dnewK pa_nil)) (by rfl))
      (pss_cons (ps_par (i := 3) (j := 4) (by rfl) sc__law_drawn_book.nd rfl rfl (by decide) rfl rfl (pa_cons (pe_has c__law_spin hg (hr.mono (by decide)) pass0 (pa_cons (pv 0) (pa_cons pe_int pa_nil))) (pa_cons (pe_has c__law_pick hg (hr.mono (by decide)) pass0 (pa_cons (pv 0) (pa_cons (pe_lst (pa_cons pe_int (pa_cons pe_int (pa_cons pe_int (pa_cons pe_int pa_nil))))) pa_nil))) pa_nil)) (by rfl))
      (pss_cons (ps_for PassesOwn.never rfl (g_list K (pv 1)) (pg_name (i := 5) sc__law_drawn_book.nd rfl (Or.inl rfl)) (pss_one (ps_asg (pe_has c__law_pick hg (hr.mono (by decide)) pass0 (pa_cons (pv 0) (pa_cons (pe_ix (g_ix_list K) (pe_lst (pa_cons (pe_lst (pa_cons pe_int (pa_cons pe_int (pa_cons pe_int pa_nil)))) (pa_cons (pe_lst (pa_cons pe_int (pa_cons pe_int (pa_cons pe_int (pa_cons pe_int pa_nil))))) (pa_cons (pe_lst (pa_cons pe_int (pa_cons (pv 4) pa_nil))) (pa_cons (pe_lst (pa_cons (pv 4) (pa_cons pe_int (pa_cons (pv 4) pa_nil)))) pa_nil))))) (pv 3) (fun _ _ => rfl)) pa_nil))) (pg_sub (pv 2) (pv 5) (set_dict hu)))))
      (pss_cons (ps_if (pt_cmpR op_gt (pv 3) pe_int (nomark _)) (pss_one (ps_for PassesOwn.never rfl (g_list K (pv 1)) (pg_name (i := 6) sc__law_drawn_book.nd rfl (Or.inl rfl)) (pss_one (ps_for PassesOwn.never rfl (g_list K (pv 1)) (pg_name (i := 7) sc__law_drawn_book.nd rfl (Or.inl rfl)) (pss_one (ps_if (PW.pt (pw_and (pt_cmpR op_gt (pe_has c__law_spin hg (hr.mono (by decide)) pass0 (pa_cons (pv 0) (pa_cons pe_int pa_nil))) pe_int (nomark _)) (pw_and1 (pt_cmpR op_lt (pe_callB call_lenF (by rfl) T.b_len (by decide +kernel) (pa_cons (pv 2) pa_nil)) pe_int (nomark _))))) (pss_one (ps_asg (pe_has c__law_pick hg (hr.mono (by decide)) pass0 (pa_cons (pv 0) (pa_cons (pe_lst (pa_cons pe_int (pa_cons pe_int (pa_cons pe_int (pa_cons pe_int pa_nil))))) pa_nil))) (pg_sub (pv 2) (pe_op op_add_str (pv 6) (pv 7)) (set_dict hu)))) pss_nil)))))) (pss_one (ps_for PassesOwn.never rfl (pi_range1 (by rfl) T.b_range (pa_cons (pe_op op_add pe_int (pe_has c__law_spin hg (hr.mono (by decide)) pass0 (pa_cons (pv 0) (pa_cons pe_int pa_nil)))) pa_nil)) (pg_name (i := 8) sc__law_drawn_book.nd rfl (Or.inl rfl)) (pss_cons (ps_set (i := 9) sc__law_drawn_book.nd rfl (Or.inl rfl) (pe_has c__law_drawn_text hg (hr.mono (by decide)) pass0 (pa_cons (pv 0) (pa_cons (pv 1) (pa_cons (pe_op op_add pe_int (pe_has c__law_spin hg (hr.mono (by decide)) pass0 (pa_cons (pv 0) (pa_cons pe_int pa_nil)))) pa_nil)))))
      (pss_one (ps_asg (pe_ifExp (pt_cmpR op_eq (pv 3) pe_int (nomark _)) pe_int (pe_op op_add pe_int (pe_has c__law_spin hg (hr.mono (by decide)) pass0 (pa_cons (pv 0) (pa_cons pe_int pa_nil))))) (pg_sub (pv 2) (pv 9) (set_dict hu))))))))
      (pss_one (ps_ret (pe_callTy (g_dictP K rfl) (by rfl) T.b_dict (by decide +kernel) (pa_cons (pe_has c__law_mixed hg (hr.mono (by decide)) pass0 (pa_cons (pv 0) (pa_cons (LiI.pe_listItems rfl (pv 2) rfl T.b_list (by decide +kernel)) pa_nil))) pa_nil)))))))), ?_⟩
    refine ⟨_, rfl, _, rfl, by show 6 ≤ sizeLine; decide, fun m1 w1 => ?_⟩
    have n1l : m1 ≠ l := D.ne w1
    have D1 := D.new w1 (o := .lst [V.int 2, .int 1, .int 2, .int 2, .int 3, .int 4])
    have s1 := same_new w1 (o := .lst [V.int 2, .int 1, .int 2, .int 2, .int 3, .int 4])
    refine ⟨l, .ref m1, _, n + 299, rfl, .lst n1l (SqL.of upd_same), by simp, by simp, D1.le (by omega), fun y H2 hy k2 D2 => ?_⟩
    obtain ⟨sz, rfl, z1, z4⟩ : ∃ sz : Nat, y = .int (sz : Int) ∧ 1 ≤ sz ∧ sz ≤ 4 := by
      simp only [List.mem_cons, List.not_mem_nil, or_false] at hy
      rcases hy with h | h | h | h | h | h
      · exact ⟨2, h, by decide, by decide⟩
      · exact ⟨1, h, by decide, by decide⟩
      · exact ⟨2, h, by decide, by decide⟩
      · exact ⟨2, h, by decide, by decide⟩
      · exact ⟨3, h, by decide, by decide⟩
      · exact ⟨4, h, by decide, by decide⟩
    have kA : Kp l H H2 := (Kp.of s1).trans k2
    refine ⟨l, sz, n + 290, rfl, by omega, D2.le (by omega), fun sa sg H3 hsa nsa sgn slt e3 k3 D3 => ?_⟩
    have kB := kA.trans k3
    refine fun pd hpd => ?_
    refine ⟨_, _, rfl, ?_⟩
    have npd : pd ≠ l := D3.ne hpd
    have D4 := D3.new hpd (o := .dK [])
    have kC := kB.new hpd (o := .dK [])
    have p4 : (upd H3 pd (.dK [])) pd = some (.dK []) := upd_same
    have e4 := same_new hpd (o := .dK []) _ _ e3
    have hpd0 : H pd = none := kp_free kB npd hpd
    generalize (upd H3 pd (.dK [])) = H4 at D4 kC p4 e4 ⊢
    -- kind, dear
    refine ⟨_, rfl, l, 4, n + 289, rfl, by decide, by decide, D4.le (by omega), fun kd H5 kd0 kd1 k5 D5 => ?_⟩
    refine ⟨_, rfl, by show 4 ≤ sizeLine; decide, fun m2 w2 => ?_⟩
    have n2l : m2 ≠ l := D5.ne w2
    have s6 := same_new w2 (o := .lst [V.int 9, .int 3, .int 2, .int 99])
    refine ⟨l, .ref m2, _, n + 288, rfl, .lst n2l (SqL.of upd_same), by simp, by simp, (D5.new w2).le (by omega), fun y H7 hy k7 D7 => ?_⟩
    obtain ⟨de, rfl, d1, d99⟩ : ∃ de : Int, y = .int de ∧ 1 ≤ de ∧ de ≤ 99 := by
      simp only [List.mem_cons, List.not_mem_nil, or_false] at hy
      rcases hy with h | h | h | h
      · exact ⟨9, h, by decide, by decide⟩
      · exact ⟨3, h, by decide, by decide⟩
      · exact ⟨2, h, by decide, by decide⟩
      · exact ⟨99, h, by decide, by decide⟩
    have k47 : Kp l H4 H7 := (k5.trans (.of s6)).trans k7
    have kD := kC.trans k47
    have p7 := k47 _ _ p4 npd
    have e7 := k47 _ _ e4 nsa
    refine ⟨_, _, rfl, ?_⟩
    have nsg : sg ≠ [] := fun e => by
      rw [e] at sgn
      simp at sgn
      omega
    clear D4 p4 e4 k47 k7 s6 w2 D5 k5 hpd D3 kB k3 hsa D2 k2 s1 D1 w1 hy e3 kA kC
    -- the single signs
    refine ⟨_, rfl, sa, rfl, ⟨_, SqL.of e7⟩, for_list (K := K) (xs := sg.map chV) (fun i σ H' => ∃ x5, σ = [some (.ref l), some (.ref sa), some (.ref pd), some (.int kd), some (.int de), x5, none, none, none, none] ∧ H' sa = some (.lst (sg.map chV)) ∧ ∃ kv, H' pd = some (.dK kv) ∧ PrOk sg kv ∧ kv.length ≤ i ∧ (∀ c ∈ sg.take i, (valV kv (Sum.inr (ch c) : Key)).isSome = true) ∧ Kp l H H' ∧ Dice H' l (n + (280 - i)))
      ⟨_, rfl, e7, [], p7, PrOk.nil, Nat.le_refl _, fun _ h => (List.not_mem_nil h).elim, kD, D7.le (by omega)⟩ (fun i σ H' _ q => by obtain ⟨_, _, q, _⟩ := q; exact SqL.of q) ?_ ?_⟩
    · clear p7 e7 D7 kD
      rintro i x σ H8 hx ⟨x5, rfl, e8, kv, p8, P8, n8, g8, k8, D8⟩
      rw [List.getElem?_map] at hx
      obtain ⟨c, hc, rfl⟩ := Option.map_eq_some_iff.mp hx
      have il : i < sg.length := (List.getElem?_eq_some_iff.mp hc).1
      refine ⟨_, rfl, by show 3 ≤ sizeLine; decide, fun a1 u1 => ⟨by show 4 ≤ sizeLine; decide, fun a2 u2 => ?_⟩⟩
      refine ⟨_, rfl, by show 2 ≤ sizeLine; decide, fun a3 u3 => ?_⟩
      refine ⟨_, rfl, _, rfl, by show 3 ≤ sizeLine; decide, fun a4 u4 => ⟨by show 4 ≤ sizeLine; decide, fun ap up => ?_⟩⟩
      have b1 := D8.new u1 (o := .lst [V.int 1, .int 1, .int 2])
      have b2 := b1.new u2 (o := .lst [V.int 1, .int 2, .int 3, .int 4])
      have b3 := b2.new u3 (o := .lst [V.int 1, .int de])
      have b4 := b3.new u4 (o := .lst [V.int de, .int 1, .int de])
      have b5 := b4.new up (o := .lst [V.ref a1, .ref a2, .ref a3, .ref a4])
      have t1 := same_new u1 (o := .lst [V.int 1, .int 1, .int 2])
      have t2 := same_new u2 (o := .lst [V.int 1, .int 2, .int 3, .int 4])
      have t3 := same_new u3 (o := .lst [V.int 1, .int de])
      have t4 := same_new u4 (o := .lst [V.int de, .int 1, .int de])
      have t5 := same_new up (o := .lst [V.ref a1, .ref a2, .ref a3, .ref a4])
      have tA := t1.trans (t2.trans (t3.trans (t4.trans t5)))
      have f1 := t5 _ _ (t4 _ _ (t3 _ _ (t2 _ _ (upd_same (H := H8) (a := a1) (o := .lst [V.int 1, .int 1, .int 2])))))
      have f2 := t5 _ _ (t4 _ _ (t3 _ _ (upd_same (a := a2) (o := .lst [V.int 1, .int 2, .int 3, .int 4]))))
      have f3 := t5 _ _ (t4 _ _ (upd_same (a := a3) (o := .lst [V.int 1, .int de])))
      have f4 := t5 _ _ (upd_same (a := a4) (o := .lst [V.int de, .int 1, .int de]))
      have nn : a1 ≠ l ∧ a2 ≠ l ∧ a3 ≠ l ∧ a4 ≠ l := ⟨D8.ne u1, b1.ne u2, b2.ne u3, b3.ne u4⟩
      obtain ⟨ai, ms, hat, ema, nma, ml1, ml2, mall⟩ : ∃ (ai : Addr) (ms : List Int), atI [V.ref a1, .ref a2, .ref a3, .ref a4] kd = some (.ref ai) ∧ (upd (upd (upd (upd (upd H8 a1 (.lst [V.int 1, .int 1, .int 2])) a2 (.lst [V.int 1, .int 2, .int 3, .int 4])) a3 (.lst [V.int 1, .int de])) a4 (.lst [V.int de, .int 1, .int de])) ap (.lst [V.ref a1, .ref a2, .ref a3, .ref a4])) ai = some (HO.lst (ms.map V.int)) ∧ ai ≠ l ∧ 1 ≤ ms.length ∧ ms.length ≤ 100 ∧ ∀ i ∈ ms, 1 ≤ i ∧ i ≤ 99 := by
        have : kd = 0 ∨ kd = 1 ∨ kd = 2 ∨ kd = 3 := by omega
        rcases this with h | h | h | h
        · exact ⟨a1, [1, 1, 2], by rw [h]; rfl, f1, nn.1, by decide, by decide, by decide⟩
        · exact ⟨a2, [1, 2, 3, 4], by rw [h]; rfl, f2, nn.2.1, by decide, by decide, by decide⟩
        · exact ⟨a3, [1, de], by rw [h]; rfl, f3, nn.2.2.1, by show 1 ≤ 2; decide, by show 2 ≤ 100; decide, fun i hi => by
            simp only [List.mem_cons, List.not_mem_nil, or_false] at hi
            rcases hi with rfl | rfl
            · decide
            · exact ⟨d1, d99⟩⟩
        · exact ⟨a4, [de, 1, de], by rw [h]; rfl, f4, nn.2.2.2, by show 1 ≤ 3; decide, by show 3 ≤ 100; decide, fun i hi => by
            simp only [List.mem_cons, List.not_mem_nil, or_false] at hi
            rcases hi with rfl | rfl | rfl
            · exact ⟨d1, d99⟩
            · decide
            · exact ⟨d1, d99⟩⟩
      refine ⟨_, rfl, ap, _, kd, .ref ai, rfl, rfl, SqL.of upd_same, hat, l, .ref ai, ms.map V.int, n + (280 - (i + 1)), rfl, .lst nma (SqL.of ema), fun e => by
        have := congrArg List.length e
        rw [List.length_map, List.length_nil] at this
        omega, by rw [List.length_map]; omega, b5.le (by omega), fun y H9 hy k9 D9 => ?_⟩
      obtain ⟨q, hq, rfl⟩ := List.mem_map.mp hy
      have k89 : Kp l H8 H9 := (Kp.of tA).trans k9
      refine ⟨_, rfl, _, rfl, pd, _, rfl, .inl ⟨kv, Sum.inr (ch c), k89 _ _ p8 npd, rfl, small1000' (by omega), rfl⟩, ?_⟩
      have nsp : sa ≠ pd := fun z => by
        rw [z, p8] at e8
        cases e8
      refine ⟨_, rfl, by rw [upd_ne nsp]; exact k89 _ _ e8 nsa, _, upd_same, P8.put (z := ch c) (by simp [cs]) (fun d hd => by simp [cs] at hd; rw [hd]; exact List.mem_of_getElem? hc) (mall q hq), Nat.le_trans put_len (by omega), fun d hd => ?_, (k8.trans k89).mut hpd0, D9.upd npd⟩
      rw [valV_put]
      rw [List.take_add_one, hc] at hd
      rcases List.mem_append.mp hd with h | h
      · split
        · rfl
        · exact g8 d h
      · rw [List.mem_singleton.mp h, if_pos rfl]
        rfl
    rintro σ H8 ⟨x5, rfl, e8, kv, p8, P8, n8, g8, k8, D8⟩
    rw [List.length_map] at n8 D8 g8
    rw [List.take_length] at g8
    clear p7 e7 D7 kD
    have nsp : sa ≠ pd := fun z => by
      rw [z, p8] at e8
      cases e8
    refine ⟨_, rfl, _, _, rfl, rfl, _, rfl, ?_⟩
    refine itB (fun ek => ?_) (fun ek => ?_)
    · refine ⟨_, rfl, sa, rfl, ⟨_, SqL.of e8⟩, for_list (K := K) (xs := sg.map chV) (fun i σ H' => ∃ x6 x7, σ = [some (.ref l), some (.ref sa), some (.ref pd), some (.int kd), some (.int de), x5, x6, x7, none, none] ∧ H' sa = some (.lst (sg.map chV)) ∧ ∃ kv, H' pd = some (.dK kv) ∧ PrOk sg kv ∧ kv.length ≤ 12 ∧ (∀ c ∈ sg, (valV kv (Sum.inr (ch c) : Key)).isSome = true) ∧ Kp l H H' ∧ Dice H' l (n + (270 - 10 * i)))
        ⟨_, _, rfl, e8, kv, p8, P8, by omega, g8, k8, D8.le (by omega)⟩ (fun i σ H' _ q => by obtain ⟨_, _, _, q, _⟩ := q; exact SqL.of q) ?_ ?_⟩
      · clear p8 P8 n8 g8 k8 D8 e8
        rintro i x σ H9 hx ⟨x6, x7, rfl, e9, kv, p9, P9, n9, g9, k9, D9⟩
        rw [List.getElem?_map] at hx
        obtain ⟨c, hc, rfl⟩ := Option.map_eq_some_iff.mp hx
        have il : i < sg.length := (List.getElem?_eq_some_iff.mp hc).1
        have cm := List.mem_of_getElem? hc
        refine ⟨_, rfl, sa, rfl, ⟨_, SqL.of e9⟩, for_list (K := K) (xs := sg.map chV) (fun j σ H' => ∃ x7, σ = [some (.ref l), some (.ref sa), some (.ref pd), some (.int kd), some (.int de), x5, some (chV c), x7, none, none] ∧ H' sa = some (.lst (sg.map chV)) ∧ ∃ kv, H' pd = some (.dK kv) ∧ PrOk sg kv ∧ kv.length ≤ 12 ∧ (∀ c ∈ sg, (valV kv (Sum.inr (ch c) : Key)).isSome = true) ∧ Kp l H H' ∧ Dice H' l (n + (270 - 10 * i - 2 * j)))
          ⟨_, rfl, e9, kv, p9, P9, n9, g9, k9, D9⟩ (fun i σ H' _ q => by obtain ⟨_, _, q, _⟩ := q; exact SqL.of q) ?_ ?_⟩
        · clear p9 P9 n9 g9 k9 D9 e9
          rintro j x σ H10 hx ⟨x7, rfl, e10, kv, p10, P10, n10, g10, k10, D10⟩
          rw [List.getElem?_map] at hx
          obtain ⟨c2, hc2, rfl⟩ := Option.map_eq_some_iff.mp hx
          have jl : j < sg.length := (List.getElem?_eq_some_iff.mp hc2).1
          have cm2 := List.mem_of_getElem? hc2
          refine ⟨_, rfl, l, 4, n + (270 - 10 * i - 2 * j - 1), rfl, by decide, by decide, D10.le (by omega), fun r H11 r0 r1 k11 D11 => ⟨_, _, rfl, rfl, _, rfl, ?_⟩⟩
          have e11 := k11 _ _ e10 nsa
          have p11 := k11 _ _ p10 npd
          refine itB (fun er => ?_) (fun er => ?_)
          · refine ⟨_, rfl, pd, kv, rfl, .inl p11, _, _, rfl, rfl, _, rfl, ?_⟩
            by_cases h12 : kv.length < 12
            · refine itT (decide_eq_true (by omega)) ?_
              refine ⟨_, rfl, by show 4 ≤ sizeLine; decide, fun m3 w3 => ?_⟩
              have n3l : m3 ≠ l := D11.ne w3
              have s12 := same_new w3 (o := .lst [V.int 1, .int 1, .int 1, .int 2])
              refine ⟨l, .ref m3, _, n + (270 - 10 * i - 2 * (j + 1)), rfl, .lst n3l (SqL.of upd_same), by simp, by simp, (D11.new w3).le (by omega), fun y H12 hy k12 D12 => ?_⟩
              obtain ⟨q, rfl, q1, q99⟩ : ∃ q : Int, y = .int q ∧ 1 ≤ q ∧ q ≤ 99 := by
                simp only [List.mem_cons, List.not_mem_nil, or_false] at hy
                rcases hy with h | h | h | h
                · exact ⟨1, h, by decide, by decide⟩
                · exact ⟨1, h, by decide, by decide⟩
                · exact ⟨1, h, by decide, by decide⟩
                · exact ⟨2, h, by decide, by decide⟩
              have k13 : Kp l H11 H12 := (Kp.of s12).trans k12
              have lc1 : (ch c).length = 1 := rfl
              have lc2 : (ch c2).length = 1 := rfl
              refine ⟨_, rfl, _, rfl, _, rfl, ch c, ch c2, rfl, rfl, by rw [lc1, lc2]; exact fits_sz (by decide), pd, _, rfl, .inl ⟨kv, Sum.inr (ch c ++ ch c2), k13 _ _ p11 npd, rfl, small1000' (by omega), rfl⟩, ?_⟩
              have c2s : cs (ch c ++ ch c2) = [c, c2] := by
                rw [cs_app]
                simp [cs]
              refine ⟨_, rfl, by rw [upd_ne nsp]; exact k13 _ _ e11 nsa, _, upd_same, P10.put (z := ch c ++ ch c2) (by rw [c2s]; exact ⟨by show 1 ≤ 2; decide, by show 2 ≤ 5; decide⟩) (fun d hd => ?_) ⟨q1, q99⟩, Nat.le_trans put_len (by omega), fun d hd => ?_, ((k10.trans k11).trans k13).mut hpd0, D12.upd npd⟩
              · rw [c2s] at hd
                simp only [List.mem_cons, List.not_mem_nil, or_false] at hd
                rcases hd with rfl | rfl
                · exact cm
                · exact cm2
              · rw [valV_put]
                split
                · rfl
                · exact g10 d hd
            · refine itF (decide_eq_false (by omega)) ?_
              exact ⟨_, rfl, e11, kv, p11, P10, n10, g10, k10.trans k11, D11.le (by omega)⟩
          · exact ⟨_, rfl, e11, kv, p11, P10, n10, g10, k10.trans k11, D11.le (by omega)⟩
        · rintro σ H10 ⟨x7, rfl, e10, kv, p10, P10, n10, g10, k10, D10⟩
          rw [List.length_map] at D10
          exact ⟨_, _, rfl, e10, kv, p10, P10, n10, g10, k10, D10.le (by omega)⟩
      · rintro σ H9 ⟨x6, x7, rfl, e9, kv2, p9, P9, n9, g9, k9, D9⟩
        rw [List.length_map] at D9
        obtain ⟨kvT, ekv⟩ : ∃ kvT, kvT = kv2 := ⟨_, rfl⟩
        rw [← ekv] at p9 P9 n9 g9
        have pT := p9
        have PT := P9
        have nT := n9
        have gT := g9
        have kT := k9
        have DT := (D9.le (by omega) : Dice H9 l (n + 100))
        refine ⟨_, rfl, _, rfl, pd, kvT, rfl, pT, fun Hi il ts si hil hts nil hl hp => ?_⟩
        have ni : il ≠ l := DT.ne hil
        have DI := DT.same si
        obtain ⟨prs, e1, e2, e3⟩ := paired_list hp
        have ln : ts.length = kvT.length := by rw [e1, e2, List.length_map, List.length_map]
        refine ⟨l, il, ts.map V.ref, n + 50, rfl, ni, SqL.of hl, by rw [List.length_map]; omega, DI.le (by rw [List.length_map]; omega), fun q zs Hq hq nq pm eq kq Dq => ?_⟩
        obtain ⟨pr2, pm2, ez⟩ := perm_liftB (f := fun p : Addr × (Key × V) => V.ref p.1) pm prs (by rw [e1, List.map_map]; rfl)
        have pmk : (pr2.map (·.2)).Perm kvT := by
          rw [e2]
          exact pm2.map _
        refine ⟨q, pr2.map (·.1), pr2.map (·.2), rfl, SqL.of (by rw [eq, ez, List.map_map]; rfl), paired_of (F := fun (p : Addr) (kv : Key × V) => SqT K Hq p [kV kv.1, kv.2]) (ps := pr2) (fun p hp2 => ?_), fun rd hrd => ?_⟩
        · have m := pm2.mem_iff.mp hp2
          have tl : p.1 ∈ ts := by
            rw [e1]
            exact List.mem_map.mpr ⟨p, m, rfl⟩
          exact SqT.of (kq _ _ (e3 p m) (DT.ne (hts _ tl)))
        have P2 := PT.perm pmk
        rw [merge_nd (kvs := []) (by rw [List.nil_append]; exact P2.nd), List.nil_append]
        obtain ⟨av, _⟩ := P2.right (fun c hc => has_perm pmk (gT c hc)) slt (by omega) (by omega) (by rw [pmk.length_eq]; exact nT)
        have kR : Kp l H Hq := (kT.trans (.of si)).trans kq
        have nrd : rd ≠ l := Dq.ne hrd
        exact k rd _ _ (kp_free kR nrd hrd) nrd upd_same av P2.nd (kR.new hrd) ((Dq.new hrd).le (by omega))
    
    · refine ⟨_, rfl, l, 4, n + 275, rfl, by decide, by decide, D8.le (by omega), fun r H9 r0 r1 k9 D9 => ⟨_, _, rfl, rfl, ?_⟩⟩
      have r4 : r < 4 := r1
      refine ⟨1 + r, rfl, by omega, by omega, for_range (lo := 0) (n := (1 + r).toNat) (fun i σ H' => ∃ x8 x9, σ = [some (.ref l), some (.ref sa), some (.ref pd), some (.int kd), some (.int de), x5, none, none, x8, x9] ∧ H' sa = some (.lst (sg.map chV)) ∧ ∃ kv, H' pd = some (.dK kv) ∧ PrOk sg kv ∧ kv.length ≤ 4 + i ∧ (∀ c ∈ sg, (valV kv (Sum.inr (ch c) : Key)).isSome = true) ∧ Kp l H H' ∧ Dice H' l (n + (270 - 10 * i)))
        ⟨_, _, rfl, k9 _ _ e8 nsa, kv, k9 _ _ p8 npd, P8, by omega, g8, k8.trans k9, D9.le (by omega)⟩ ?_ ?_⟩
      · clear p8 P8 n8 g8 k8 D8 e8 k9 D9
        rintro i σ H10 hi ⟨x8, x9, rfl, e10, kv, p10, P10, n10, g10, k10, D10⟩
        have i4 : i < 4 := by omega
        refine ⟨_, rfl, _, rfl, _, rfl, l, 4, n + (270 - 10 * i - 1), rfl, by decide, by decide, D10.le (by omega), fun r2 H11 r20 r21 k11 D11 => ⟨_, _, rfl, rfl, ?_⟩⟩
        have r2' : r2 < 4 := r21
        refine ⟨l, .ref sa, sg, (2 + r2).toNat, n + (270 - 10 * i - 7), by rw [Int.toNat_of_nonneg (by omega)]; rfl, .lst nsa (SqL.of (k11 _ _ e10 nsa)), nsg, by omega, by omega, D11.le (by omega), fun zs H12 zl zc k12 D12 => ?_⟩
        have k1012 := k11.trans k12
        have p12 := k1012 _ _ p10 npd
        have e12 := k1012 _ _ e10 nsa
        have fin : ∀ (q : Int) (H13 : Hp), 1 ≤ q → q ≤ 4 → Kp l H12 H13 → Dice H13 l (n + (270 - 10 * (i + 1))) → upd H13 pd (.dK (putK kv (Sum.inr (sOf zs)) (.int q))) sa = some (.lst (sg.map chV)) ∧ ∃ kv', upd H13 pd (.dK (putK kv (Sum.inr (sOf zs)) (.int q))) pd = some (.dK kv') ∧ PrOk sg kv' ∧ kv'.length ≤ 4 + (i + 1) ∧ (∀ c ∈ sg, (valV kv' (Sum.inr (ch c) : Key)).isSome = true) ∧ Kp l H (upd H13 pd (.dK (putK kv (Sum.inr (sOf zs)) (.int q)))) ∧ Dice (upd H13 pd (.dK (putK kv (Sum.inr (sOf zs)) (.int q)))) l (n + (270 - 10 * (i + 1))) := fun q H13 q1 q4 k13 D13 => by
          refine ⟨by rw [upd_ne nsp]; exact k13 _ _ e12 nsa, _, upd_same, P10.put (z := sOf zs) (by rw [cs_sOf]; omega) (by rw [cs_sOf]; exact zc) ⟨q1, by omega⟩, Nat.le_trans put_len (by omega), fun d hd => ?_, ((k10.trans k1012).trans k13).mut hpd0, D13.upd npd⟩
          rw [valV_put]
          split
          · rfl
          · exact g10 d hd
        refine ⟨_, rfl, rfl, _, rfl, ?_⟩
        refine itB (fun ez => ?_) (fun ez => ?_)
        · refine ⟨_, rfl, _, rfl, pd, _, rfl, .inl ⟨kv, Sum.inr (sOf zs), p12, rfl, small1000' (by omega), rfl⟩, ?_⟩
          exact ⟨_, _, rfl, fin 1 H12 (by decide) (by decide) (Kp.refl _ _) (D12.le (by omega))⟩
        · refine ⟨_, rfl, l, 4, n + (270 - 10 * (i + 1)), rfl, by decide, by decide, D12.le (by omega), fun r3 H13 r30 r31 k13 D13 => ⟨_, _, rfl, rfl, ?_⟩⟩
          have r3' : r3 < 4 := r31
          refine ⟨_, rfl, _, rfl, pd, _, rfl, .inl ⟨kv, Sum.inr (sOf zs), k13 _ _ p12 npd, rfl, small1000' (by omega), rfl⟩, ?_⟩
          exact ⟨_, _, rfl, fin (1 + r3) H13 (by omega) (by omega) k13 D13⟩
      · rintro σ H10 ⟨x8, x9, rfl, e10, kv2, p10, P10, n10, g10, k10, D10⟩
        have n12 : kv2.length ≤ 12 := by omega
        obtain ⟨kvT, ekv⟩ : ∃ kvT, kvT = kv2 := ⟨_, rfl⟩
        rw [← ekv] at p10 P10 n12 g10
        have pT := p10
        have PT := P10
        have nT := n12
        have gT := g10
        have kT := k10
        have DT := (D10.le (by omega) : Dice H10 l (n + 100))
        refine ⟨_, rfl, _, rfl, pd, kvT, rfl, pT, fun Hi il ts si hil hts nil hl hp => ?_⟩
        have ni : il ≠ l := DT.ne hil
        have DI := DT.same si
        obtain ⟨prs, e1, e2, e3⟩ := paired_list hp
        have ln : ts.length = kvT.length := by rw [e1, e2, List.length_map, List.length_map]
        refine ⟨l, il, ts.map V.ref, n + 50, rfl, ni, SqL.of hl, by rw [List.length_map]; omega, DI.le (by rw [List.length_map]; omega), fun q zs Hq hq nq pm eq kq Dq => ?_⟩
        obtain ⟨pr2, pm2, ez⟩ := perm_liftB (f := fun p : Addr × (Key × V) => V.ref p.1) pm prs (by rw [e1, List.map_map]; rfl)
        have pmk : (pr2.map (·.2)).Perm kvT := by
          rw [e2]
          exact pm2.map _
        refine ⟨q, pr2.map (·.1), pr2.map (·.2), rfl, SqL.of (by rw [eq, ez, List.map_map]; rfl), paired_of (F := fun (p : Addr) (kv : Key × V) => SqT K Hq p [kV kv.1, kv.2]) (ps := pr2) (fun p hp2 => ?_), fun rd hrd => ?_⟩
        · have m := pm2.mem_iff.mp hp2
          have tl : p.1 ∈ ts := by
            rw [e1]
            exact List.mem_map.mpr ⟨p, m, rfl⟩
          exact SqT.of (kq _ _ (e3 p m) (DT.ne (hts _ tl)))
        have P2 := PT.perm pmk
        rw [merge_nd (kvs := []) (by rw [List.nil_append]; exact P2.nd), List.nil_append]
        obtain ⟨av, _⟩ := P2.right (fun c hc => has_perm pmk (gT c hc)) slt (by omega) (by omega) (by rw [pmk.length_eq]; exact nT)
        have kR : Kp l H Hq := (kT.trans (.of si)).trans kq
        have nrd : rd ≠ l := Dq.ne hrd
        exact k rd _ _ (kp_free kR nrd hrd) nrd upd_same av P2.nd (kR.new hrd) ((Dq.new hrd).le (by omega))
theorem sc__law_signs_of : FnScope ["book", "piece"] ["book"] (defScope s__law_signs_of) := ⟨rfl, rfl, rfl, by decide +kernel, rfl, by decide +kernel, by decide +kernel⟩
theorem ok__law_signs_of {f : Addr} {fd : FuncData} (F : Fun K "_law_signs_of" "_law_signs_of" s__law_signs_of f fd) (T : Txt K mg C) : FnOk P w K mg base CX0 1 f fd ["book"] (spSignsB K) := by
  refine F.ok sc__law_signs_of (fun vs H Q E h => ?_) (fun cdv A outer s H vs Q E hr h => ?_)
  · obtain ⟨d, kvs, rfl, _⟩ := h
    rfl
  · have hu := hu_of hr
    obtain ⟨d, kvs, rfl, hd, av, nd, k⟩ := h
    refine ⟨_, (pss_one (ps_ret (pe_callB (g_sortedS K) (by rfl) T.b_sorted (by decide +kernel) (pa_cons (pe_lock (by exact (pe_lc (own := [("piece", 1)]) rfl sc__law_signs_of.nd (pi_keys (pv 0)) (blkOk_by (own := [("piece", 1)]) (N := ["book", "piece"]) (sc := defScope s__law_signs_of) (by decide +kernel)) (fun _ _ _ _ _ => (pg_name (i := 1) sc__law_signs_of.nd rfl (Or.inl rfl))) (fun _ _ _ _ _ => (pts_one (pt_cmpR op_eq (pe_callB call_len_str (by rfl) T.b_len (by decide +kernel) (pa_cons (pv 1) pa_nil)) pe_int (nomark _)))) (fun _ _ _ _ _ => (pv 1))))) pa_nil)))), ?_⟩
    have tar := tar_of av nd
    have good := tar.good
    have kn := (ap_parts av).1
    refine ⟨d, _, hd, trivial, fun od => ?_⟩
    refine ⟨_, rfl, d, od, rfl, .inl ⟨kvs, upd_same, fun D hD => ?_⟩⟩
    have nD := lock_ne hD
    refine lcs kvs walk_keys (fun kv => (signV kv).map V.str) hD (by have := tar.len; omega) (fun H' s => s _ _ upd_same) ?_ ?_
    · rintro j kv x H2 H3 hj s2 ⟨rfl, k', v', ek, rfl⟩ N M hN hM
      have ekv : kv = (k', v') := Option.some.inj (hj.symm.trans ek)
      subst ekv
      obtain ⟨y, p, ey, hp⟩ := tar.mem _ (List.mem_of_getElem? hj)
      cases ey
      have ly := good.len y p hp
      have lz := cs_len y
      refine ⟨wipe_set, _, rfl, y, rfl, fits_sz (by omega), rfl, _, rfl, ?_⟩
      refine itB (fun q => ?_) (fun q => ?_)
      · refine ⟨_, rfl, hN _ _ ?_ (Same.refl _)⟩
        have e := of_decide_eq_true q
        have e1 : y.length = 1 := by
          have := V.int.inj e
          omega
        show (if y.length = 1 then some y else none).map V.str = _
        rw [if_pos e1]
        rfl
      · refine hM _ ?_ (Same.refl _)
        show (if y.length = 1 then some y else none).map V.str = _
        rw [if_neg fun e1 => (of_decide_eq_false q) (by rw [e1]; rfl)]
        rfl
    rintro H2 s2 e2
    have em : (kvs.filterMap fun kv => (signV kv).map V.str) = (kvs.filterMap signV).map V.str := by rw [List.map_filterMap]
    rw [em] at e2
    have S2 : Same H (upd H2 d (.dK kvs)) := unlock hd s2
    have eD : (upd H2 d (.dK kvs)) D = some (.lst ((kvs.filterMap signV).map V.str)) := by
      rw [upd_ne nD]
      exact e2
    refine ⟨s2 _ _ upd_same, ?_⟩
    generalize (upd H2 d (.dK kvs)) = H3 at S2 eD ⊢
    have zl : (kvs.filterMap signV).length ≤ 12 := Nat.le_trans (List.length_filterMap_le _ _) kn.2
    refine ⟨D, kvs.filterMap signV, rfl, SqL.of eD, by omega, fun ys sa pm so hsa => ?_⟩
    have zmem : ∀ y, y ∈ ys ↔ y.length = 1 ∧ ∃ p, tfD kvs y = some p := fun y => by
      rw [pm.mem_iff]
      constructor
      · intro h
        obtain ⟨kv, hkv, e⟩ := List.mem_filterMap.mp h
        obtain ⟨y', p, rfl, hp⟩ := tar.mem kv hkv
        have e' : (if y'.length = 1 then some y' else none) = some y := e
        by_cases g : y'.length = 1
        · rw [if_pos g] at e'
          cases e'
          exact ⟨g, p, hp⟩
        · rw [if_neg g] at e'
          cases e'
      · rintro ⟨h1, p, hp⟩
        have hk' := valV_in (tf_some.mp hp)
        obtain ⟨kv, hkv, e⟩ := List.mem_map.mp hk'
        refine List.mem_filterMap.mpr ⟨kv, hkv, ?_⟩
        unfold signV
        rw [e]
        show (if y.length = 1 then some y else none) = some y
        rw [if_pos h1]
    obtain ⟨sg, rfl, _⟩ : ∃ sg : List Nat, ys = sg.map ch ∧ ∀ c ∈ sg, True := lift_ch fun y hy => by
      obtain ⟨c, rfl⟩ := G.one_sign (z := y) (by rw [cs_len]; exact ((zmem y).mp hy).1)
      exact ⟨c, rfl, trivial⟩
    have iff1 : ∀ c, c ∈ sg ↔ Over (tfD kvs) [c] := fun c => by
      have e : c ∈ sg ↔ ch c ∈ sg.map ch := ⟨fun h => List.mem_map.mpr ⟨c, h, rfl⟩, fun h => by
        obtain ⟨x, hx, q⟩ := List.mem_map.mp h
        have := congrArg cs q
        simp [cs] at this
        rwa [← this]⟩
      rw [e, zmem]
      exact ⟨fun ⟨_, h⟩ x hx => by rw [List.mem_singleton.mp hx]; exact h, fun h => ⟨rfl, h c List.mem_cons_self⟩⟩
    refine k sa sg _ (S2.free hsa) (by rw [upd_same, List.map_map]; rfl) ?_ ?_ iff1 (S2.trans (same_new hsa))
    · have := pm.length_eq
      rw [List.length_map] at this
      omega
    · intro e
      cases kvs with
      | nil => simp at kn
      | cons a r =>
        obtain ⟨y, p, rfl, hp⟩ := tar.mem a List.mem_cons_self
        have ly := good.len y p hp
        obtain ⟨c, hc⟩ : ∃ c, c ∈ cs y := List.exists_mem_of_ne_nil _ (fun q => by rw [q] at ly; simp at ly)
        have := (iff1 c).mpr (fun x hx => by rw [List.mem_singleton.mp hx]; exact good.cov y p hp c hc)
        rw [e] at this
        exact List.not_mem_nil this
theorem sc__law_wide_of : FnScope ["book", "piece"] ["book"] (defScope s__law_wide_of) := ⟨rfl, rfl, rfl, by decide +kernel, rfl, by decide +kernel, by decide +kernel⟩
theorem ok__law_wide_of {f : Addr} {fd : FuncData} (F : Fun K "_law_wide_of" "_law_wide_of" s__law_wide_of f fd) (T : Txt K mg C) : FnG P w K mg base CX0 1 f fd ["book"] (spWide) := by
  refine fn_g0 F sc__law_wide_of (fun vs H Q E h => ?_) (fun cdv A outer s H vs Q E hg hr h => ?_)
  · obtain ⟨d, kvs, rfl, _⟩ := h
    rfl
  · have hu := hu_of hr
    obtain ⟨d, kvs, rfl, hd, tar, ne, k⟩ := h
    refine ⟨_, (pss_one (ps_ret (pe_callB (g_max K rfl) (by rfl) T.b_max (by decide +kernel) (pa_cons (pe_lock (by exact (pe_lc (own := [("piece", 1)]) rfl sc__law_wide_of.nd (pi_keys (pv 0)) (blkOk_by (own := [("piece", 1)]) (N := ["book", "piece"]) (sc := defScope s__law_wide_of) (by decide +kernel)) (fun _ _ _ _ _ => (pg_name (i := 1) sc__law_wide_of.nd rfl (Or.inl rfl))) (fun _ _ _ _ _ => pts_nil) (fun _ _ _ _ _ => (pe_callB call_len_str (by rfl) T.b_len (by decide +kernel) (pa_cons (pv 1) pa_nil)))))) pa_nil)))), ?_⟩
    refine ⟨d, _, hd, trivial, fun od => ?_⟩
    refine ⟨_, rfl, d, od, rfl, .inl ⟨kvs, upd_same, fun D hD => ?_⟩⟩
    have nD := lock_ne hD
    refine lcs kvs walk_keys (fun kv => match kv.1 with | .inr y => some (V.int ((cs y).length : Int)) | .inl _ => none) hD (by have := tar.len; omega) (fun H' s => s _ _ upd_same) ?_ ?_
    · rintro j kv x H2 H3 hj s2 ⟨rfl, k', v', ek, rfl⟩ N M hN hM
      have ekv : kv = (k', v') := Option.some.inj (hj.symm.trans ek)
      subst ekv
      obtain ⟨y, p, ey, hp⟩ := tar.mem _ (List.mem_of_getElem? hj)
      cases ey
      have ly := tar.good.len y p hp
      refine ⟨wipe_set, _, rfl, y, rfl, fits_sz (by rw [← cs_len]; omega), hN _ _ ?_ (Same.refl _)⟩
      show some (V.int ((cs y).length : Int)) = _
      rw [cs_len]
    rintro H2 s2 e2
    have em : (kvs.filterMap fun kv => match kv.1 with | .inr y => some (V.int ((cs y).length : Int)) | .inl _ => none) = ((keyStrs kvs).map fun y => ((cs y).length : Int)).map V.int := by
      unfold keyStrs
      rw [List.map_map, List.map_filterMap]
      congr 1
      funext kv
      cases kv.1 <;> rfl
    rw [em] at e2
    have keyE : ∀ {y}, y ∈ keyStrs kvs ↔ ∃ p, tfD kvs y = some p := fun {y} => by
      rw [ks_mem]
      constructor
      · intro h
        obtain ⟨kv, hkv, e⟩ := List.mem_map.mp h
        obtain ⟨y', p, rfl, hp⟩ := tar.mem kv hkv
        dsimp only at e
        cases e
        exact ⟨p, hp⟩
      · rintro ⟨p, h⟩
        exact valV_in (tf_some.mp h)
    have pos : 0 < ((keyStrs kvs).map fun y => ((cs y).length : Int)).length := by
      rw [List.length_map]
      cases kvs with
      | nil => exact absurd rfl ne
      | cons a r =>
        obtain ⟨y, p, rfl, hp⟩ := tar.mem a List.mem_cons_self
        exact List.length_pos_of_mem (keyE.mpr ⟨p, hp⟩)
    refine ⟨s2 _ _ upd_same, D, _, rfl, SqL.of (by rw [upd_ne nD]; exact e2), pos, fun m hm hle => ?_⟩
    obtain ⟨y, hy, rfl⟩ := List.mem_map.mp hm
    obtain ⟨p, hp⟩ := keyE.mp hy
    have ly := tar.good.len y p hp
    refine k (cs y).length _ ⟨⟨y, p, hp, rfl⟩, fun z q hz => ?_⟩ ly.1 ly.2 (unlock hd s2)
    have := hle _ (List.mem_map.mpr ⟨z, keyE.mpr ⟨q, hz⟩, rfl⟩)
    omega
theorem sc__law_starting : FnScope ["book", "text", "piece"] ["book", "text"] (defScope s__law_starting) := ⟨rfl, rfl, rfl, by decide +kernel, rfl, by decide +kernel, by decide +kernel⟩
theorem ok__law_starting {f : Addr} {fd : FuncData} (F : Fun K "_law_starting" "_law_starting" s__law_starting f fd) (T : Txt K mg C) : FnOk P w K mg base CX0 1 f fd ["book", "text"] (spStartB) := by
  refine F.ok sc__law_starting (fun vs H Q E h => ?_) (fun cdv A outer s H vs Q E hr h => ?_)
  · obtain ⟨d, kvs, t, rfl, _⟩ := h
    rfl
  · have hu := hu_of hr
    obtain ⟨d, kvs, t, rfl, hd, tar, k12, tl, k⟩ := h
    refine ⟨_, (pss_one (ps_ret (pe_callB (g_sortedS K) (by rfl) T.b_sorted (by decide +kernel) (pa_cons (pe_lock (by exact (pe_lc (own := [("piece", 2)]) rfl sc__law_starting.nd (pi_keys (pv 0)) (blkOk_by (own := [("piece", 2)]) (N := ["book", "text", "piece"]) (sc := defScope s__law_starting) (by decide +kernel)) (fun _ _ _ _ _ => (pg_name (i := 2) sc__law_starting.nd rfl (Or.inl rfl))) (fun _ _ _ _ _ => (pts_one (pt_val (pe_m1 PySem.F.slot_str_startswith PySem.F.type_str_startswith mt_startswith (pv 1) (pv 2))))) (fun _ _ _ _ _ => (pv 2))))) pa_nil)))), ?_⟩
    have good := tar.good
    refine ⟨d, _, hd, trivial, fun od => ?_⟩
    refine ⟨_, rfl, d, od, rfl, .inl ⟨kvs, upd_same, fun D hD => ?_⟩⟩
    have nD := lock_ne hD
    refine lcs kvs walk_keys (fun kv => (startV (sOf t) kv).map V.str) hD (by have := tar.len; omega) (fun H' s => s _ _ upd_same) ?_ ?_
    · rintro j kv x H2 H3 hj s2 ⟨rfl, k', v', ek, rfl⟩ N M hN hM
      have ekv : kv = (k', v') := Option.some.inj (hj.symm.trans ek)
      subst ekv
      obtain ⟨y, p, ey, hp⟩ := tar.mem _ (List.mem_of_getElem? hj)
      cases ey
      refine ⟨wipe_set, _, rfl, ⟨_, rfl⟩, _, rfl, _, _, rfl, rfl, _, rfl, ?_⟩
      have es : (startV (sOf t) (Sum.inr y, V.int p)) = if Txt.startswith (sOf t) y = true then some y else none := rfl
      refine itB (fun q => ?_) (fun q => ?_)
      · refine ⟨_, rfl, hN _ _ ?_ (Same.refl _)⟩
        rw [es, if_pos q]
        rfl
      · refine hM _ ?_ (Same.refl _)
        rw [es, if_neg (by rw [q]; exact Bool.false_ne_true)]
        rfl
    rintro H2 s2 e2
    have em : (kvs.filterMap fun kv => (startV (sOf t) kv).map V.str) = (kvs.filterMap (startV (sOf t))).map V.str := by rw [List.map_filterMap]
    rw [em] at e2
    have S2 : Same H (upd H2 d (.dK kvs)) := unlock hd s2
    have eD : (upd H2 d (.dK kvs)) D = some (.lst ((kvs.filterMap (startV (sOf t))).map V.str)) := by
      rw [upd_ne nD]
      exact e2
    refine ⟨s2 _ _ upd_same, ?_⟩
    generalize (upd H2 d (.dK kvs)) = H3 at S2 eD ⊢
    have zl : (kvs.filterMap (startV (sOf t))).length ≤ 12 := Nat.le_trans (List.length_filterMap_le _ _) k12
    refine ⟨D, kvs.filterMap (startV (sOf t)), rfl, SqL.of eD, by omega, fun ys sa pm so hsa => ?_⟩
    refine k sa ys _ (S2.free hsa) upd_same (by have := pm.length_eq; omega) (fun y hy => ?_) (S2.trans (same_new hsa))
    obtain ⟨kv, hkv, e⟩ := List.mem_filterMap.mp (pm.mem_iff.mp hy)
    obtain ⟨y', p, rfl, hp⟩ := tar.mem kv hkv
    have e' : (if Txt.startswith (sOf t) y' = true then some y' else none) = some y := e
    by_cases g : Txt.startswith (sOf t) y' = true
    · rw [if_pos g] at e'
      cases e'
      obtain ⟨b, hb⟩ := starts_begB.mp g
      rw [cs_sOf] at hb
      exact ⟨⟨p, hp⟩, b, hb⟩
    · rw [if_neg g] at e'
      cases e'
theorem sc__law_prices_along : FnScope ["book", "text", "found", "stop", "here", "piece"] ["book", "text"] (defScope s__law_prices_along) := ⟨rfl, rfl, rfl, by decide +kernel, rfl, by decide +kernel, by decide +kernel⟩
theorem ok__law_prices_along {f : Addr} {fd : FuncData} (F : Fun K "_law_prices_along" "_law_prices_along" s__law_prices_along f fd) (T : Txt K mg C) : FnG P w K mg base CX0 2 f fd ["book", "text"] (spCheap) := by
  refine fn_g0 F sc__law_prices_along (fun vs H Q E h => ?_) (fun cdv A outer s H vs Q E hg hr h => ?_)
  · obtain ⟨d, kvs, z, rfl, _⟩ := h
    rfl
  · have hu := hu_of hr
    obtain ⟨d, kvs, z, rfl, hd, tar, ov, hz, k⟩ := h
    refine ⟨_, (pss_cons (ps_set (i := 2) sc__law_prices_along.nd rfl (Or.inr rfl) (pe_lst (pa_cons pe_int pa_nil)))
      (pss_cons (ps_for PassesOwn.never rfl (pi_range2 (by rfl) T.b_range (pa_cons pe_int (pa_cons (pe_op op_add (pe_callB call_len_str (by rfl) T.b_len (by decide +kernel) (pa_cons (pv 1) pa_nil)) pe_int) pa_nil))) (pg_name (i := 3) sc__law_prices_along.nd rfl (Or.inr rfl)) (pss_cons (ps_set (i := 4) sc__law_prices_along.nd rfl (Or.inr rfl) (pe_slice sl_str (pv 1) po_none (po_some (pv 3))))
      (pss_one (ps_expr (g_bm K PySem.F.plainAttrs_list PySem.F.slot_list_append PySem.F.type_list_append mt_append (pv 2) (pa_cons (pe_callB (g_min K rfl) (by rfl) T.b_min (by decide +kernel) (pa_cons (pe_lock (by exact (pe_lc (own := [("piece", 5)]) rfl sc__law_prices_along.nd (pi_keys (pv 0)) (blkOk_by (own := [("piece", 5)]) (N := ["book", "text", "found", "stop", "here", "piece"]) (sc := defScope s__law_prices_along) (by decide +kernel)) (fun _ _ _ _ _ => (pg_name (i := 5) sc__law_prices_along.nd rfl (Or.inl rfl))) (fun _ _ _ _ _ => (pts_one (pt_val (pe_m1 PySem.F.slot_str_endswith PySem.F.type_str_endswith mt_endswith (pv 4) (pv 5))))) (fun _ _ _ _ _ => (pe_op op_add (pe_ix (g_ix_list K) (pv 2) (pe_op op_sub (pv 3) (pe_callB call_len_str (by rfl) T.b_len (by decide +kernel) (pa_cons (pv 5) pa_nil))) (fun _ _ => rfl)) (pe_dget hu (pv 0) (pv 5) (fun _ _ => rfl))))))) pa_nil)) pa_nil))))))
      (pss_one (ps_ret (pv 2))))), ?_⟩
    have good := tar.good
    have lz := cs_len z
    refine ⟨(by show 1 ≤ sizeLine; decide), fun fo hfo => ?_⟩
    have nfd : fo ≠ d := (ne_of_none hd hfo).symm
    refine ⟨_, rfl, z, rfl, fits_sz (by omega), _, _, rfl, rfl, 1, _, rfl, ⟨by omega, by omega, by omega, by omega⟩, for_range (lo := 1) (Pv := fun i σ H' => ∃ u v u2, σ = [some (.ref d), some (.str z), some (.ref fo), u, v, u2] ∧ Same H H' ∧ H' fo = some (.lst (rowV (tfD kvs) (cs z) (i + 1))))
      ⟨_, _, _, rfl, same_new hfo, by rw [upd_same, rowV_one good]⟩ ?_ ?_⟩
    · rintro i σ H1 hi ⟨u, v, u2, rfl, s1, f1⟩
      have hi' : i < z.length := by omega
      have d1 := s1 _ _ hd
      have e1 : (1 : Int) + (i : Int) = ((i + 1 : Nat) : Int) := by omega
      rw [e1]
      have hst : cs (cutS z none (some ((i + 1 : Nat) : Int))) = (cs z).take (i + 1) := cs_cutTo (by omega)
      have lst : (cutS z none (some ((i + 1 : Nat) : Int))).length = i + 1 := by
        rw [← cs_len, hst, List.length_take]
        omega
      refine ⟨_, rfl, _, rfl, _, rfl, z, rfl, fits_sz (by omega), ?_⟩
      refine ⟨_, rfl, .inl ⟨rfl, _, SqL.of f1⟩, d, _, d1, trivial, fun od => ?_⟩
      refine ⟨_, rfl, d, od, rfl, .inl ⟨kvs, upd_same, fun D hD => ?_⟩⟩
      have nD := lock_ne hD
      have f1' : (upd H1 d (.frz od (.dK kvs))) fo = some (.lst (rowV (tfD kvs) (cs z) (i + 1))) := by
        rw [upd_ne nfd]
        exact f1
      refine lcs kvs walk_keys (fun kv => (candG (tfD kvs) (cs z) (i + 1) (cutS z none (some ((i + 1 : Nat) : Int))) kv).map V.int) hD (by have := tar.len; omega) (fun H' s => s _ _ upd_same) ?_ ?_
      · rintro j kv x H2 H3 hj s2 ⟨rfl, k', v', ek, rfl⟩ N M hN hM
        have ekv : kv = (k', v') := Option.some.inj (hj.symm.trans ek)
        subst ekv
        obtain ⟨y, p, ey, hp⟩ := tar.mem _ (List.mem_of_getElem? hj)
        cases ey
        have ly := good.len y p hp
        rw [cs_len] at ly
        refine ⟨wipe_set, _, rfl, ⟨_, rfl⟩, _, rfl, _, _, rfl, rfl, _, rfl, ?_⟩
        refine itB (fun q => ?_) (fun q => ?_)
        · obtain ⟨a, ha⟩ := ends_iff.mp q
          have la := congrArg List.length ha
          rw [List.length_append, cs_len, cs_len, lst] at la
          refine ⟨_, rfl, _, rfl, _, rfl, _, rfl, fits_sz (by omega), _, _, rfl, rfl, fo, _, _, _, rfl, rfl, SqL.of (s2 _ _ f1'), at_of (j := i + 1 - y.length) (by omega) (rowV_at (by omega)), _, rfl, _, rfl, d, _, rfl, .inl ⟨kvs, Sum.inr y, .inr ⟨od, s2 _ _ upd_same⟩, rfl, (tf_some.mp hp).symm⟩, _, _, rfl, rfl, hN _ _ ?_ (Same.refl _)⟩
          show (if Txt.endswith (cutS z none (some ((i + 1 : Nat) : Int))) y = true then some (lp (tfD kvs) ((cs z).take (i + 1 - y.length)) + p) else none).map V.int = _
          rw [if_pos q]
          rfl
        · refine hM _ ?_ (Same.refl _)
          show (if Txt.endswith (cutS z none (some ((i + 1 : Nat) : Int))) y = true then some (lp (tfD kvs) ((cs z).take (i + 1 - y.length)) + p) else none).map V.int = _
          rw [if_neg (by rw [q]; exact Bool.false_ne_true)]
          rfl
      rintro H2 s2 e2
      rw [fm_int] at e2
      obtain ⟨pos, least⟩ := cand_min tar ov hst (by omega) (by omega)
      have S2 : Same H1 (upd H2 d (.dK kvs)) := unlock d1 s2
      refine ⟨s2 _ _ upd_same, D, _, rfl, SqL.of (by rw [upd_ne nD]; exact e2), pos, fun m hm hl => ?_⟩
      have em := least m hm hl
      subst em
      refine ⟨fo, _, _, rfl, rfl, S2 _ _ f1, by rw [rowV_len]; exact small1000' (by omega), ?_⟩
      refine ⟨_, _, _, rfl, same_mut (s1.trans S2) hfo, ?_⟩
      rw [upd_same, rowV_succ (n := i + 1)]
    · rintro σ H1 ⟨u, v, u2, rfl, s1, f1⟩
      have e1 : ((z.length : Int) + 1 - 1).toNat = z.length := by omega
      rw [e1] at f1
      exact ⟨_, rfl, k fo H1 hfo f1 s1⟩
theorem sc__law_state_of : FnScope ["book", "text", "pieces", "rows", "wide", "piece", "last", "found", "row", "one"] ["book", "text", "pieces"] (defScope s__law_state_of) := ⟨rfl, rfl, rfl, by decide +kernel, rfl, by decide +kernel, by decide +kernel⟩
theorem ok__law_state_of {f : Addr} {fd : FuncData} (F : Fun K "_law_state_of" "_law_state_of" s__law_state_of f fd) (T : Txt K mg C) (c__law_prices_along : Has P w K mg base CX0 2 "_law_prices_along" ["book", "text"] (spCheap)) (c__law_wide_of : Has P w K mg base CX0 1 "_law_wide_of" ["book"] (spWide)) : FnG P w K mg base CX0 3 f fd ["book", "text", "pieces"] (spState) := by
  refine fn_g0 F sc__law_state_of (fun vs H Q E h => ?_) (fun cdv A outer s H vs Q E hg hr h => ?_)
  · obtain ⟨d, pa, kvs, t, z, p, r, rfl, _⟩ := h
    rfl
  · have hu := hu_of hr
    obtain ⟨d, pa, kvs, t, z, p, r, rfl, hd, tar, ne, ov, tl, hpa, hz, ht, k⟩ := h
    refine ⟨_, (pss_cons (ps_par (i := 3) (j := 4) (by rfl) sc__law_state_of.nd rfl rfl (by decide) rfl rfl (pa_cons (pe_lst (pa_cons (pe_has c__law_prices_along hg (hr.mono (by decide)) pass0 (pa_cons (pv 0) (pa_cons (pv 1) pa_nil))) pa_nil)) (pa_cons (pe_has c__law_wide_of hg (hr.mono (by decide)) pass0 (pa_cons (pv 0) pa_nil)) pa_nil)) (by rfl))
      (pss_cons (ps_for PassesOwn.never rfl (g_list K (pv 2)) (pg_name (i := 5) sc__law_state_of.nd rfl (Or.inr rfl)) (pss_one (ps_expr (g_bm K PySem.F.plainAttrs_list PySem.F.slot_list_append PySem.F.type_list_append mt_append (pv 3) (pa_cons (pe_op op_cat (pe_op op_rep (pe_lst (pa_cons pe_non pa_nil)) (pe_callB call_len_str (by rfl) T.b_len (by decide +kernel) (pa_cons (pv 5) pa_nil))) (pe_lc (own := [("one", 9)]) rfl sc__law_state_of.nd (g_list K (pe_has c__law_prices_along hg (hr.mono (by decide)) pass0 (pa_cons (pv 0) (pa_cons (pe_slice sl_str (pv 1) (po_some (pe_callB call_len_str (by rfl) T.b_len (by decide +kernel) (pa_cons (pv 5) pa_nil))) po_none) pa_nil)))) (blkOk_by (own := [("one", 9)]) (N := ["book", "text", "pieces", "rows", "wide", "piece", "last", "found", "row", "one"]) (sc := defScope s__law_state_of) (by decide +kernel)) (fun _ _ _ _ _ => (pg_name (i := 9) sc__law_state_of.nd rfl (Or.inl rfl))) (fun _ _ _ _ _ => pts_nil) (fun _ _ _ _ _ => (pe_op op_add (pe_dget hu (pv 0) (pv 5) (fun _ _ => rfl)) (pv 9))))) pa_nil)))))
      (pss_cons (ps_asg (pe_tup (pa_cons (pe_ix (g_ix_list K) (pe_ix (g_ix_list K) (pv 3) pe_int (fun _ _ => rfl)) (pe_un un_neg pe_int) (fun _ _ => rfl)) (pa_cons (pe_lst pa_nil) pa_nil))) (g_tup K (n := 2) rfl (pgs_cons (pg_name (i := 6) sc__law_state_of.nd rfl (Or.inr rfl)) (pgs_cons (pg_name (i := 7) sc__law_state_of.nd rfl (Or.inl rfl)) pgs_nil))))
      (pss_cons (ps_for PassesOwn.never rfl (g_list K (pv 3)) (pg_name (i := 8) sc__law_state_of.nd rfl (Or.inl rfl)) (pss_one (ps_expr (g_bm K PySem.F.plainAttrs_list PySem.F.slot_list_append PySem.F.type_list_append mt_append (pv 7) (pa_cons (pe_callTy (g_tuple_of K) (by rfl) T.b_tuple (by decide +kernel) (pa_cons (pe_lc (own := [("one", 9)]) rfl sc__law_state_of.nd (g_list K (pe_slice (g_sl_list K) (pe_revL (pv 8)) po_none (po_some (pv 4)))) (blkOk_by (own := [("one", 9)]) (N := ["book", "text", "pieces", "rows", "wide", "piece", "last", "found", "row", "one"]) (sc := defScope s__law_state_of) (by decide +kernel)) (fun _ _ _ _ _ => (pg_name (i := 9) sc__law_state_of.nd rfl (Or.inl rfl))) (fun _ _ _ _ _ => pts_nil) (fun _ _ _ _ _ => (pe_ifExp (pt_cmpR op_isN (pv 9) pe_non (nomark _)) (pv 9) (pe_op op_sub (pv 9) (pv 6))))) pa_nil)) pa_nil)))))
      (pss_one (ps_ret (pe_tup (pa_cons (pe_slice sl_str (pv 1) (po_some (pe_callB (call_max2 rfl) (by rfl) T.b_max (by decide +kernel) (pa_cons pe_int (pa_cons (pe_op op_add (pe_op op_sub (pe_callB call_len_str (by rfl) T.b_len (by decide +kernel) (pa_cons (pv 1) pa_nil)) (pv 4)) pe_int) pa_nil)))) po_none) (pa_cons (pe_callTy (g_tuple_of K) (by rfl) T.b_tuple (by decide +kernel) (pa_cons (pv 7) pa_nil)) pa_nil))))))))), ?_⟩
    have lz := cs_len z
    have ln : t.length = (cs z).length + r.length := by rw [ht, List.length_append]
    have ov' := ov
    rw [ht] at ov'
    have or : Over (tfD kvs) r := fun c hc => ov' c (List.mem_append_right _ hc)
    have zl := tar.good.len z p hz
    refine ⟨_, rfl, _, rfl, d, kvs, sOf t, rfl, hd, tar, by rw [cs_sOf]; exact ov, by rw [sOf_len]; omega, fun ro H1 hro r1 s1 => ?_⟩
    rw [cs_sOf, sOf_len, os0_rowV] at r1
    refine ⟨by show 1 ≤ sizeLine; decide, fun rl hrl => ?_⟩
    have s2 := s1.trans (same_new hrl (o := .lst [V.ref ro]))
    have r2 := same_new hrl (o := .lst [V.ref ro]) _ _ r1
    have l2 : (upd H1 rl (.lst [V.ref ro])) rl = some (.lst [V.ref ro]) := upd_same
    have hrl0 : H rl = none := s1.free hrl
    have nro : ro ≠ rl := ne_of_none r1 hrl
    generalize (upd H1 rl (.lst [V.ref ro])) = H2 at s2 r2 l2 ⊢
    refine ⟨_, rfl, d, kvs, rfl, s2 _ _ hd, tar, ne, fun L H3 wL l1 l5 s3 => ⟨_, _, rfl, ?_⟩⟩
    have s3' := s2.trans s3
    refine ⟨_, rfl, pa, rfl, ⟨_, SqL.of (s3' _ _ hpa)⟩, for_list (K := K) (xs := [V.str z]) (fun j σ H' => ∃ x5 rb, σ = [some (.ref d), some (.str (sOf t)), some (.ref pa), some (.ref rl), some (.int (L : Int)), x5, none, none, none, none] ∧ Same H H' ∧ H' ro = some (.lst ((os0 (tfD kvs) t).map oV)) ∧ ((j = 0 ∧ H' rl = some (.lst [V.ref ro])) ∨ (j = 1 ∧ H' rl = some (.lst [V.ref ro, V.ref rb]) ∧ H' rb = some (.lst ((os1 (tfD kvs) p (cs z).length r).map oV)))))
      ⟨_, rl, rfl, s3', s3 _ _ r2, .inl ⟨rfl, s3 _ _ l2⟩⟩ (fun i σ H' _ q => by obtain ⟨_, _, _, q, _⟩ := q; exact SqL.of (q _ _ hpa)) ?_ ?_⟩
    · rintro j x σ H4 hx ⟨x5, rb, rfl, s4, r4, q4⟩
      have j0 : j = 0 ∧ x = V.str z := by
        have := (List.getElem?_eq_some_iff.mp hx).1
        have e : j = 0 := by
          simp only [List.length_cons, List.length_nil] at this
          omega
        subst e
        exact ⟨rfl, (Option.some.inj hx).symm⟩
      obtain ⟨rfl, rfl⟩ := j0
      have l4 : H4 rl = some (.lst [V.ref ro]) := by
        rcases q4 with ⟨_, q⟩ | ⟨q, _⟩
        · exact q
        · exact absurd q (by decide)
      refine ⟨_, rfl, .inl ⟨rfl, _, SqL.of l4⟩, by show 1 ≤ sizeLine; decide, fun n1 hn1 => ?_⟩
      have nrl : rl ≠ n1 := ne_of_none l4 hn1
      have e5 : (List.replicate ((z.length : Int).toNat) [V.non]).flatten = List.replicate (cs z).length V.non := by
        rw [Int.toNat_natCast, lz, List.flatten_replicate_singleton]
      refine ⟨_, rfl, z, rfl, fits_sz (by omega), n1, _, [V.non], rfl, rfl, upd_same, by omega, by omega, by rw [Int.toNat_natCast]; exact fits_sz (by show 1 * z.length ≤ 100000; omega), fun n2 hn2 => ?_⟩
      rw [e5]
      have s5 : Same H4 (upd (upd H4 n1 (.lst [V.non])) n2 (.lst (List.replicate (cs z).length V.non))) := (same_new hn1).trans (same_new hn2)
      have m5 : (upd (upd H4 n1 (.lst [V.non])) n2 (.lst (List.replicate (cs z).length V.non))) n2 = some (.lst (List.replicate (cs z).length V.non)) := upd_same
      have n2l : rl ≠ n2 := ne_of_none (same_new hn1 (o := .lst [V.non]) _ _ l4) hn2
      generalize (upd (upd H4 n1 (.lst [V.non])) n2 (.lst (List.replicate (cs z).length V.non))) = H5 at s5 m5 ⊢
      have s45 := s4.trans s5
      have hcut : cutS (sOf t) (some (z.length : Int)) none = sOf r := str_ext (by rw [cs_cutFrom (by rw [sOf_len]; omega), cs_sOf, cs_sOf, ht, ← lz, List.drop_left])
      refine ⟨_, rfl, _, rfl, _, rfl, z, rfl, fits_sz (by omega), _, rfl, sOf t, rfl, by rw [sOf_len]; exact fits_sz (by omega), ?_⟩
      rw [hcut]
      refine ⟨d, kvs, sOf r, rfl, s45 _ _ hd, tar, by rw [cs_sOf]; exact or, by rw [sOf_len]; omega, fun ra H6 hra a6 s6 => ?_⟩
      rw [cs_sOf, sOf_len] at a6
      refine ⟨ra, rfl, ⟨_, SqL.of a6⟩, fun D hD => ?_⟩
      refine lcs (List.range (r.length + 1)) (walk_listF (K := K) (fun j => V.int (lp (tfD kvs) (r.take j))) (List.range (r.length + 1))) (fun j => some (V.int (p + lp (tfD kvs) (r.take j)))) hD (by rw [List.length_range]; omega) (fun H' s => SqL.of (s _ _ a6)) ?_ ?_
      · rintro i y x H7 H8 hi s7 ⟨rfl, y', ey, rfl⟩ N M' hN hM
        have e1 : y = y' := Option.some.inj (hi.symm.trans ey)
        subst e1
        have s57 := (s45.trans s6).trans s7
        exact ⟨wipe_set, _, rfl, _, rfl, d, _, rfl, .inl ⟨kvs, Sum.inr z, .inl (s57 _ _ hd), rfl, (tf_some.mp hz).symm⟩, _, rfl, _, _, rfl, rfl, hN _ _ rfl (Same.refl _)⟩
      rintro H7 s7 e7
      have em : ((List.range (r.length + 1)).filterMap fun j => some (V.int (p + lp (tfD kvs) (r.take j)))) = (List.range (r.length + 1)).map fun j => V.int (p + lp (tfD kvs) (r.take j)) := by rw [fm_some]
      rw [em] at e7
      have s67 := s6.trans s7
      have n7 := s67 _ _ m5
      refine ⟨n2, D, _, _, rfl, rfl, n7, e7, by rw [List.length_replicate, List.length_map, List.length_range]; exact fits_sz (by omega), fun n3 hn3 => ?_⟩
      have s8 : Same H7 (upd H7 n3 (.lst (List.replicate (cs z).length V.non ++ (List.range (r.length + 1)).map fun j => V.int (p + lp (tfD kvs) (r.take j))))) := same_new hn3
      have m8 : (upd H7 n3 (.lst (List.replicate (cs z).length V.non ++ (List.range (r.length + 1)).map fun j => V.int (p + lp (tfD kvs) (r.take j))))) n3 = some (.lst ((os1 (tfD kvs) p (cs z).length r).map oV)) := by
        rw [upd_same]
        unfold os1
        rw [List.map_append, List.map_replicate, List.map_map]
        rfl
      generalize (upd H7 n3 (.lst (List.replicate (cs z).length V.non ++ (List.range (r.length + 1)).map fun j => V.int (p + lp (tfD kvs) (r.take j))))) = H8 at s8 m8 ⊢
      have s48 : Same H4 H8 := (s5.trans s67).trans s8
      have nn : n3 ≠ rl := fun e => by
        rw [e, s67 _ _ (s5 _ _ l4)] at hn3
        cases hn3
      refine ⟨rl, [V.ref ro], V.ref n3, rfl, rfl, s48 _ _ l4, small1000' (by show 1 ≤ 100000; decide), ?_⟩
      refine ⟨_, n3, rfl, same_mut (s4.trans s48) hrl0, by rw [upd_ne nro]; exact s48 _ _ r4, .inr ⟨rfl, upd_same, by rw [upd_ne nn]; exact m8⟩⟩
    rintro σ H4 ⟨x5, rb, rfl, s4, r4, q4⟩
    obtain ⟨l4, b4⟩ : H4 rl = some (.lst [V.ref ro, V.ref rb]) ∧ H4 rb = some (.lst ((os1 (tfD kvs) p (cs z).length r).map oV)) := by
      rcases q4 with ⟨q, _⟩ | ⟨_, q⟩
      · exact absurd q (by show ¬ (1 = 0); decide)
      · exact q
    clear q4
    have full : (os0 (tfD kvs) t).map oV = ((List.range t.length).map fun j => V.int (lp (tfD kvs) (t.take j))) ++ [V.int (lp (tfD kvs) t)] := by
      rw [← os0_rowV, rowV_succ, List.take_length]
      rfl
    refine ⟨_, rfl, rl, _, _, V.ref ro, rfl, rfl, SqL.of l4, at_of (j := 0) rfl rfl, _, rfl, ro, _, _, .int (lp (tfD kvs) t), rfl, rfl, SqL.of r4, by rw [full]; exact atI_last, ?_⟩
    refine ⟨by show 0 ≤ sizeLine; decide, fun fo hfo => ?_⟩
    refine ⟨by show 2 ≤ sizeLine; decide, fun tp htp => ?_⟩
    refine ⟨tp, _, rfl, SqT.of upd_same, rfl, _, _, rfl, _, _, rfl, rfl, ?_⟩
    have s5 : Same H4 (upd (upd H4 fo (.lst [])) tp (.tup [V.int (lp (tfD kvs) t), .ref fo])) := (same_new hfo).trans (same_new htp)
    have f5 : (upd (upd H4 fo (.lst [])) tp (.tup [V.int (lp (tfD kvs) t), .ref fo])) fo = some (.lst []) := same_new htp _ _ upd_same
    have hfo0 := s4.free hfo
    have nrl : rl ≠ fo := ne_of_none l4 hfo
    have nrb : rb ≠ fo := ne_of_none b4 hfo
    have nro2 : ro ≠ fo := ne_of_none r4 hfo
    generalize (upd (upd H4 fo (.lst [])) tp (.tup [V.int (lp (tfD kvs) t), .ref fo])) = H5 at s5 f5 ⊢
    have s45 := s4.trans s5
    refine ⟨_, rfl, rl, rfl, ⟨_, SqL.of (s5 _ _ l4)⟩, for_list (K := K) (xs := [V.ref ro, V.ref rb]) (fun j σ H' => ∃ x8, σ = [some (.ref d), some (.str (sOf t)), some (.ref pa), some (.ref rl), some (.int (L : Int)), x5, some (.int (lp (tfD kvs) t)), some (.ref fo), x8, none] ∧ Same H H' ∧ H' rl = some (.lst [V.ref ro, V.ref rb]) ∧ H' ro = some (.lst ((os0 (tfD kvs) t).map oV)) ∧ H' rb = some (.lst ((os1 (tfD kvs) p (cs z).length r).map oV)) ∧ ∃ ts : List Addr, ts.length = j ∧ H' fo = some (.lst (ts.map V.ref)) ∧ ∀ i tt, ts[i]? = some tt → H' tt = some (.tup (if i = 0 then row0 (tfD kvs) L t else row1 (tfD kvs) L p r t)))
      ⟨_, rfl, s45, s5 _ _ l4, s5 _ _ r4, s5 _ _ b4, [], rfl, f5, fun i tt e => by simp at e⟩ (fun i σ H' _ q => by obtain ⟨_, _, _, q, _⟩ := q; exact SqL.of q) ?_ ?_⟩
    · rintro j x σ H6 hx ⟨x8, rfl, s6, l6, r6, b6, ts, tsl, f6, hts⟩
      obtain ⟨ra, os, rfl, ha, hos, hol⟩ : ∃ (ra : Addr) (os : List (Option Int)), x = V.ref ra ∧ H6 ra = some (.lst (os.map oV)) ∧ osR L (lp (tfD kvs) t) os = (if j = 0 then row0 (tfD kvs) L t else row1 (tfD kvs) L p r t) ∧ os.length = t.length + 1 := by
        match j, hx with
        | 0, hx => exact ⟨ro, _, (Option.some.inj hx).symm, r6, by rw [if_pos rfl]; exact os0_row, os0_len⟩
        | 1, hx => exact ⟨rb, _, (Option.some.inj hx).symm, b6, by rw [if_neg (by decide)]; exact os1_row ht, by rw [os1_len]; omega⟩
        | n + 2, hx => simp at hx
      refine ⟨_, rfl, .inl ⟨rfl, _, SqL.of f6⟩, _, rfl, ra, _, rfl, SqL.of ha, fun q1 hq1 => ?_⟩
      refine ⟨_, rfl, _, rfl, q1, _, rfl, SqL.of upd_same, fun q2 hq2 => ?_⟩
      rw [cutV_to', osR_pre]
      have s7 : Same H6 (upd (upd H6 q1 (.lst (os.map oV).reverse)) q2 (.lst ((os.reverse.take L).map oV))) := (same_new hq1).trans (same_new hq2)
      have m7 : (upd (upd H6 q1 (.lst (os.map oV).reverse)) q2 (.lst ((os.reverse.take L).map oV))) q2 = some (.lst ((os.reverse.take L).map oV)) := upd_same
      generalize (upd (upd H6 q1 (.lst (os.map oV).reverse)) q2 (.lst ((os.reverse.take L).map oV))) = H7 at s7 m7 ⊢
      refine ⟨q2, rfl, ⟨_, SqL.of m7⟩, fun D hD => ?_⟩
      refine lcs (os.reverse.take L) (walk_listF (K := K) oV (os.reverse.take L)) (fun o => some (oV (o.map fun i => i - lp (tfD kvs) t))) hD (by rw [List.length_take]; omega) (fun H' s => SqL.of (s _ _ m7)) ?_ ?_
      · rintro i y x H8 H9 hi s8 ⟨rfl, y', ey, rfl⟩ N M' hN hM
        have e1 : y = y' := Option.some.inj (hi.symm.trans ey)
        subst e1
        cases y with
        | none => exact ⟨wipe_set, _, rfl, rfl, _, rfl, itT (decide_eq_true rfl) ⟨_, rfl, hN _ _ rfl (Same.refl _)⟩⟩
        | some v => exact ⟨wipe_set, _, rfl, rfl, _, rfl, itF (decide_eq_false fun q => by cases q) ⟨_, rfl, _, rfl, _, _, rfl, rfl, hN _ _ rfl (Same.refl _)⟩⟩
      rintro H8 s8 e8
      have em : ((os.reverse.take L).filterMap fun o => some (oV (o.map fun i => i - lp (tfD kvs) t))) = osR L (lp (tfD kvs) t) os := by
        rw [fm_some]
        unfold osR
        rw [List.map_map]
        rfl
      rw [em, hos] at e8
      refine ⟨D, _, rfl, .inl ⟨SqL.of e8, fun td htd => ?_⟩⟩
      have s68 := s7.trans s8
      have s9 : Same H6 (upd H8 td (.tup (if j = 0 then row0 (tfD kvs) L t else row1 (tfD kvs) L p r t))) := s68.trans (same_new htd)
      have m9 : (upd H8 td (.tup (if j = 0 then row0 (tfD kvs) L t else row1 (tfD kvs) L p r t))) td = some (.tup (if j = 0 then row0 (tfD kvs) L t else row1 (tfD kvs) L p r t)) := upd_same
      have ntd : td ≠ fo := fun e => by
        rw [e, s68 _ _ f6] at htd
        cases htd
      generalize (upd H8 td (.tup (if j = 0 then row0 (tfD kvs) L t else row1 (tfD kvs) L p r t))) = H9 at s9 m9 ⊢
      have tl2 : ts.length ≤ 1 := by
        have := (List.getElem?_eq_some_iff.mp hx).1
        have e : [V.ref ro, V.ref rb].length = 2 := rfl
        omega
      refine ⟨fo, ts.map V.ref, V.ref td, rfl, rfl, s9 _ _ f6, by rw [List.length_map]; exact small1000' (by omega), ?_⟩
      refine ⟨_, rfl, same_mut (s6.trans s9) hfo0, by rw [upd_ne nrl]; exact s9 _ _ l6, by rw [upd_ne nro2]; exact s9 _ _ r6, by rw [upd_ne nrb]; exact s9 _ _ b6, ts ++ [td], by rw [List.length_append, tsl]; rfl, by rw [upd_same, List.map_append]; rfl, fun i tt e => ?_⟩
      rcases Nat.lt_or_ge i ts.length with g | g
      · rw [List.getElem?_append_left g] at e
        have h9 := hts i tt e
        have nt : tt ≠ fo := fun q => by
          rw [q, f6] at h9
          cases h9
        rw [upd_ne nt]
        exact s9 _ _ h9
      · rw [List.getElem?_append_right g] at e
        have g2 : i = j := by
          have := (List.getElem?_eq_some_iff.mp e).1
          rw [List.length_singleton] at this
          omega
        subst g2
        rw [tsl, Nat.sub_self] at e
        rw [← Option.some.inj e, upd_ne ntd]
        exact m9
    rintro σ H6 ⟨x8, rfl, s6, l6, r6, b6, ts, tsl, f6, hts⟩
    obtain ⟨t0, t1, rfl⟩ : ∃ t0 t1, ts = [t0, t1] := by
      match ts, tsl with
      | [a, b], _ => exact ⟨a, b, rfl⟩
    have h0 := hts 0 t0 rfl
    have h1 := hts 1 t1 rfl
    rw [if_pos rfl] at h0
    rw [if_neg (by decide)] at h1
    refine ⟨_, rfl, _, rfl, sOf t, rfl, by rw [sOf_len]; exact fits_sz (by omega), _, rfl, _, _, rfl, rfl, _, _, rfl, rfl, _, _, rfl, _, rfl, ?_⟩
    have em : (if ((sOf t).length : Int) - (L : Int) + 1 > 0 then ((sOf t).length : Int) - (L : Int) + 1 else 0) = ((t.length - min (L - 1) t.length : Nat) : Int) := by rw [sOf_len]; split <;> omega
    rw [em]
    refine ⟨sOf t, rfl, by rw [sOf_len]; exact fits_sz (by omega), ?_⟩
    have hcut : cutS (sOf t) (some ((t.length - min (L - 1) t.length : Nat) : Int)) none = sOf (frontW L t) := str_ext (by rw [cs_cutFrom (by rw [sOf_len]; omega), cs_sOf, cs_sOf]; rfl)
    rw [hcut]
    refine ⟨_, rfl, fo, _, rfl, .inl ⟨SqL.of f6, fun u hu => ?_⟩⟩
    refine ⟨by show 2 ≤ sizeLine; decide, fun a ha => ?_⟩
    refine k L a _ wL l1 l5 ⟨u, t0, t1, upd_same, same_new ha _ _ upd_same, same_new ha _ _ (same_new hu _ _ h0), same_new ha _ _ (same_new hu _ _ h1)⟩ ((s6.trans (same_new hu)).trans (same_new ha))
theorem sc__law_beside_of : FnScope ["book", "state", "signs", "rows", "losses", "at", "whole"] ["book", "state"] (defScope s__law_beside_of) := ⟨rfl, rfl, rfl, by decide +kernel, rfl, by decide +kernel, by decide +kernel⟩
theorem ok__law_beside_of {f : Addr} {fd : FuncData} (F : Fun K "_law_beside_of" "_law_beside_of" s__law_beside_of f fd) (T : Txt K mg C) (c__law_wide_of : Has P w K mg base CX0 1 "_law_wide_of" ["book"] (spWide)) : FnG P w K mg base CX0 2 f fd ["book", "state"] (spBesOf) := by
  refine fn_g0 F sc__law_beside_of (fun vs H Q E h => ?_) (fun cdv A outer s H vs Q E hg hr h => ?_)
  · obtain ⟨d, s, kvs, t, z, p, r, L, rfl, _⟩ := h
    rfl
  · have hu := hu_of hr
    obtain ⟨d, s, kvs, t, z, p, r, L, rfl, hd, tar, ne, hz, ht, tl, wL, l5, l1, ⟨u, r0, r1, e1, e2, e3, e4⟩, k⟩ := h
    refine ⟨_, (pss_cons (ps_asg (pv 1) (g_tup K (n := 2) rfl (pgs_cons (pg_name (i := 2) sc__law_beside_of.nd rfl (Or.inl rfl)) (pgs_cons (pg_name (i := 3) sc__law_beside_of.nd rfl (Or.inl rfl)) pgs_nil))))
      (pss_cons (ps_set (i := 4) sc__law_beside_of.nd rfl (Or.inl rfl) (pe_lst pa_nil))
      (pss_cons (ps_for PassesOwn.never rfl (pi_range1 (by rfl) T.b_range (pa_cons (pe_has c__law_wide_of hg (hr.mono (by decide)) pass0 (pa_cons (pv 0) pa_nil)) pa_nil)) (pg_name (i := 5) sc__law_beside_of.nd rfl (Or.inl rfl)) (pss_cons (ps_set (i := 6) sc__law_beside_of.nd rfl (Or.inl rfl) (pe_and (pe_cmpR op_lt (pv 5) (pe_callB (g_len_seq K) (by rfl) T.b_len (by decide +kernel) (pa_cons (pe_ix (g_ix_tup K) (pv 3) pe_int (fun _ _ => rfl)) pa_nil)) (nomark _)) (pe_one (pe_cmpR op_notN (pe_ix (g_ix_tup K) (pe_ix (g_ix_tup K) (pv 3) pe_int (fun _ _ => rfl)) (pv 5) (fun _ _ => rfl)) pe_non (nomark _)))))
      (pss_one (ps_expr (g_bm K PySem.F.plainAttrs_list PySem.F.slot_list_append PySem.F.type_list_append mt_append (pv 4) (pa_cons (pe_ifExp (pt_val (pv 6)) (pe_op op_sub (pe_ix (g_ix_tup K) (pe_ix (g_ix_tup K) (pv 3) pe_int (fun _ _ => rfl)) (pv 5) (fun _ _ => rfl)) (pe_ix (g_ix_tup K) (pe_ix (g_ix_tup K) (pv 3) pe_int (fun _ _ => rfl)) (pv 5) (fun _ _ => rfl))) (pe_un un_neg pe_int)) pa_nil))))))
      (pss_one (ps_ret (pe_tup (pa_cons (pe_tup (pa_cons (pv 2) (pa_cons (pe_slice (g_sl_tup K) (pe_ix (g_ix_tup K) (pv 3) pe_int (fun _ _ => rfl)) (po_some pe_int) (po_some (pe_op op_add (pe_callB call_len_str (by rfl) T.b_len (by decide +kernel) (pa_cons (pv 2) pa_nil)) pe_int))) pa_nil))) (pa_cons (pe_callTy (g_tuple_of K) (by rfl) T.b_tuple (by decide +kernel) (pa_cons (pv 4) pa_nil)) pa_nil)))))))), ?_⟩
    refine ⟨_, rfl, s, _, rfl, SqT.of e1, rfl, _, _, rfl, _, _, rfl, rfl, ?_⟩
    refine ⟨by show 0 ≤ sizeLine; decide, fun lo hlo => ?_⟩
    refine ⟨_, rfl, d, kvs, rfl, same_new hlo _ _ hd, tar, ne, fun L' H1 wL' _ _ s1 => ⟨(L' : Int), rfl, by omega, by omega, ?_⟩⟩
    have eL := wL'.uniq wL
    subst eL
    rw [Int.toNat_natCast]
    have s01 := (same_new hlo (o := .lst [])).trans s1
    have f1 := s1 _ _ (upd_same (H := H) (a := lo) (o := .lst []))
    refine for_range (lo := 0) (n := L') (fun i σ H' => ∃ x5 x6, σ = [some (.ref d), some (.ref s), some (.str (sOf (frontW L' t))), some (.ref u), some (.ref lo), x5, x6] ∧ Same H H' ∧ H' lo = some (.lst ((List.range i).map fun j => V.int (lossE (tfD kvs) p r t j))))
      ⟨_, _, rfl, s01, f1⟩ ?_ ?_
    · rintro i σ H2 hi ⟨x5, x6, rfl, s2, f2⟩
      have i0 : (0 : Int) + (i : Int) = (i : Int) := by omega
      rw [i0]
      have g0 := s2 _ _ e3
      have g1 := s2 _ _ e4
      have gu := s2 _ _ e2
      have ln : t.length = (cs z).length + r.length := by rw [ht, List.length_append]
      have lo0 : lossE (tfD kvs) p r t i = if i ≤ r.length then p + lp (tfD kvs) (r.take (r.length - i)) - lp (tfD kvs) (t.take (t.length - i)) else -1 := rfl
      have nx : ∀ (x5' x6' : Option V), ∃ x5 x6, [some (V.ref d), some (V.ref s), some (V.str (sOf (frontW L' t))), some (V.ref u), some (V.ref lo), x5', x6'] = [some (V.ref d), some (V.ref s), some (V.str (sOf (frontW L' t))), some (V.ref u), some (V.ref lo), x5, x6] ∧ Same H (upd H2 lo (.lst (((List.range i).map fun j => V.int (lossE (tfD kvs) p r t j)) ++ [V.int (lossE (tfD kvs) p r t i)]))) ∧ (upd H2 lo (.lst (((List.range i).map fun j => V.int (lossE (tfD kvs) p r t j)) ++ [V.int (lossE (tfD kvs) p r t i)]))) lo = some (.lst ((List.range (i + 1)).map fun j => V.int (lossE (tfD kvs) p r t j))) := fun x5' x6' =>
        ⟨_, _, rfl, same_mut s2 hlo, by rw [upd_same, List.range_succ, List.map_append]; rfl⟩
      by_cases hi2 : i < t.length + 1
      · have a1 := row1_at (F := tfD kvs) (L := L') (r := r) (t := t) (p := p) (i := i) (by omega)
        have a0 := row0_at (F := tfD kvs) (L := L') (t := t) (i := i) (by omega)
        refine ⟨_, rfl, _, rfl, u, _, _, V.ref r1, rfl, rfl, SqT.of gu, at_of (j := 1) rfl rfl, r1, _, rfl, .inr (SqT.of g1), _, _, rfl, rfl, _, rfl, ?_⟩
        refine itT (decide_eq_true (by rw [row1_len]; omega)) ?_
        refine ⟨_, rfl, u, _, _, V.ref r1, rfl, rfl, SqT.of gu, at_of (j := 1) rfl rfl, _, rfl, r1, _, _, _, rfl, rfl, SqT.of g1, at_of (j := i) rfl a1, rfl, ?_⟩
        refine ⟨_, rfl, .inl ⟨rfl, _, SqL.of f2⟩, _, rfl, ?_⟩
        by_cases hr : i ≤ r.length
        · rw [if_pos hr] at a1 lo0 ⊢
          have key : (p + lp (tfD kvs) (r.take (r.length - i)) - lp (tfD kvs) t) - (lp (tfD kvs) (t.take (t.length - i)) - lp (tfD kvs) t) = lossE (tfD kvs) p r t i := by
            rw [lo0]
            omega
          refine ⟨_, rfl, itT (by rw [decide_eq_false (fun q => by cases q)]; rfl) ?_⟩
          refine ⟨_, rfl, u, _, _, V.ref r1, rfl, rfl, SqT.of gu, at_of (j := 1) rfl rfl, _, rfl, r1, _, _, _, rfl, rfl, SqT.of g1, at_of (j := i) rfl a1, _, rfl, u, _, _, V.ref r0, rfl, rfl, SqT.of gu, at_of (j := 0) rfl rfl, _, rfl, r0, _, _, _, rfl, rfl, SqT.of g0, at_of (j := i) rfl a0, _, _, rfl, rfl, lo, _, _, rfl, rfl, f2, by rw [List.length_map, List.length_range]; exact small1000' (by omega), ?_⟩
          have h := nx (some (.int (i : Int))) (some (.bl (!decide (V.int (p + lp (tfD kvs) (r.take (r.length - i)) - lp (tfD kvs) t) = V.non))))
          rw [← key] at h
          exact h
        · rw [if_neg hr] at a1 lo0 ⊢
          refine ⟨_, rfl, itF (by rw [decide_eq_true rfl]; rfl) ?_⟩
          refine ⟨_, rfl, lo, _, _, rfl, rfl, f2, by rw [List.length_map, List.length_range]; exact small1000' (by omega), ?_⟩
          have h := nx (some (.int (i : Int))) (some (.bl (!decide (V.non = V.non))))
          rw [lo0] at h
          exact h
      · refine ⟨_, rfl, _, rfl, u, _, _, V.ref r1, rfl, rfl, SqT.of gu, at_of (j := 1) rfl rfl, r1, _, rfl, .inr (SqT.of g1), _, _, rfl, rfl, _, rfl, ?_⟩
        refine itF (decide_eq_false (by rw [row1_len]; omega)) ?_
        refine ⟨_, rfl, .inl ⟨rfl, _, SqL.of f2⟩, _, rfl, ?_⟩
        refine ⟨_, rfl, itF rfl ?_⟩
        rw [if_neg (by omega)] at lo0
        refine ⟨_, rfl, lo, _, _, rfl, rfl, f2, by rw [List.length_map, List.length_range]; exact small1000' (by omega), ?_⟩
        have h := nx (some (.int (i : Int))) (some (.bl false))
        rw [lo0] at h
        exact h
    rintro σ H2 ⟨x5, x6, rfl, s2, f2⟩
    have g0 := s2 _ _ e3
    have gu := s2 _ _ e2
    have fl : (sOf (frontW L' t)).length = min (L' - 1) t.length := by rw [sOf_len, frontW_len]
    refine ⟨_, rfl, _, rfl, u, _, _, V.ref r0, rfl, rfl, SqT.of gu, at_of (j := 0) rfl rfl, _, rfl, _, rfl, _, rfl, by rw [fl]; exact fits_sz (by omega), _, _, rfl, rfl, _, rfl, r0, _, rfl, SqT.of g0, fun e => ?_, fun _ td htd => ?_⟩
    · have h := e.1
      rw [show HT.sIx (row0 (tfD kvs) L' t).length 0 (some (1 : Int)) = 1 by rw [sIx_pos (by omega), row0_len]; show min 1 _ = 1; omega] at h
      exact absurd h (by decide)
    have ei : ((sOf (frontW L' t)).length : Int) + 1 = ((min (L' - 1) t.length + 1 : Nat) : Int) := by rw [fl]; omega
    rw [ei, row0_front l1]
    refine ⟨by show 2 ≤ sizeLine; decide, fun fr hfr => ?_⟩
    have s3 := s2.trans ((same_new htd (o := .tup ((frontD (tfD kvs) L' t).map V.int))).trans (same_new hfr (o := .tup [V.str (sOf (frontW L' t)), .ref td])))
    have f3 := same_new hfr (o := .tup [V.str (sOf (frontW L' t)), .ref td]) _ _ (same_new htd (o := .tup ((frontD (tfD kvs) L' t).map V.int)) _ _ f2)
    have t3 := same_new hfr (o := .tup [V.str (sOf (frontW L' t)), .ref td]) _ _ (upd_same (H := H2) (a := td) (o := .tup ((frontD (tfD kvs) L' t).map V.int)))
    have r3 := (upd_same (H := upd H2 td (.tup ((frontD (tfD kvs) L' t).map V.int))) (a := fr) (o := .tup [V.str (sOf (frontW L' t)), .ref td]))
    generalize (upd (upd H2 td (.tup ((frontD (tfD kvs) L' t).map V.int))) fr (.tup [V.str (sOf (frontW L' t)), .ref td])) = H3 at s3 f3 t3 r3 ⊢
    have eL : ((List.range L').map fun j => V.int (lossE (tfD kvs) p r t j)) = (lossD (tfD kvs) L' z t).map V.int := by
      rw [lossD_eq hz ht, List.map_map]
      rfl
    rw [eL] at f3
    refine ⟨_, rfl, lo, _, rfl, .inl ⟨SqL.of f3, fun lt hlt => ?_⟩⟩
    refine ⟨by show 2 ≤ sizeLine; decide, fun a ha => ?_⟩
    refine k a _ ⟨fr, lt, upd_same, ⟨td, same_new ha _ _ (same_new hlt _ _ r3), same_new ha _ _ (same_new hlt _ _ t3)⟩, same_new ha _ _ upd_same⟩ ((s3.trans (same_new hlt)).trans (same_new ha))
theorem sc__law_due_of : FnScope ["book", "text", "piece"] ["book", "text", "piece"] (defScope s__law_due_of) := ⟨rfl, rfl, rfl, by decide +kernel, rfl, by decide +kernel, by decide +kernel⟩
theorem ok__law_due_of {f : Addr} {fd : FuncData} (F : Fun K "_law_due_of" "_law_due_of" s__law_due_of f fd) (T : Txt K mg C) (c__law_beside_of : Has P w K mg base CX0 2 "_law_beside_of" ["book", "state"] (spBesOf)) (c__law_state_of : Has P w K mg base CX0 3 "_law_state_of" ["book", "text", "pieces"] (spState)) : FnG P w K mg base CX0 4 f fd ["book", "text", "piece"] (spDue) := by
  refine fn_g0 F sc__law_due_of (fun vs H Q E h => ?_) (fun cdv A outer s H vs Q E hg hr h => ?_)
  · obtain ⟨d, kvs, t, z, p, r, rfl, _⟩ := h
    rfl
  · have hu := hu_of hr
    obtain ⟨d, kvs, t, z, p, r, rfl, hd, tar, ne, ov, tl, hz, ht, k⟩ := h
    refine ⟨_, (pss_one (ps_ret (pe_has c__law_beside_of hg (hr.mono (by decide)) pass0 (pa_cons (pv 0) (pa_cons (pe_has c__law_state_of hg (hr.mono (by decide)) pass0 (pa_cons (pv 0) (pa_cons (pv 1) (pa_cons (pe_lst (pa_cons (pv 2) pa_nil)) pa_nil)))) pa_nil))))), ?_⟩
    refine ⟨_, rfl, _, rfl, _, rfl, _, rfl, by show 1 ≤ sizeLine; decide, fun pa hpa => ?_⟩
    have s1 := same_new hpa (o := .lst [V.str z])
    refine ⟨d, pa, kvs, t, z, p, r, rfl, s1 _ _ hd, tar, ne, ov, tl, upd_same, hz, ht, fun L a H2 wL l1 l5 sa s2 => ?_⟩
    have s12 := s1.trans s2
    refine ⟨d, a, kvs, t, z, p, r, L, rfl, s12 _ _ hd, tar, ne, hz, ht, tl, wL, l5, l1, sa, fun b H3 hb s3 => ?_⟩
    exact k L b H3 wL l1 l5 hb (s12.trans s3)
theorem sc__law_next : FnScope ["book", "value", "sign", "signs", "differences", "longer", "row", "keep", "last", "change", "known", "some", "front", "piece", "one"] ["book", "value", "sign"] (defScope s__law_next) := ⟨rfl, rfl, rfl, by decide +kernel, rfl, by decide +kernel, by decide +kernel⟩
theorem ok__law_next {f : Addr} {fd : FuncData} (F : Fun K "_law_next" "_law_next" s__law_next f fd) (T : Txt K mg C) (c__law_wide_of : Has P w K mg base CX0 1 "_law_wide_of" ["book"] (spWide)) : FnG P w K mg base CX0 2 f fd ["book", "value", "sign"] (spLawNext) := by
  refine fn_g0 F sc__law_next (fun vs H Q E h => ?_) (fun cdv A outer s H vs Q E hg hr h => ?_)
  · obtain ⟨d, s, kvs, l, ds, ls, c, L, rfl, _⟩ := h
    rfl
  · have hu := hu_of hr
    obtain ⟨d, s, kvs, l, ds, ls, c, L, rfl, hd, tar, ne, B, oc, k⟩ := h
    refine ⟨_, (pss_cons (ps_asg (pe_ix (g_ix_tup K) (pv 1) pe_int (fun _ _ => rfl)) (g_tup K (n := 2) rfl (pgs_cons (pg_name (i := 3) sc__law_next.nd rfl (Or.inl rfl)) (pgs_cons (pg_name (i := 4) sc__law_next.nd rfl (Or.inl rfl)) pgs_nil))))
      (pss_cons (ps_asg (pe_tup (pa_cons (pe_op op_add_str (pv 3) (pv 2)) (pa_cons (pe_op op_cat (pe_lst (pa_cons pe_int pa_nil)) (pe_callTy (g_list_of K) (by rfl) T.b_list (by decide +kernel) (pa_cons (pv 4) pa_nil))) pa_nil))) (g_tup K (n := 2) rfl (pgs_cons (pg_name (i := 5) sc__law_next.nd rfl (Or.inr rfl)) (pgs_cons (pg_name (i := 6) sc__law_next.nd rfl (Or.inr rfl)) pgs_nil))))
      (pss_cons (ps_set (i := 7) sc__law_next.nd rfl (Or.inl rfl) (pe_callB (call_min2 rfl) (by rfl) T.b_min (by decide +kernel) (pa_cons (pe_op op_sub (pe_has c__law_wide_of hg (hr.mono (by decide)) pass0 (pa_cons (pv 0) pa_nil)) pe_int) (pa_cons (pe_callB call_len_str (by rfl) T.b_len (by decide +kernel) (pa_cons (pv 5) pa_nil)) pa_nil))))
      (pss_cons (ps_lock (by exact (ps_setLc (i := 8) (own := [("piece", 13)]) rfl sc__law_next.nd rfl rfl (sw_true rfl rfl rfl (by decide +kernel)) (pi_keys (pv 0)) (blkOk_by (own := [("piece", 13)]) (N := ["book", "value", "sign", "signs", "differences", "longer", "row", "keep", "last", "change", "known", "some", "front", "piece", "one"]) (sc := defScope s__law_next) (by decide +kernel)) (fun _ _ _ _ _ => (pg_name (i := 13) sc__law_next.nd rfl (Or.inl rfl))) (fun _ _ _ _ _ => (pts_one (pt_val (pe_m1 PySem.F.slot_str_endswith PySem.F.type_str_endswith mt_endswith (pv 5) (pv 13))))) (fun _ _ _ _ _ => (pv 13)))))
      (pss_cons (ps_set (i := 9) sc__law_next.nd rfl (Or.inr rfl) (pe_callB (g_min K rfl) (by rfl) T.b_min (by decide +kernel) (pa_cons (pe_lc (own := [("piece", 13)]) rfl sc__law_next.nd (g_list K (pv 8)) (blkOk_by (own := [("piece", 13)]) (N := ["book", "value", "sign", "signs", "differences", "longer", "row", "keep", "last", "change", "known", "some", "front", "piece", "one"]) (sc := defScope s__law_next) (by decide +kernel)) (fun _ _ _ _ _ => (pg_name (i := 13) sc__law_next.nd rfl (Or.inl rfl))) (fun _ _ _ _ _ => pts_nil) (fun _ _ _ _ _ => (pe_op op_add (pe_dget hu (pv 0) (pv 13) (fun _ _ => rfl)) (pe_ix (g_ix_list K) (pv 6) (pe_op op_sub (pe_callB call_len_str (by rfl) T.b_len (by decide +kernel) (pa_cons (pv 13) pa_nil)) pe_int) (fun _ _ => rfl))))) pa_nil)))
      (pss_cons (ps_setLc (i := 10) (own := [("piece", 13)]) rfl sc__law_next.nd rfl rfl (sw_true rfl rfl rfl (by decide +kernel)) (g_list K (pv 8)) (blkOk_by (own := [("piece", 13)]) (N := ["book", "value", "sign", "signs", "differences", "longer", "row", "keep", "last", "change", "known", "some", "front", "piece", "one"]) (sc := defScope s__law_next) (by decide +kernel)) (fun _ _ _ _ _ => (pg_name (i := 13) sc__law_next.nd rfl (Or.inl rfl))) (fun _ _ _ _ _ => (pts_one (pt_cmpR op_ge (pe_ix (g_ix_tup K) (pe_ix (g_ix_tup K) (pv 1) pe_int (fun _ _ => rfl)) (pe_op op_sub (pe_callB call_len_str (by rfl) T.b_len (by decide +kernel) (pa_cons (pv 13) pa_nil)) pe_int) (fun _ _ => rfl)) pe_int (nomark _)))) (fun _ _ _ _ _ => (pv 13)))
      (pss_cons (ps_setLc (i := 11) (own := [("piece", 13)]) rfl sc__law_next.nd rfl rfl (sw_true rfl rfl rfl (by decide +kernel)) (g_list K (pv 10)) (blkOk_by (own := [("piece", 13)]) (N := ["book", "value", "sign", "signs", "differences", "longer", "row", "keep", "last", "change", "known", "some", "front", "piece", "one"]) (sc := defScope s__law_next) (by decide +kernel)) (fun _ _ _ _ _ => (pg_name (i := 13) sc__law_next.nd rfl (Or.inl rfl))) (fun _ _ _ _ _ => pts_nil) (fun _ _ _ _ _ => (pe_op op_add (pe_op op_add (pe_dget hu (pv 0) (pv 13) (fun _ _ => rfl)) (pe_ix (g_ix_list K) (pv 6) (pe_op op_sub (pe_callB call_len_str (by rfl) T.b_len (by decide +kernel) (pa_cons (pv 13) pa_nil)) pe_int) (fun _ _ => rfl))) (pe_ix (g_ix_tup K) (pe_ix (g_ix_tup K) (pv 1) pe_int (fun _ _ => rfl)) (pe_op op_sub (pe_callB call_len_str (by rfl) T.b_len (by decide +kernel) (pa_cons (pv 13) pa_nil)) pe_int) (fun _ _ => rfl)))))
      (pss_cons (ps_set (i := 12) sc__law_next.nd rfl (Or.inl rfl) (pe_tup (pa_cons (pe_slice sl_str (pv 5) (po_some (pe_op op_sub (pe_callB call_len_str (by rfl) T.b_len (by decide +kernel) (pa_cons (pv 5) pa_nil)) (pv 7))) po_none) (pa_cons (pe_callTy (g_tuple_of K) (by rfl) T.b_tuple (by decide +kernel) (pa_cons (pe_lc (own := [("one", 14)]) rfl sc__law_next.nd (g_list K (pe_slice (g_sl_list K) (pv 6) po_none (po_some (pv 7)))) (blkOk_by (own := [("one", 14)]) (N := ["book", "value", "sign", "signs", "differences", "longer", "row", "keep", "last", "change", "known", "some", "front", "piece", "one"]) (sc := defScope s__law_next) (by decide +kernel)) (fun _ _ _ _ _ => (pg_name (i := 14) sc__law_next.nd rfl (Or.inl rfl))) (fun _ _ _ _ _ => pts_nil) (fun _ _ _ _ _ => (pe_op op_sub (pv 14) (pv 9)))) pa_nil)) pa_nil))))
      (pss_one (ps_ret (pe_tup (pa_cons (pv 12) (pa_cons (pe_callTy (g_tuple_of K) (by rfl) T.b_tuple (by decide +kernel) (pa_cons (pe_op op_cat (pe_lst (pa_cons (pe_op op_sub (pe_callB (g_min K rfl) (by rfl) T.b_min (by decide +kernel) (pa_cons (pv 11) pa_nil)) (pv 9)) pa_nil)) (pe_callTy (g_list_of K) (by rfl) T.b_list (by decide +kernel) (pa_cons (pe_slice (g_sl_tup K) (pe_ix (g_ix_tup K) (pv 1) pe_int (fun _ _ => rfl)) po_none (po_some (pe_un un_neg pe_int))) pa_nil))) pa_nil)) pa_nil))))))))))))), ?_⟩
    obtain ⟨f, u, e1, ⟨td, fr1, fr2⟩, e3⟩ := B.at_
    have wL := B.wd
    have hlL := B.ln
    have hds := B.dl
    have ln5 : L ≤ 5 ∧ 1 ≤ L := by
      obtain ⟨⟨z, p, h1, h2⟩, _⟩ := wL
      have := tar.good.len z p h1
      omega
    refine ⟨_, rfl, s, _, _, V.ref f, rfl, rfl, SqT.of e1, at_of (j := 0) rfl rfl, f, _, rfl, SqT.of fr1, rfl, _, _, rfl, _, _, rfl, rfl, ?_⟩
    have lgl : (sOf l ++ ch c) = sOf (l ++ [c]) := str_ext (by rw [cs_app, cs_sOf, cs_sOf])
    refine ⟨_, rfl, _, rfl, sOf l, ch c, rfl, rfl, by rw [sOf_len]; exact fits_sz (by show l.length + 1 ≤ 100000; omega), ?_⟩
    rw [lgl]
    refine ⟨by show 1 ≤ sizeLine; decide, fun z0 hz0 => ?_⟩
    refine ⟨_, rfl, td, _, rfl, .inr (SqT.of (same_new hz0 _ _ fr2)), fun z1 hz1 => ?_⟩
    have n01 : z0 ≠ z1 := ne_of_none upd_same hz1
    refine ⟨z0, z1, _, _, rfl, rfl, same_new hz1 _ _ upd_same, upd_same, ?_, fun ra hra => ?_⟩
    · rw [List.length_map]
      exact fits_sz (by show 1 + ds.length ≤ 100000; omega)
    refine ⟨by show 2 ≤ sizeLine; decide, fun t1 ht1 => ?_⟩
    refine ⟨t1, _, rfl, SqT.of upd_same, rfl, _, _, rfl, _, _, rfl, rfl, ?_⟩
    have s1 : Same H (upd (upd (upd (upd H z0 (.lst [V.int 0])) z1 (.lst (ds.map V.int))) ra (.lst ([V.int 0] ++ ds.map V.int))) t1 (.tup [.str (sOf (l ++ [c])), .ref ra])) := (((same_new hz0).trans (same_new hz1)).trans (same_new hra)).trans (same_new ht1)
    have a1 : (upd (upd (upd (upd H z0 (.lst [V.int 0])) z1 (.lst (ds.map V.int))) ra (.lst ([V.int 0] ++ ds.map V.int))) t1 (.tup [.str (sOf (l ++ [c])), .ref ra])) ra = some (.lst (((0 : Int) :: ds).map V.int)) := same_new ht1 _ _ upd_same
    generalize (upd (upd (upd (upd H z0 (.lst [V.int 0])) z1 (.lst (ds.map V.int))) ra (.lst ([V.int 0] ++ ds.map V.int))) t1 (.tup [.str (sOf (l ++ [c])), .ref ra])) = H1 at s1 a1 ⊢
    have clg : cs (sOf (l ++ [c])) = l ++ [c] := cs_sOf _
    have llg : (sOf (l ++ [c])).length = l.length + 1 := by rw [sOf_len, List.length_append]; rfl
    generalize sOf (l ++ [c]) = lg at clg llg ⊢
    -- how much is kept
    refine ⟨_, rfl, d, kvs, rfl, s1 _ _ hd, tar, ne, fun L' H2 wL' _ _ s2 => ⟨_, _, rfl, rfl, _, rfl, lg, rfl, fits_sz (by omega), _, _, rfl, ?_⟩⟩
    have eL := wL'.uniq wL
    subst eL
    have em : (if (lg.length : Int) < (L' : Int) - 1 then (lg.length : Int) else (L' : Int) - 1) = ((min (L' - 1) (l.length + 1) : Nat) : Int) := by split <;> omega
    rw [em]
    have s02 := s1.trans s2
    have a2 := s2 _ _ a1
    have d2 := s02 _ _ hd
    have nrd : ra ≠ d := fun e => by
      rw [e, d2] at a2
      cases a2
    -- the pieces at the end
    refine ⟨d, _, d2, trivial, fun od => ?_⟩
    refine ⟨_, rfl, d, od, rfl, .inl ⟨kvs, upd_same, fun D hD => ?_⟩⟩
    have nD := lock_ne hD
    refine lcs kvs walk_keys (fun kv => (endV lg kv).map V.str) hD (by have := tar.len; omega) (fun H' s => s _ _ upd_same) ?_ ?_
    · rintro j kv x H3 H4 hj s3 ⟨rfl, k', v', ek, rfl⟩ N M hN hM
      have ekv : kv = (k', v') := Option.some.inj (hj.symm.trans ek)
      subst ekv
      obtain ⟨y, p, ey, hp⟩ := tar.mem _ (List.mem_of_getElem? hj)
      cases ey
      refine ⟨wipe_set, _, rfl, ⟨_, rfl⟩, _, rfl, _, _, rfl, rfl, _, rfl, ?_⟩
      have es : (endV lg (Sum.inr y, V.int p)) = if Txt.endswith lg y = true then some y else none := rfl
      refine itB (fun q => ?_) (fun q => ?_)
      · refine ⟨_, rfl, hN _ _ ?_ (Same.refl _)⟩
        rw [es, if_pos q]
        rfl
      · refine hM _ ?_ (Same.refl _)
        rw [es, if_neg (by rw [q]; exact Bool.false_ne_true)]
        rfl
    rintro H3 s3 e3'
    have ef : (kvs.filterMap fun kv => (endV lg kv).map V.str) = (kvs.filterMap (endV lg)).map V.str := by rw [List.map_filterMap]
    rw [ef] at e3'
    have S3 : Same H2 (upd H3 d (.dK kvs)) := unlock d2 s3
    have eD : (upd H3 d (.dK kvs)) D = some (.lst ((kvs.filterMap (endV lg)).map V.str)) := by
      rw [upd_ne nD]
      exact e3'
    have el : (kvs.filterMap (endV lg)).length ≤ 1000 := Nat.le_trans (List.length_filterMap_le _ _) (by have := tar.len; omega)
    have emem := endV_mem tar (lg := lg)
    refine ⟨s3 _ _ upd_same, ?_⟩
    generalize (upd H3 d (.dK kvs)) = H4 at S3 eD ⊢
    generalize (kvs.filterMap (endV lg)) = es at eD el emem
    have s04 := s02.trans S3
    have a4 := S3 _ _ a2
    have hes : ∀ y ∈ es, (∃ p, tfD kvs y = some p) ∧ (cs y).length ≤ l.length + 1 ∧ 1 ≤ (cs y).length ∧ (cs y).length ≤ 5 := fun y hy => by
      obtain ⟨⟨p, hp⟩, g⟩ := (emem y).mp hy
      obtain ⟨b, hb⟩ := ends_iff.mp g
      have h3 := congrArg List.length hb
      rw [clg, List.length_append, List.length_append, List.length_singleton] at h3
      have := tar.good.len y p hp
      exact ⟨⟨p, hp⟩, by omega, by omega, by omega⟩
    have hls : ls.length = L' := B.fm.len
    have hle5 : ∀ y ∈ es, (cs y).length ≤ L' := fun y hy => by
      obtain ⟨⟨p, hp⟩, _⟩ := hes y hy
      exact wL.2 y p hp
    -- the change
    refine ⟨_, rfl, D, rfl, ⟨_, SqL.of eD⟩, fun D2 hD2 => ?_⟩
    refine lcs es (walk_listF (K := K) V.str es) (fun y => some (V.int ((tfD kvs y).getD 0 + aheadAt ds y))) hD2 (by omega) (fun H' s => SqL.of (s _ _ eD)) ?_ ?_
    · rintro i y x H5 H6 hi s5 ⟨rfl, y', ey, rfl⟩ N M' hN hM
      have e1 : y = y' := Option.some.inj (hi.symm.trans ey)
      subst e1
      obtain ⟨⟨p, hp⟩, y2, y3, y5⟩ := hes y (List.mem_of_getElem? hi)
      have yl := cs_len y
      refine ⟨wipe_set, _, rfl, _, rfl, d, _, rfl, .inl ⟨kvs, Sum.inr y, .inl ((s04.trans s5) _ _ hd), rfl, (tf_some.mp hp).symm⟩, _, rfl, _, rfl, y, rfl, fits_sz (by omega), _, _, rfl, rfl, ra, _, _, .int (aheadAt ds y), rfl, rfl, SqL.of (s5 _ _ a4), at_of (j := (cs y).length - 1) (by omega) (by rw [List.getElem?_map, ahead_some (by omega)]; rfl), _, _, rfl, rfl, hN _ _ ?_ (Same.refl _)⟩
      rw [hp]
      rfl
    rintro H5 s5 e5
    have em1 : (es.filterMap fun y => some (V.int ((tfD kvs y).getD 0 + aheadAt ds y))) = (es.map fun y => (tfD kvs y).getD 0 + aheadAt ds y).map V.int := by
      rw [fm_some, List.map_map]
      rfl
    rw [em1] at e5
    obtain ⟨cpos, cmin⟩ := stp_min (ds := ds) tar.good emem clg hds oc
    refine ⟨D2, _, rfl, SqL.of e5, cpos, fun n hn hle => ?_⟩
    have stp := cmin n hn hle
    have s05 := s04.trans s5
    have eD5 := s5 _ _ eD
    -- those with a loss that is known
    refine ⟨_, rfl, D, rfl, ⟨_, SqL.of eD5⟩, fun D3 hD3 => ?_⟩
    refine lcs es (walk_listF (K := K) V.str es) (fun y => if (decide (0 ≤ lossOf ls y)) = true then some (V.str y) else none) hD3 (by omega) (fun H' s => SqL.of (s _ _ eD5)) ?_ ?_
    · rintro i y x H6 H7 hi s6 ⟨rfl, y', ey, rfl⟩ N M' hN hM
      have e0 : y = y' := Option.some.inj (hi.symm.trans ey)
      subst e0
      obtain ⟨⟨p, hp⟩, y2, y3, y5⟩ := hes y (List.mem_of_getElem? hi)
      have y6 := hle5 y (List.mem_of_getElem? hi)
      have yl := cs_len y
      refine ⟨wipe_set, _, rfl, s, _, _, V.ref u, rfl, rfl, SqT.of ((s05.trans s6) _ _ e1), at_of (j := 1) rfl rfl, _, rfl, y, rfl, fits_sz (by omega), _, _, rfl, rfl, u, _, _, .int (lossOf ls y), rfl, rfl, SqT.of ((s05.trans s6) _ _ e3), at_of (j := (cs y).length - 1) (by omega) (by rw [List.getElem?_map, loss_some (by omega) (by omega)]; rfl), _, _, rfl, rfl, _, rfl, ?_⟩
      refine itB (fun q => ?_) (fun q => ?_)
      · exact ⟨_, rfl, hN _ _ (if_pos q) (Same.refl _)⟩
      · exact hM _ (if_neg (by rw [q]; exact Bool.false_ne_true)) (Same.refl _)
    rintro H6 s6 e6
    rw [filter_fm] at e6
    have kmem := known_mem (ls := ls) emem
    have kel : (es.filter fun y => decide (0 ≤ lossOf ls y)).length ≤ 1000 := Nat.le_trans (List.length_filter_le _ _) el
    have hks : ∀ y ∈ es.filter (fun y => decide (0 ≤ lossOf ls y)), y ∈ es := fun y hy => (List.mem_filter.mp hy).1
    generalize (es.filter fun y => decide (0 ≤ lossOf ls y)) = ks at e6 kmem kel hks
    have s06 := s05.trans s6
    have a6 := s6 _ _ (s5 _ _ a4)
    -- the least of them
    refine ⟨_, rfl, D3, rfl, ⟨_, SqL.of e6⟩, fun D4 hD4 => ?_⟩
    refine lcs ks (walk_listF (K := K) V.str ks) (fun y => some (V.int ((tfD kvs y).getD 0 + aheadAt ds y + lossOf ls y))) hD4 (by omega) (fun H' s => SqL.of (s _ _ e6)) ?_ ?_
    · rintro i y x H7 H8 hi s7 ⟨rfl, y', ey, rfl⟩ N M' hN hM
      have e0 : y = y' := Option.some.inj (hi.symm.trans ey)
      subst e0
      have ym := hks y (List.mem_of_getElem? hi)
      obtain ⟨⟨p, hp⟩, y2, y3, y5⟩ := hes y ym
      have y6 := hle5 y ym
      have yl := cs_len y
      have s67 := s06.trans s7
      refine ⟨wipe_set, _, rfl, _, rfl, d, _, rfl, .inl ⟨kvs, Sum.inr y, .inl (s67 _ _ hd), rfl, (tf_some.mp hp).symm⟩, _, rfl, _, rfl, y, rfl, fits_sz (by omega), _, _, rfl, rfl, ra, _, _, .int (aheadAt ds y), rfl, rfl, SqL.of (s7 _ _ a6), at_of (j := (cs y).length - 1) (by omega) (by rw [List.getElem?_map, ahead_some (by omega)]; rfl), _, _, rfl, rfl, _, rfl, s, _, _, V.ref u, rfl, rfl, SqT.of (s67 _ _ e1), at_of (j := 1) rfl rfl, _, rfl, y, rfl, fits_sz (by omega), _, _, rfl, rfl, u, _, _, .int (lossOf ls y), rfl, rfl, SqT.of (s67 _ _ e3), at_of (j := (cs y).length - 1) (by omega) (by rw [List.getElem?_map, loss_some (by omega) (by omega)]; rfl), _, _, rfl, rfl, hN _ _ ?_ (Same.refl _)⟩
      rw [hp]
      rfl
    rintro H7 s7 e7
    have em2 : (ks.filterMap fun y => some (V.int ((tfD kvs y).getD 0 + aheadAt ds y + lossOf ls y))) = (ks.map fun y => (tfD kvs y).getD 0 + aheadAt ds y + lossOf ls y).map V.int := by
      rw [fm_some, List.map_map]
      rfl
    rw [em2] at e7
    obtain ⟨bpos, bmin⟩ := bes_min (ds := ds) tar.good wL kmem clg hds hls B.fm.zero oc
    have s07 := s06.trans s7
    have a7 := s7 _ _ a6
    have ecut : (lg.length : Int) - ((min (L' - 1) (l.length + 1) : Nat) : Int) = ((l.length + 1 - (L' - 1) : Nat) : Int) := by omega
    have hcut : cutS lg (some ((lg.length : Int) - ((min (L' - 1) (l.length + 1) : Nat) : Int))) none = sOf (stepW L' l c) := str_ext (by rw [ecut, cs_cutFrom (by omega), cs_sOf, clg]; rfl)
    refine ⟨_, rfl, _, rfl, lg, rfl, fits_sz (by omega), _, rfl, _, _, rfl, rfl, _, rfl, lg, rfl, fits_sz (by omega), ?_⟩
    rw [hcut]
    refine ⟨_, rfl, _, rfl, _, rfl, ra, _, rfl, SqL.of a7, fun q1 hq1 => ?_⟩
    rw [cutV_to (by rw [List.length_map, List.length_cons]; omega), ← List.map_take]
    have s08 := s07.trans (same_new hq1 (o := .lst ((((0 : Int) :: ds).take (min (L' - 1) (l.length + 1))).map V.int)))
    have e8 := same_new hq1 (o := .lst ((((0 : Int) :: ds).take (min (L' - 1) (l.length + 1))).map V.int)) _ _ e7
    have q8 : (upd H7 q1 (.lst ((((0 : Int) :: ds).take (min (L' - 1) (l.length + 1))).map V.int))) q1 = some (.lst ((((0 : Int) :: ds).take (min (L' - 1) (l.length + 1))).map V.int)) := upd_same
    generalize (upd H7 q1 (.lst ((((0 : Int) :: ds).take (min (L' - 1) (l.length + 1))).map V.int))) = H8 at s08 e8 q8 ⊢
    refine ⟨q1, rfl, ⟨_, SqL.of q8⟩, fun D5 hD5 => ?_⟩
    refine lcs (((0 : Int) :: ds).take (min (L' - 1) (l.length + 1))) (walk_listF (K := K) V.int _) (fun x => some (V.int (x - n))) hD5 (by rw [List.length_take]; omega) (fun H' s => SqL.of (s _ _ q8)) ?_ ?_
    · rintro i y x H9 H10 hi s9 ⟨rfl, y', ey, rfl⟩ N M' hN hM
      have e0 : y = y' := Option.some.inj (hi.symm.trans ey)
      subst e0
      exact ⟨wipe_set, _, rfl, _, rfl, _, _, rfl, rfl, hN _ _ rfl (Same.refl _)⟩
    rintro H9 s9 e9
    have emv : ((((0 : Int) :: ds).take (min (L' - 1) (l.length + 1))).filterMap fun x => some (V.int (x - n))) = (stepD L' l ds c n).map V.int := by
      rw [fm_some]
      unfold stepD
      rw [stepW_len, ← List.map_take, List.map_map]
      rfl
    rw [emv] at e9
    refine ⟨D5, _, rfl, .inl ⟨SqL.of e9, fun td' htd => ?_⟩⟩
    refine ⟨by show 2 ≤ sizeLine; decide, fun fr hfr => ?_⟩
    have s10 : Same H8 (upd (upd H9 td' (.tup ((stepD L' l ds c n).map V.int))) fr (.tup [.str (sOf (stepW L' l c)), .ref td'])) := (s9.trans (same_new htd)).trans (same_new hfr)
    have t10 : (upd (upd H9 td' (.tup ((stepD L' l ds c n).map V.int))) fr (.tup [.str (sOf (stepW L' l c)), .ref td'])) td' = some (.tup ((stepD L' l ds c n).map V.int)) := same_new hfr _ _ upd_same
    have f10 : (upd (upd H9 td' (.tup ((stepD L' l ds c n).map V.int))) fr (.tup [.str (sOf (stepW L' l c)), .ref td'])) fr = some (.tup [.str (sOf (stepW L' l c)), .ref td']) := upd_same
    generalize (upd (upd H9 td' (.tup ((stepD L' l ds c n).map V.int))) fr (.tup [.str (sOf (stepW L' l c)), .ref td'])) = H10 at s10 t10 f10 ⊢
    have s0a := s08.trans s10
    refine ⟨_, rfl, _, rfl, D4, _, rfl, SqL.of (s10 _ _ e8), bpos, fun m hm hle2 => ?_⟩
    have bst := bmin m hm hle2
    refine ⟨_, rfl, _, _, rfl, rfl, by show 1 ≤ sizeLine; decide, fun w0 hw0 => ?_⟩
    have s11 := same_new hw0 (o := .lst [V.int (m - n)])
    have u11 := s11 _ _ (s0a _ _ e3)
    have s0b := s0a.trans s11
    have lpos : 1 ≤ (ls.map V.int).length := by rw [List.length_map]; omega
    refine ⟨_, rfl, s, _, _, V.ref u, rfl, rfl, SqT.of (s0b _ _ e1), at_of (j := 1) rfl rfl, _, rfl, _, rfl, u, _, rfl, SqT.of u11, fun e => ?_, fun _ w1 hw1 => ?_⟩
    · have h := e.2
      rw [sIx_m1] at h
      omega
    rw [cutV_m1]
    have n01' : w0 ≠ w1 := ne_of_none upd_same hw1
    refine ⟨w1, _, rfl, .inr (SqT.of upd_same), fun w2 hw2 => ?_⟩
    have h0 := same_new hw2 (o := .lst (ls.map V.int).dropLast) _ _ (same_new hw1 (o := .tup (ls.map V.int).dropLast) _ _ (upd_same (H := H10) (a := w0) (o := .lst [V.int (m - n)])))
    refine ⟨w0, w2, _, _, rfl, rfl, h0, upd_same, by rw [List.length_dropLast, List.length_map]; exact fits_sz (by show 1 + (ls.length - 1) ≤ 100000; omega), fun w3 hw3 => ?_⟩
    refine ⟨w3, _, rfl, .inl ⟨SqL.of upd_same, fun w4 hw4 => ?_⟩⟩
    refine ⟨by show 2 ≤ sizeLine; decide, fun a ha => ?_⟩
    have eB : [V.int (m - n)] ++ (ls.map V.int).dropLast = (besL ls m n).map V.int := by
      unfold besL
      rw [List.map_cons, List.map_dropLast]
      rfl
    have sB := (((same_new hw1 (o := .tup (ls.map V.int).dropLast)).trans (same_new hw2 (o := .lst (ls.map V.int).dropLast))).trans (same_new hw3 (o := .lst ([V.int (m - n)] ++ (ls.map V.int).dropLast)))).trans (same_new hw4 (o := .tup ([V.int (m - n)] ++ (ls.map V.int).dropLast)))
    refine k a n m _ stp bst ⟨fr, w4, upd_same, ⟨td', same_new ha _ _ (sB _ _ (s11 _ _ f10)), same_new ha _ _ (sB _ _ (s11 _ _ t10))⟩, ?_⟩ ((s0b.trans sB).trans (same_new ha))
    refine same_new ha _ _ ?_
    rw [upd_same, eB]
theorem sc_beside_in : FnScope ["book", "text", "piece", "whole", "rest", "losses", "back"] ["book", "text", "piece"] (defScope s_beside_in) := ⟨rfl, rfl, rfl, by decide +kernel, rfl, by decide +kernel, by decide +kernel⟩
theorem ok_beside_in {f : Addr} {fd : FuncData} (F : Fun K "beside_in" "beside_in" s_beside_in f fd) (T : Txt K mg C) (c_prices_along : HasO P w K mg base CX0 2 "prices_along" ["book", "text"] (spAlong C)) (c_front_in : HasO P w K mg base CX0 3 "front_in" ["book", "text"] (spFrontIn C)) : FnOk P w K mg base CX0 4 f fd ["book", "text", "piece"] (spBes C) := by
  refine F.ok sc_beside_in (fun vs H Q E h => ?_) (fun cdv A outer s H vs Q E hr h => ?_)
  · obtain ⟨b, kvs, t, z, p, r, rfl, _⟩ := h
    rfl
  · have hu := hu_of hr
    obtain ⟨b, kvs, t, z, p, r, rfl, B, ov, tl, tlt, hz, ht, k⟩ := h
    refine ⟨_, (pss_cons (ps_par (i := 3) (j := 4) (by rfl) sc_beside_in.nd rfl rfl (by decide) rfl rfl (pa_cons (pe_hasO c_prices_along (hr.mono (by decide)) pass0 (pa_cons (pv 0) (pa_cons (pv 1) pa_nil))) (pa_cons (pe_hasO c_prices_along (hr.mono (by decide)) pass0 (pa_cons (pv 0) (pa_cons (pe_slice sl_str (pv 1) (po_some (pe_callB call_len_str (by rfl) T.b_len (by decide +kernel) (pa_cons (pv 2) pa_nil))) po_none) pa_nil))) pa_nil)) (by rfl))
      (pss_cons (ps_set (i := 5) sc_beside_in.nd rfl (Or.inl rfl) (pe_op op_rep (pe_lst (pa_cons (pe_un un_neg pe_int) pa_nil)) (g_fld K (pv 0))))
      (pss_cons (ps_for PassesOwn.never rfl (pi_range1 (by rfl) T.b_range (pa_cons (pe_callB (call_min2 rfl) (by rfl) T.b_min (by decide +kernel) (pa_cons (g_fld K (pv 0)) (pa_cons (pe_callB (g_len_seq K) (by rfl) T.b_len (by decide +kernel) (pa_cons (pv 4) pa_nil)) pa_nil))) pa_nil)) (pg_name (i := 6) sc_beside_in.nd rfl (Or.inl rfl)) (pss_one (ps_asg (pe_op op_sub (pe_op op_add (pe_dget hu (g_fld K (pv 0)) (pv 2) (fun _ _ => rfl)) (pe_ix (g_ix_list K) (pv 4) (pe_op op_sub (pe_un un_neg pe_int) (pv 6)) (fun _ _ => rfl))) (pe_ix (g_ix_list K) (pv 3) (pe_op op_sub (pe_un un_neg pe_int) (pv 6)) (fun _ _ => rfl))) (pg_sub (pv 5) (pv 6) set_list))))
      (pss_one (ps_ret (pe_tup (pa_cons (pe_hasO c_front_in (hr.mono (by decide)) pass0 (pa_cons (pv 0) (pa_cons (pv 1) pa_nil))) (pa_cons (pe_callTy (g_tuple_of K) (by rfl) T.b_tuple (by decide +kernel) (pa_cons (pv 5) pa_nil)) pa_nil)))))))), ?_⟩
    obtain ⟨av, nd, ys, Lo, M, dx, d, tp, ta, od, pm, so, A⟩ := id B
    obtain ⟨_, al, _, _⟩ := ap_parts av
    have tar := tar_of av nd
    obtain ⟨Ln, rfl⟩ : ∃ Ln : Nat, Lo = (Ln : Int) := by
      obtain ⟨q, _, e⟩ := List.mem_map.mp A.lo.1
      exact ⟨q.1.length, e.symm⟩
    obtain ⟨wide, l1, l5⟩ := wide_of av pm A.lo
    
    have lz := cs_len z
    have ln : t.length = (cs z).length + r.length := by rw [ht, List.length_append]
    have ov' := ov
    rw [ht] at ov'
    have or : Over (tfD kvs) r := fun c hc => ov' c (List.mem_append_right _ hc)
    have zl := tar.good.len z p hz
    have hcut : cutS (sOf t) (some (z.length : Int)) none = sOf r := str_ext (by rw [cs_cutFrom (by rw [sOf_len]; omega), cs_sOf, cs_sOf, ht, ← lz, List.drop_left])
    have hv : valV (kvOf (psOf kvs ys)) (Sum.inr z) = some (.int p) := by
      have zy : z ∈ ys := pm.mem_iff.mpr ((tf_key al).mpr ⟨p, hz⟩)
      rw [kvOf_ps, val_fun, if_pos zy]
      have h1 := (price_of_key al ((tf_key al).mpr ⟨p, hz⟩)).1
      rw [tf_some.mp hz] at h1
      rw [V.int.inj (Option.some.inj h1)]
    refine ⟨_, rfl, _, rfl, b, kvs, sOf t, rfl, B, by rw [cs_sOf]; exact ov, by rw [sOf_len]; omega, fun ro H1 hro r1 s1 => ?_⟩
    rw [cs_sOf, sOf_len] at r1
    refine ⟨_, rfl, _, rfl, _, rfl, z, rfl, fits_sz (by omega), _, rfl, sOf t, rfl, by rw [sOf_len]; exact fits_sz (by omega), ?_⟩
    rw [hcut]
    refine ⟨b, kvs, sOf r, rfl, B.same s1, by rw [cs_sOf]; exact or, by rw [sOf_len]; omega, fun rr H2 hrr r2 s2 => ?_⟩
    rw [cs_sOf, sOf_len] at r2
    have s02 := s1.trans s2
    have r12 := s2 _ _ r1
    refine ⟨_, _, rfl, ?_⟩
    refine ⟨_, rfl, by show 1 ≤ sizeLine; decide, fun n1 hn1 => ?_⟩
    have s3 := s02.trans (same_new hn1 (o := .lst [V.int (-1)]))
    have e5 : (List.replicate ((Ln : Int).toNat) [V.int (-1)]).flatten = List.replicate Ln (V.int (-1)) := by
      rw [Int.toNat_natCast, List.flatten_replicate_singleton]
    refine ⟨_, rfl, b, C, dx, _, _, rfl, s3 _ _ A.ob, T.cl, T.n_own_longest, bf_longest, n1, _, [V.int (-1)], rfl, rfl, upd_same, by omega, by omega, by rw [Int.toNat_natCast]; exact fits_sz (by show 1 * Ln ≤ 100000; omega), fun n2 hn2 => ?_⟩
    rw [e5]
    have s4 : Same H2 (upd (upd H2 n1 (.lst [V.int (-1)])) n2 (.lst (List.replicate Ln (V.int (-1))))) := (same_new hn1).trans (same_new hn2)
    have m4 : (upd (upd H2 n1 (.lst [V.int (-1)])) n2 (.lst (List.replicate Ln (V.int (-1))))) n2 = some (.lst (lossI (tfD kvs) Ln p r t 0)) := by rw [lossI_zero]; exact upd_same
    have hn20 : H n2 = none := s3.free hn2
    have nro : ro ≠ n2 := ne_of_none (same_new hn1 (o := .lst [V.int (-1)]) _ _ r12) hn2
    have nrr : rr ≠ n2 := ne_of_none (same_new hn1 (o := .lst [V.int (-1)]) _ _ r2) hn2
    generalize (upd (upd H2 n1 (.lst [V.int (-1)])) n2 (.lst (List.replicate Ln (V.int (-1))))) = H4 at s4 m4 ⊢
    have s04 := s02.trans s4
    have r14 := s4 _ _ r12
    have r24 := s4 _ _ r2
    refine ⟨_, rfl, b, C, dx, _, _, rfl, s04 _ _ A.ob, T.cl, T.n_own_longest, bf_longest, _, rfl, rr, _, rfl, .inl (SqL.of r24), _, _, rfl, ?_⟩
    have em : (if ((rowV (tfD kvs) r (r.length + 1)).length : Int) < (Ln : Int) then ((rowV (tfD kvs) r (r.length + 1)).length : Int) else (Ln : Int)) = ((min Ln (r.length + 1) : Nat) : Int) := by rw [rowV_len]; split <;> omega
    rw [em]
    refine ⟨_, rfl, by omega, by omega, ?_⟩
    rw [Int.toNat_natCast]
    refine for_range (lo := 0) (n := min Ln (r.length + 1)) (fun i σ H' => ∃ x6, σ = [some (.ref b), some (.str (sOf t)), some (.str z), some (.ref ro), some (.ref rr), some (.ref n2), x6] ∧ Same H H' ∧ H' ro = some (.lst (rowV (tfD kvs) t (t.length + 1))) ∧ H' rr = some (.lst (rowV (tfD kvs) r (r.length + 1))) ∧ H' n2 = some (.lst (lossI (tfD kvs) Ln p r t i)))
      ⟨_, rfl, s04, r14, r24, m4⟩ ?_ ?_
    · rintro i σ H5 hi ⟨x6, rfl, s5, r15, r25, m5⟩
      have i0 : (0 : Int) + (i : Int) = (i : Int) := by omega
      rw [i0]
      have ei : -(1 : Int) - (i : Int) = -((i : Nat) : Int) - 1 := by omega
      have at0 : atI (rowV (tfD kvs) t (t.length + 1)) (-(1 : Int) - (i : Int)) = some (.int (lp (tfD kvs) (t.take (t.length - i)))) := by
        rw [ei, atI_neg (by rw [rowV_len]; omega), rowV_len, rowV_at (by omega)]
        have e6 : t.length + 1 - 1 - i = t.length - i := by omega
        rw [e6]
      have at1 : atI (rowV (tfD kvs) r (r.length + 1)) (-(1 : Int) - (i : Int)) = some (.int (lp (tfD kvs) (r.take (r.length - i)))) := by
        rw [ei, atI_neg (by rw [rowV_len]; omega), rowV_len, rowV_at (by omega)]
        have e6 : r.length + 1 - 1 - i = r.length - i := by omega
        rw [e6]
      have hl : p + lp (tfD kvs) (r.take (r.length - i)) - lp (tfD kvs) (t.take (t.length - i)) = lossE (tfD kvs) p r t i := by
        unfold lossE
        rw [if_pos (by omega)]
      refine ⟨_, rfl, b, C, dx, _, _, rfl, s5 _ _ A.ob, T.cl, T.n_own_prices, bf_prices, _, rfl, d, _, rfl, .inl ⟨_, Sum.inr z, .inr ⟨od, s5 _ _ A.dc⟩, rfl, hv.symm⟩, _, rfl, _, rfl, _, rfl, _, _, rfl, rfl, rr, _, _, _, rfl, rfl, SqL.of r25, at1, _, _, rfl, rfl, _, rfl, _, rfl, _, rfl, _, _, rfl, rfl, ro, _, _, _, rfl, rfl, SqL.of r15, at0, _, _, rfl, rfl, _, rfl, _, rfl, n2, _, (i : Int), i, rfl, rfl, m5, ?_, ?_⟩
      · unfold ixN
        rw [if_pos (by omega), if_pos (by rw [lossI_len]; omega)]
        rfl
      · refine ⟨_, rfl, same_mut s5 hn20, by rw [upd_ne nro]; exact r15, by rw [upd_ne nrr]; exact r25, ?_⟩
        rw [upd_same, ← lossI_set (by omega), ← hl]
    rintro σ H5 ⟨x6, rfl, s5, r15, r25, m5⟩
    rw [lossI_all hz ht] at m5
    refine ⟨_, rfl, _, rfl, b, kvs, sOf t, rfl, B.same s5, by rw [cs_sOf]; exact ov, by rw [sOf_len]; omega, isText_of (by rw [cs_sOf]; omega) (by rw [cs_sOf]; exact tlt), fun L tf H6 wL fr s6 => ?_⟩
    rw [cs_sOf] at fr
    have eL := wL.uniq wide
    subst eL
    refine ⟨_, rfl, n2, _, rfl, .inl ⟨SqL.of (s6 _ _ m5), fun lt hlt => ?_⟩⟩
    refine ⟨by show 2 ≤ sizeLine; decide, fun a ha => ?_⟩
    exact k L a _ wL ⟨tf, lt, upd_same, (fr.same (same_new hlt)).same (same_new ha), same_new ha _ _ upd_same⟩ (((s5.trans s6).trans (same_new hlt)).trans (same_new ha))
theorem sc_step_beside : FnScope ["book", "beside", "sign", "front", "losses", "after", "change", "longer", "ahead", "ends", "least", "piece"] ["book", "beside", "sign"] (defScope s_step_beside) := ⟨rfl, rfl, rfl, by decide +kernel, rfl, by decide +kernel, by decide +kernel⟩
theorem ok_step_beside {f : Addr} {fd : FuncData} (F : Fun K "step_beside" "step_beside" s_step_beside f fd) (T : Txt K mg C) (c_step_in : HasO P w K mg base CX0 2 "step_in" ["book", "front", "sign"] (spStepIn C)) : FnOk P w K mg base CX0 3 f fd ["book", "beside", "sign"] (spStepBes C) := by
  refine F.ok sc_step_beside (fun vs H Q E h => ?_) (fun cdv A outer s H vs Q E hr h => ?_)
  · obtain ⟨b, s, kvs, l, ds, ls, c, L, rfl, _⟩ := h
    rfl
  · have hu := hu_of hr
    obtain ⟨b, s, kvs, l, ds, ls, c, L, rfl, B, BA, oc, lc, k⟩ := h
    refine ⟨_, (pss_cons (ps_asg (pv 1) (g_tup K (n := 2) rfl (pgs_cons (pg_name (i := 3) sc_step_beside.nd rfl (Or.inl rfl)) (pgs_cons (pg_name (i := 4) sc_step_beside.nd rfl (Or.inr rfl)) pgs_nil))))
      (pss_cons (ps_asg (pe_hasO c_step_in (hr.mono (by decide)) pass0 (pa_cons (pv 0) (pa_cons (pv 3) (pa_cons (pv 2) pa_nil)))) (g_tup K (n := 2) rfl (pgs_cons (pg_name (i := 5) sc_step_beside.nd rfl (Or.inl rfl)) (pgs_cons (pg_name (i := 6) sc_step_beside.nd rfl (Or.inl rfl)) pgs_nil))))
      (pss_cons (ps_asg (pe_tup (pa_cons (pe_op op_add_str (pe_ix (g_ix_tup K) (pv 3) pe_int (fun _ _ => rfl)) (pv 2)) (pa_cons (pe_tup (pa_cons pe_int (StX.pa_star (pe_ix (g_ix_tup K) (pv 3) pe_int (fun _ _ => rfl)) pa_nil))) pa_nil))) (g_tup K (n := 2) rfl (pgs_cons (pg_name (i := 7) sc_step_beside.nd rfl (Or.inr rfl)) (pgs_cons (pg_name (i := 8) sc_step_beside.nd rfl (Or.inr rfl)) pgs_nil))))
      (pss_cons (ps_setLc (i := 9) (own := [("piece", 11)]) rfl sc_step_beside.nd rfl rfl (sw_true rfl rfl rfl (by decide +kernel)) (g_tuple K (g_fld K (pv 0))) (blkOk_by (own := [("piece", 11)]) (N := ["book", "beside", "sign", "front", "losses", "after", "change", "longer", "ahead", "ends", "least", "piece"]) (sc := defScope s_step_beside) (by decide +kernel)) (fun _ _ _ _ _ => (pg_name (i := 11) sc_step_beside.nd rfl (Or.inl rfl))) (fun _ _ _ _ _ => (pts_one (PW.pt (pw_and (pt_val (pe_m1 PySem.F.slot_str_endswith PySem.F.type_str_endswith mt_endswith (pv 7) (pv 11))) (pw_and1 (pt_cmpR op_ge (pe_ix (g_ix_tup K) (pv 4) (pe_op op_sub (pe_callB call_len_str (by rfl) T.b_len (by decide +kernel) (pa_cons (pv 11) pa_nil)) pe_int) (fun _ _ => rfl)) pe_int (nomark _))))))) (fun _ _ _ _ _ => (pv 11)))
      (pss_cons (ps_set (i := 10) sc_step_beside.nd rfl (Or.inl rfl) (pe_callB (g_min K rfl) (by rfl) T.b_min (by decide +kernel) (pa_cons (pe_lc (own := [("piece", 11)]) rfl sc_step_beside.nd (g_list K (pv 9)) (blkOk_by (own := [("piece", 11)]) (N := ["book", "beside", "sign", "front", "losses", "after", "change", "longer", "ahead", "ends", "least", "piece"]) (sc := defScope s_step_beside) (by decide +kernel)) (fun _ _ _ _ _ => (pg_name (i := 11) sc_step_beside.nd rfl (Or.inl rfl))) (fun _ _ _ _ _ => pts_nil) (fun _ _ _ _ _ => (pe_op op_add (pe_op op_add (pe_dget hu (g_fld K (pv 0)) (pv 11) (fun _ _ => rfl)) (pe_ix (g_ix_tup K) (pv 8) (pe_op op_sub (pe_callB call_len_str (by rfl) T.b_len (by decide +kernel) (pa_cons (pv 11) pa_nil)) pe_int) (fun _ _ => rfl))) (pe_ix (g_ix_tup K) (pv 4) (pe_op op_sub (pe_callB call_len_str (by rfl) T.b_len (by decide +kernel) (pa_cons (pv 11) pa_nil)) pe_int) (fun _ _ => rfl))))) pa_nil)))
      (pss_one (ps_ret (pe_tup (pa_cons (pv 5) (pa_cons (pe_tup (pa_cons (pe_op op_sub (pv 10) (pv 6)) (StX.pa_star (pe_slice (g_sl_tup K) (pv 4) po_none (po_some (pe_un un_neg pe_int))) pa_nil))) pa_nil)))))))))), ?_⟩
    obtain ⟨av, nd, ys, Lo, M, dx, d, tp, ta, od, pm, so, A⟩ := id B
    obtain ⟨_, al, _, _⟩ := ap_parts av
    have tar := tar_of av nd
    obtain ⟨Ln, rfl⟩ : ∃ Ln : Nat, Lo = (Ln : Int) := by
      obtain ⟨q, _, e⟩ := List.mem_map.mp A.lo.1
      exact ⟨q.1.length, e.symm⟩
    obtain ⟨wide, l1, l5⟩ := wide_of av pm A.lo
    
    obtain ⟨f0, u, e1, fr, e3⟩ := BA.at_
    have wL := BA.wd
    have eL := wide.uniq wL
    subst eL
    have hlL := BA.ln
    have hds := BA.dl
    have hls : ls.length = Ln := BA.fm.len
    obtain ⟨td, fr1, fr2⟩ := id fr
    have pi : H tp = some (.tup (ys.map V.str)) := by
      rw [A.pi]
      unfold psOf
      rw [List.map_map]
      rfl
    have ly : ys.length ≤ 12 := by
      obtain ⟨⟨_, n2⟩, _⟩ := ap_parts av
      have h := congrArg List.length (keys_of al)
      rw [List.length_map, List.length_map] at h
      rw [pm.length_eq]
      omega
    refine ⟨_, rfl, s, _, rfl, SqT.of e1, rfl, _, _, rfl, _, _, rfl, rfl, ?_⟩
    refine ⟨_, rfl, _, rfl, _, rfl, b, f0, kvs, l, ds, c, Ln, rfl, B, fr, wL, BA.ov, oc, hlL, hds, BA.lt, BA.di, fun t1 n H1 stp sa s1 => ?_⟩
    obtain ⟨u1, g1, g2⟩ := sa
    refine ⟨t1, _, rfl, SqT.of g1, rfl, _, _, rfl, _, _, rfl, rfl, ?_⟩
    have lgl : (sOf l ++ ch c) = sOf (l ++ [c]) := str_ext (by rw [cs_app, cs_sOf, cs_sOf])
    refine ⟨_, rfl, f0, _, _, .str (sOf l), rfl, rfl, SqT.of (s1 _ _ fr1), at_of (j := 0) rfl rfl, _, rfl, sOf l, ch c, rfl, rfl, by rw [sOf_len]; exact fits_sz (by show l.length + 1 ≤ 100000; omega), ?_⟩
    rw [lgl]
    refine ⟨_, rfl, f0, _, _, .ref td, rfl, rfl, SqT.of (s1 _ _ fr1), at_of (j := 1) rfl rfl, td, _, rfl, .inl (SqT.of (s1 _ _ fr2)), by show (ds.map V.int ++ []).length + 1 ≤ sizeLine; rw [List.append_nil, List.length_map]; exact fits_sz (by omega), fun aa haa => ?_⟩
    have ea : V.int 0 :: (ds.map V.int ++ []) = ((0 : Int) :: ds).map V.int := by rw [List.append_nil]; rfl
    refine ⟨by show 2 ≤ sizeLine; decide, fun t2 ht2 => ?_⟩
    refine ⟨t2, _, rfl, SqT.of upd_same, rfl, _, _, rfl, _, _, rfl, rfl, ?_⟩
    have s2 : Same H1 (upd (upd H1 aa (.tup (V.int 0 :: (ds.map V.int ++ [])))) t2 (.tup [.str (sOf (l ++ [c])), .ref aa])) := (same_new haa).trans (same_new ht2)
    have a2 : (upd (upd H1 aa (.tup (V.int 0 :: (ds.map V.int ++ [])))) t2 (.tup [.str (sOf (l ++ [c])), .ref aa])) aa = some (.tup (((0 : Int) :: ds).map V.int)) := by
      rw [← ea]
      exact same_new ht2 _ _ upd_same
    generalize (upd (upd H1 aa (.tup (V.int 0 :: (ds.map V.int ++ [])))) t2 (.tup [.str (sOf (l ++ [c])), .ref aa])) = H2 at s2 a2 ⊢
    have clg : cs (sOf (l ++ [c])) = l ++ [c] := cs_sOf _
    have llg : (sOf (l ++ [c])).length = l.length + 1 := by rw [sOf_len, List.length_append]; rfl
    generalize sOf (l ++ [c]) = lg at clg llg ⊢
    have s02 := s1.trans s2
    -- the pieces at the end with a loss that is known
    refine ⟨_, rfl, b, C, dx, _, _, rfl, s02 _ _ A.ob, T.cl, T.n_own_pieces, bf_pieces, tp, rfl, ⟨_, SqT.of (s02 _ _ pi)⟩, fun D hD => ?_⟩
    have hys : ∀ y ∈ ys, (∃ p, tfD kvs y = some p) ∧ 1 ≤ (cs y).length ∧ (cs y).length ≤ Ln ∧ (cs y).length ≤ 5 := fun y hy => by
      obtain ⟨p, hp⟩ := (tf_key al).mp (pm.mem_iff.mp hy)
      have h1 := tar.good.len y p hp
      have h2 := wL.2 y p hp
      exact ⟨⟨p, hp⟩, by omega, by omega, by omega⟩
    refine lcs ys (walk_tupF (K := K) V.str ys) (fun y => if endP lg ls y = true then some (V.str y) else none) hD (by omega) (fun H' s => SqT.of (s _ _ (s02 _ _ pi))) ?_ ?_
    · rintro i y x H3 H4 hi s3 ⟨rfl, y', ey, rfl⟩ N M' hN hM
      have e0 : y = y' := Option.some.inj (hi.symm.trans ey)
      subst e0
      obtain ⟨⟨p, hp⟩, y1, y2, y5⟩ := hys y (List.mem_of_getElem? hi)
      have yl := cs_len y
      refine ⟨wipe_set, _, rfl, ⟨_, rfl⟩, _, rfl, _, _, rfl, rfl, _, rfl, ?_⟩
      refine itB (fun q => ?_) (fun q => ?_)
      · refine ⟨_, rfl, _, rfl, y, rfl, fits_sz (by omega), _, _, rfl, rfl, u, _, _, .int (lossOf ls y), rfl, rfl, SqT.of ((s02.trans s3) _ _ e3), at_of (j := (cs y).length - 1) (by omega) (by rw [List.getElem?_map, loss_some (by omega) (by omega)]; rfl), _, _, rfl, rfl, _, rfl, ?_⟩
        refine itB (fun q2 => ?_) (fun q2 => ?_)
        · exact ⟨_, rfl, hN _ _ (if_pos (by unfold endP; rw [q, q2]; rfl)) (Same.refl _)⟩
        · exact hM _ (if_neg (by unfold endP; rw [q, q2]; exact Bool.false_ne_true)) (Same.refl _)
      · exact hM _ (if_neg (by unfold endP; rw [q]; exact Bool.false_ne_true)) (Same.refl _)
    rintro H3 s3 e3'
    rw [filter_fm] at e3'
    have kmem : ∀ y, y ∈ ys.filter (endP lg ls) ↔ (∃ p, tfD kvs y = some p) ∧ Txt.endswith lg y = true ∧ 0 ≤ lossOf ls y := fun y => by
      rw [List.mem_filter, pm.mem_iff, tf_key al]
      unfold endP
      rw [Bool.and_eq_true, decide_eq_true_eq]
    have kel : (ys.filter (endP lg ls)).length ≤ 12 := Nat.le_trans (List.length_filter_le _ _) ly
    have hks : ∀ y ∈ ys.filter (endP lg ls), y ∈ ys := fun y hy => (List.mem_filter.mp hy).1
    generalize (ys.filter (endP lg ls)) = ks at e3' kmem kel hks
    have s03 := s02.trans s3
    have a3 := s3 _ _ a2
    -- the least of them
    have hlen : ∀ y ∈ ks, (cs y).length ≤ l.length + 1 := fun y hy => by
      obtain ⟨_, g, _⟩ := (kmem y).mp hy
      obtain ⟨b, hb⟩ := ends_iff.mp g
      have h3 := congrArg List.length hb
      rw [clg, List.length_append, List.length_append, List.length_singleton] at h3
      omega
    refine ⟨_, rfl, D, rfl, ⟨_, SqL.of e3'⟩, fun D2 hD2 => ?_⟩
    refine lcs ks (walk_listF (K := K) V.str ks) (fun y => some (V.int ((tfD kvs y).getD 0 + aheadAt ds y + lossOf ls y))) hD2 (by omega) (fun H' s => SqL.of (s _ _ e3')) ?_ ?_
    · rintro i y x H4 H5 hi s4 ⟨rfl, y', ey, rfl⟩ N M' hN hM
      have e0 : y = y' := Option.some.inj (hi.symm.trans ey)
      subst e0
      have ym := hks y (List.mem_of_getElem? hi)
      obtain ⟨⟨p, hp⟩, y1, y2, y5⟩ := hys y ym
      have y6 := hlen y (List.mem_of_getElem? hi)
      have yl := cs_len y
      have hv : valV (kvOf (psOf kvs ys)) (Sum.inr y) = some (.int p) := by
        rw [kvOf_ps, val_fun, if_pos ym]
        have h1 := (price_of_key al ((tf_key al).mpr ⟨p, hp⟩)).1
        rw [tf_some.mp hp] at h1
        rw [V.int.inj (Option.some.inj h1)]
      have s34 := s03.trans s4
      refine ⟨wipe_set, _, rfl, b, C, dx, _, _, rfl, s34 _ _ A.ob, T.cl, T.n_own_prices, bf_prices, _, rfl, d, _, rfl, .inl ⟨_, Sum.inr y, .inr ⟨od, s34 _ _ A.dc⟩, rfl, hv.symm⟩, _, rfl, _, rfl, y, rfl, fits_sz (by omega), _, _, rfl, rfl, aa, _, _, .int (aheadAt ds y), rfl, rfl, SqT.of (s4 _ _ a3), at_of (j := (cs y).length - 1) (by omega) (by rw [List.getElem?_map, ahead_some (by omega)]; rfl), _, _, rfl, rfl, _, rfl, _, rfl, y, rfl, fits_sz (by omega), _, _, rfl, rfl, u, _, _, .int (lossOf ls y), rfl, rfl, SqT.of (s34 _ _ e3), at_of (j := (cs y).length - 1) (by omega) (by rw [List.getElem?_map, loss_some (by omega) (by omega)]; rfl), _, _, rfl, rfl, hN _ _ ?_ (Same.refl _)⟩
      rw [hp]
      rfl
    rintro H4 s4 e4
    have em2 : (ks.filterMap fun y => some (V.int ((tfD kvs y).getD 0 + aheadAt ds y + lossOf ls y))) = (ks.map fun y => (tfD kvs y).getD 0 + aheadAt ds y + lossOf ls y).map V.int := by
      rw [fm_some, List.map_map]
      rfl
    rw [em2] at e4
    obtain ⟨bpos, bmin⟩ := bes_min (ds := ds) tar.good wL kmem clg hds hls BA.fm.zero oc
    refine ⟨D2, _, rfl, SqL.of e4, bpos, fun m hm hle => ?_⟩
    have bst := bmin m hm hle
    have s04 := s03.trans s4
    have lpos : 1 ≤ (ls.map V.int).length := by rw [List.length_map]; omega
    refine ⟨_, rfl, _, rfl, _, rfl, _, _, rfl, rfl, ?_⟩
    refine ⟨_, rfl, _, rfl, _, rfl, u, _, rfl, SqT.of (s04 _ _ e3), fun e => ?_, fun _ w1 hw1 => ?_⟩
    · have h := e.2
      rw [sIx_m1] at h
      omega
    rw [cutV_m1]
    have s5 := s04.trans (same_new hw1 (o := .tup (ls.map V.int).dropLast))
    have w5 : (upd H4 w1 (.tup (ls.map V.int).dropLast)) w1 = some (.tup (ls.map V.int).dropLast) := upd_same
    have f5 : (upd H4 w1 (.tup (ls.map V.int).dropLast)) u1 = some (.tup [.str (sOf (stepW Ln l c)), .ref g2.choose]) := same_new hw1 _ _ (s4 _ _ (s3 _ _ (s2 _ _ g2.choose_spec.1)))
    have t5 : (upd H4 w1 (.tup (ls.map V.int).dropLast)) g2.choose = some (.tup ((stepD Ln l ds c n).map V.int)) := same_new hw1 _ _ (s4 _ _ (s3 _ _ (s2 _ _ g2.choose_spec.2)))
    generalize (upd H4 w1 (.tup (ls.map V.int).dropLast)) = H5 at s5 w5 f5 t5 ⊢
    have eB : V.int (m - n) :: ((ls.map V.int).dropLast ++ []) = (besL ls m n).map V.int := by
      unfold besL
      rw [List.append_nil, List.map_cons, List.map_dropLast]
    refine ⟨w1, _, rfl, .inl (SqT.of w5), by show ((ls.map V.int).dropLast ++ []).length + 1 ≤ sizeLine; rw [List.append_nil, List.length_dropLast, List.length_map]; exact fits_sz (by omega), fun w4 hw4 => ?_⟩
    refine ⟨by show 2 ≤ sizeLine; decide, fun a ha => ?_⟩
    refine k a n m _ stp bst ⟨u1, w4, upd_same, ⟨g2.choose, same_new ha _ _ (same_new hw4 _ _ f5), same_new ha _ _ (same_new hw4 _ _ t5)⟩, ?_⟩ ((s5.trans (same_new hw4)).trans (same_new ha))
    refine same_new ha _ _ ?_
    rw [upd_same, ← eB]
theorem sc_has_beside_form : FnScope ["book", "value", "losses", "many", "one"] ["book", "value"] (defScope s_has_beside_form) := ⟨rfl, rfl, rfl, by decide +kernel, rfl, by decide +kernel, by decide +kernel⟩
theorem ok_has_beside_form {f : Addr} {fd : FuncData} (F : Fun K "has_beside_form" "has_beside_form" s_has_beside_form f fd) (T : Txt K mg C) (c_has_front_form : HasO P w K mg base CX0 5 "has_front_form" ["book", "value"] (spForm C)) (c_is_integer : HasO P w K mg base CX0 1 "is_integer" ["value"] (spIsI K isInteger)) : FnOk P w K mg base CX0 6 f fd ["book", "value"] (spBForm C) := by
  refine F.ok sc_has_beside_form (fun vs H Q E h => ?_) (fun cdv A outer s H vs Q E hr h => ?_)
  · obtain ⟨b, s, kvs, l, ds, ls, L, rfl, _⟩ := h
    rfl
  · have hu := hu_of hr
    obtain ⟨b, s, kvs, l, ds, ls, L, rfl, B, BA, k⟩ := h
    refine ⟨_, (pss_cons (ps_if (PW.pt (pw_or (pt_not (pt_val (pe_callB (g_isi K) (by rfl) T.b_isinstance (by decide +kernel) (pa_cons (pv 1) (pa_cons (pe_bltn (v := .ty "tuple") rfl T.b_tuple (by decide +kernel) rfl) pa_nil))))) (pw_or (pt_cmpR op_ne (pe_callB (g_len_seq K) (by rfl) T.b_len (by decide +kernel) (pa_cons (pv 1) pa_nil)) pe_int (nomark _)) (pw_or1 (pt_not (pt_val (pe_hasO c_has_front_form (hr.mono (by decide)) pass0 (pa_cons (pv 0) (pa_cons (pe_ix (g_ix_tup K) (pv 1) pe_int (fun _ _ => rfl)) pa_nil))))))))) (pss_one (ps_ret pe_bl)) pss_nil)
      (pss_cons (ps_par (i := 2) (j := 3) (by rfl) sc_has_beside_form.nd rfl rfl (by decide) rfl rfl (pa_cons (pe_ix (g_ix_tup K) (pv 1) pe_int (fun _ _ => rfl)) (pa_cons (pe_callB call_len_str (by rfl) T.b_len (by decide +kernel) (pa_cons (pe_ix (g_ix_seq K) (pe_ix (g_ix_tup K) (pv 1) pe_int (fun _ _ => rfl)) pe_int (fun _ _ => rfl)) pa_nil)) pa_nil)) (by rfl))
      (pss_cons (ps_if (PW.pt (pw_or (pt_not (pt_val (pe_callB (g_isi K) (by rfl) T.b_isinstance (by decide +kernel) (pa_cons (pv 2) (pa_cons (pe_bltn (v := .ty "tuple") rfl T.b_tuple (by decide +kernel) rfl) pa_nil))))) (pw_or (pt_cmpR op_ne (pe_callB (g_len_seq K) (by rfl) T.b_len (by decide +kernel) (pa_cons (pv 2) pa_nil)) (g_fld K (pv 0)) (nomark _)) (pw_or1 (pt_not (pt_val (pe_callB (g_all K rfl) (by rfl) T.b_all (by decide +kernel) (pa_cons (pe_lc (own := [("one", 4)]) rfl sc_has_beside_form.nd (g_tuple K (pv 2)) (blkOk_by (own := [("one", 4)]) (N := ["book", "value", "losses", "many", "one"]) (sc := defScope s_has_beside_form) (by decide +kernel)) (fun _ _ _ _ _ => (pg_name (i := 4) sc_has_beside_form.nd rfl (Or.inl rfl))) (fun _ _ _ _ _ => pts_nil) (fun _ _ _ _ _ => (pe_hasO c_is_integer (hr.mono (by decide)) pass0 (pa_cons (pv 4) pa_nil)))) pa_nil)))))))) (pss_one (ps_ret pe_bl)) pss_nil)
      (pss_cons (ps_if (PW.pt (pw_or (pt_cmpR op_lt (pe_ix (g_ix_tup K) (pv 2) pe_int (fun _ _ => rfl)) pe_int (nomark _)) (pw_or1 (pt_cmpR op_lt (pe_callB (g_minT K rfl) (by rfl) T.b_min (by decide +kernel) (pa_cons (pv 2) pa_nil)) (pe_un un_neg pe_int) (nomark _))))) (pss_one (ps_ret pe_bl)) pss_nil)
      (pss_one (ps_ret (pe_callB (g_all K rfl) (by rfl) T.b_all (by decide +kernel) (pa_cons (pe_lc (own := [("one", 4)]) rfl sc_has_beside_form.nd (g_tuple K (pe_slice (g_sl_tup K) (pv 2) (po_some (pe_op op_add (pv 3) pe_int)) po_none)) (blkOk_by (own := [("one", 4)]) (N := ["book", "value", "losses", "many", "one"]) (sc := defScope s_has_beside_form) (by decide +kernel)) (fun _ _ _ _ _ => (pg_name (i := 4) sc_has_beside_form.nd rfl (Or.inl rfl))) (fun _ _ _ _ _ => pts_nil) (fun _ _ _ _ _ => (pe_cmpR op_eq (pv 4) (pe_un un_neg pe_int) (nomark _)))) pa_nil)))))))), ?_⟩
    obtain ⟨av, nd, ys, Lo, M, dx, d, tp, ta, od, pm, so, A⟩ := id B
    obtain ⟨_, al, _, _⟩ := ap_parts av
    have tar := tar_of av nd
    obtain ⟨Ln, rfl⟩ : ∃ Ln : Nat, Lo = (Ln : Int) := by
      obtain ⟨q, _, e⟩ := List.mem_map.mp A.lo.1
      exact ⟨q.1.length, e.symm⟩
    obtain ⟨wide, l1, l5⟩ := wide_of av pm A.lo
    
    obtain ⟨f0, u, e1, fr, e3⟩ := BA.at_
    have wL := BA.wd
    have eL := wide.uniq wL
    subst eL
    have hlL := BA.ln
    have hls : ls.length = Ln := BA.fm.len
    obtain ⟨td, fr1, fr2⟩ := id fr
    obtain ⟨v0, hv0, hv00⟩ := BA.fm.zero
    refine ⟨_, rfl, _, _, _, _, _, rfl, .ty _, .base (.tup e1), kit_ty (show kitB "tuple" "tuple" = some true by decide +kernel), _, rfl, ?_⟩
    refine ⟨_, rfl, s, _, rfl, .inr (SqT.of e1), rfl, false, rfl, ?_⟩
    refine ⟨_, rfl, _, rfl, s, _, _, .ref f0, rfl, rfl, SqT.of e1, at_of (j := 0) rfl rfl, b, f0, kvs, l, ds, Ln, rfl, ⟨B, fr, wL, BA.ov, hlL, BA.dl, BA.lt, BA.di⟩, fun H1 s1 => ?_⟩
    refine ⟨true, rfl, ?_⟩
    refine itF rfl ?_
    have g1 := s1 _ _ e1
    have g2 := s1 _ _ fr1
    have g3 := s1 _ _ e3
    refine ⟨_, rfl, s, _, _, .ref u, rfl, rfl, SqT.of g1, at_of (j := 1) rfl rfl, _, rfl, s, _, _, .ref f0, rfl, rfl, SqT.of g1, at_of (j := 0) rfl rfl, .inr (.inl ⟨f0, _, _, .str (sOf l), rfl, rfl, SqT.of g2, at_of (j := 0) rfl rfl, sOf l, rfl, by rw [sOf_len]; exact fits_sz (by omega), _, _, rfl, ?_⟩)⟩
    refine ⟨_, rfl, _, _, _, _, _, rfl, .ty _, .base (.tup g3), kit_ty (show kitB "tuple" "tuple" = some true by decide +kernel), _, rfl, ?_⟩
    refine ⟨_, rfl, u, _, rfl, .inr (SqT.of g3), _, rfl, b, C, dx, _, _, rfl, s1 _ _ A.ob, T.cl, T.n_own_longest, bf_longest, rfl, false, by rw [List.length_map, hls, decide_eq_true rfl]; rfl, ?_⟩
    refine itF rfl ?_
    refine ⟨_, rfl, u, rfl, ⟨_, SqT.of g3⟩, fun D hD => ?_⟩
    refine lcs ls (walk_tupF (K := K) V.int ls) (fun _ => some (V.bl true)) hD (by omega) (fun H' s => SqT.of (s _ _ g3)) ?_ ?_
    · rintro i y x H3 H4 hi s3 ⟨rfl, y', ey, rfl⟩ N M' hN hM
      have e0 : y = y' := Option.some.inj (hi.symm.trans ey)
      subst e0
      refine ⟨wipe_set, _, rfl, .int y, rfl, tyd_int y, fun H5 s5 => ?_⟩
      rw [BA.fm.int y (List.mem_of_getElem? hi)]
      exact hN _ _ rfl s5
    rintro H3 s3 e3'
    have em : (ls.filterMap fun _ => some (V.bl true)) = (ls.map fun _ => true).map V.bl := by
      rw [fm_some, List.map_map]
      rfl
    rw [em] at e3'
    refine ⟨D, _, rfl, SqL.of e3', ?_⟩
    have ea : ∀ xs : List Int, (xs.map fun _ => true).all id = true := fun xs => by
      rw [List.all_map, List.all_eq_true]
      intro _ _
      rfl
    rw [ea]
    refine ⟨true, rfl, ?_⟩
    refine itF rfl ?_
    have g4 := s3 _ _ g3
    refine ⟨_, rfl, u, _, _, .int v0, rfl, rfl, SqT.of g4, at_of (j := 0) rfl (by rw [List.getElem?_map, hv0]; rfl), _, _, rfl, rfl, false, congrArg V.bl (decide_eq_false (by omega)), ?_⟩
    refine itF rfl ?_
    refine ⟨_, rfl, u, ls, rfl, SqT.of g4, by omega, fun m hm hle => ?_⟩
    have mlow := BA.fm.low m hm
    refine ⟨_, rfl, _, _, rfl, rfl, false, congrArg V.bl (decide_eq_false (by omega)), ?_⟩
    refine itF rfl ?_
    have em1 : ((sOf l).length : Int) + 1 = ((l.length + 1 : Nat) : Int) := by rw [sOf_len]; omega
    refine ⟨_, rfl, _, rfl, _, _, rfl, rfl, _, rfl, u, _, rfl, SqT.of g4, fun e => ?_, fun _ w1 hw1 => ?_⟩
    · have h := e.1
      rw [em1, sIx_pos (by omega), Int.toNat_natCast, List.length_map] at h
      omega
    rw [em1, cutV_from' (by rw [List.length_map]; omega), ← List.map_drop]
    have s13 := s1.trans s3
    have s5 := s13.trans (same_new hw1 (o := .tup ((ls.drop (l.length + 1)).map V.int)))
    refine ⟨w1, rfl, ⟨_, SqT.of upd_same⟩, fun D2 hD2 => ?_⟩
    refine lcs (ls.drop (l.length + 1)) (walk_tupF (K := K) V.int (ls.drop (l.length + 1))) (fun _ => some (V.bl true)) hD2 (by rw [List.length_drop]; omega) (fun H' s => SqT.of (s _ _ upd_same)) ?_ ?_
    · rintro i y x H5 H6 hi s6 ⟨rfl, y', ey, rfl⟩ N M' hN hM
      have e0 : y = y' := Option.some.inj (hi.symm.trans ey)
      subst e0
      have ey1 := BA.fm.far y (List.mem_of_getElem? hi)
      subst ey1
      exact ⟨wipe_set, _, rfl, _, rfl, rfl, hN _ _ (by rw [decide_eq_true rfl]) (Same.refl _)⟩
    rintro H6 s6 e6
    have em2 : ((ls.drop (l.length + 1)).filterMap fun _ => some (V.bl true)) = ((ls.drop (l.length + 1)).map fun _ => true).map V.bl := by
      rw [fm_some, List.map_map]
      rfl
    rw [em2] at e6
    refine ⟨D2, _, rfl, SqL.of e6, ?_⟩
    rw [ea]
    exact k _ (s5.trans s6)
theorem sc_require_begun : FnScope ["book", "text", "piece"] ["book", "text", "piece"] (defScope s_require_begun) := ⟨rfl, rfl, rfl, by decide +kernel, rfl, by decide +kernel, by decide +kernel⟩
theorem ok_require_begun {f : Addr} {fd : FuncData} (F : Fun K "require_begun" "require_begun" s_require_begun f fd) (T : Txt K mg C) (c_Book___contains__ : C8.Met P w K mg base 3 C "__contains__" (spHasKey C) []) (c_require_book : HasO P w K mg base CX0 1 "require_book" ["value"] (spReqBook C)) (c_require_text : HasO P w K mg base CX0 4 "require_text" ["book", "value"] (spReqText C)) : FnOk P w K mg base CX0 5 f fd ["book", "text", "piece"] (spBegun C) := by
  refine F.ok sc_require_begun (fun vs H Q E h => ?_) (fun cdv A outer s H vs Q E hr h => ?_)
  · obtain ⟨b, kvs, t, z, p, r, rfl, _⟩ := h
    rfl
  · have hu := hu_of hr
    obtain ⟨b, kvs, t, z, p, r, rfl, B, ov, tl, tlt, hz, ht, k⟩ := h
    refine ⟨_, (pss_cons (ps_expr (pe_hasO c_require_book (hr.mono (by decide)) pass0 (pa_cons (pv 0) pa_nil)))
      (pss_cons (ps_expr (pe_hasO c_require_text (hr.mono (by decide)) pass0 (pa_cons (pv 0) (pa_cons (pv 1) pa_nil))))
      (pss_cons (ps_if (pt_cmpR (op_notInO c_Book___contains__ hr (by decide)) (pv 2) (pv 0) (by rfl)) (pss_one ps_never) pss_nil)
      (pss_one (ps_if (pt_not (pt_val (pe_m1 PySem.F.slot_str_startswith PySem.F.type_str_startswith mt_startswith (pv 1) (pv 2)))) (pss_one ps_never) pss_nil))))), ?_⟩
    obtain ⟨av, nd, ys, Lo, M, dx, d, tp, ta, od, pm, so, A⟩ := id B
    obtain ⟨_, al, _, _⟩ := ap_parts av
    have tar := tar_of av nd
    obtain ⟨Ln, rfl⟩ : ∃ Ln : Nat, Lo = (Ln : Int) := by
      obtain ⟨q, _, e⟩ := List.mem_map.mp A.lo.1
      exact ⟨q.1.length, e.symm⟩
    obtain ⟨wide, l1, l5⟩ := wide_of av pm A.lo
    
    have lz := cs_len z
    have zl := tar.good.len z p hz
    have tx : isText (.str (sOf t)) = true := isText_of (by rw [cs_sOf]; omega) (by rw [cs_sOf]; exact tlt)
    refine ⟨_, rfl, b, dx, _, rfl, A.ob, ?_⟩
    refine ⟨_, rfl, _, rfl, b, kvs, sOf t, rfl, B, by rw [sOf_len]; omega, overB_true tx (by rw [cs_sOf]; exact ov), fun H1 s1 => ?_⟩
    refine ⟨_, rfl, _, rfl, b, dx, _, rfl, s1 _ _ A.ob, b, kvs, z, rfl, B.same s1, by omega, fun H2 s2 => ⟨true, by rw [hz]; rfl, false, rfl, ?_⟩⟩
    have q : Txt.startswith (sOf t) z = true := starts_begB.mpr ⟨r, by rw [cs_sOf]; exact ht⟩
    refine ⟨_, rfl, ⟨_, rfl⟩, _, rfl, _, _, rfl, rfl, true, congrArg V.bl q, ?_⟩
    exact k H2 (s1.trans s2)
theorem sc_beside_of : FnScope ["book", "text", "piece"] ["book", "text", "piece"] (defScope s_beside_of) := ⟨rfl, rfl, rfl, by decide +kernel, rfl, by decide +kernel, by decide +kernel⟩
theorem ok_beside_of {f : Addr} {fd : FuncData} (F : Fun K "beside_of" "beside_of" s_beside_of f fd) (T : Txt K mg C) (c_require_begun : HasO P w K mg base CX0 5 "require_begun" ["book", "text", "piece"] (spBegun C)) (c_beside_in : HasO P w K mg base CX0 4 "beside_in" ["book", "text", "piece"] (spBes C)) : FnOk P w K mg base CX0 6 f fd ["book", "text", "piece"] (spBes C) := by
  refine F.ok sc_beside_of (fun vs H Q E h => ?_) (fun cdv A outer s H vs Q E hr h => ?_)
  · obtain ⟨b, kvs, t, z, p, r, rfl, _⟩ := h
    rfl
  · have hu := hu_of hr
    obtain ⟨b, kvs, t, z, p, r, rfl, B, ov, tl, tlt, hz, ht, k⟩ := h
    refine ⟨_, (pss_cons (ps_expr (pe_hasO c_require_begun (hr.mono (by decide)) pass0 (pa_cons (pv 0) (pa_cons (pv 1) (pa_cons (pv 2) pa_nil)))))
      (pss_one (ps_ret (pe_hasO c_beside_in (hr.mono (by decide)) pass0 (pa_cons (pv 0) (pa_cons (pv 1) (pa_cons (pv 2) pa_nil))))))), ?_⟩
    refine ⟨_, rfl, _, rfl, _, rfl, b, kvs, t, z, p, r, rfl, B, ov, tl, tlt, hz, ht, fun H1 s1 => ?_⟩
    refine ⟨_, rfl, _, rfl, _, rfl, b, kvs, t, z, p, r, rfl, B.same s1, ov, tl, tlt, hz, ht, fun L a H2 wL ba s2 => ?_⟩
    exact k L a H2 wL ba (s1.trans s2)
theorem sc_next_beside : FnScope ["book", "beside", "sign"] ["book", "beside", "sign"] (defScope s_next_beside) := ⟨rfl, rfl, rfl, by decide +kernel, rfl, by decide +kernel, by decide +kernel⟩
theorem ok_next_beside {f : Addr} {fd : FuncData} (F : Fun K "next_beside" "next_beside" s_next_beside f fd) (T : Txt K mg C) (c_require_book : HasO P w K mg base CX0 1 "require_book" ["value"] (spReqBook C)) (c_has_beside_form : HasO P w K mg base CX0 6 "has_beside_form" ["book", "value"] (spBForm C)) (c_require_sign : HasO P w K mg base CX0 1 "require_sign" ["book", "value"] (spReqSign C)) (c_step_beside : HasO P w K mg base CX0 3 "step_beside" ["book", "beside", "sign"] (spStepBes C)) : FnOk P w K mg base CX0 8 f fd ["book", "beside", "sign"] (spStepBes C) := by
  refine F.ok sc_next_beside (fun vs H Q E h => ?_) (fun cdv A outer s H vs Q E hr h => ?_)
  · obtain ⟨b, s, kvs, l, ds, ls, c, L, rfl, _⟩ := h
    rfl
  · have hu := hu_of hr
    obtain ⟨b, s, kvs, l, ds, ls, c, L, rfl, B, BA, oc, lc, k⟩ := h
    refine ⟨_, (pss_cons (ps_expr (pe_hasO c_require_book (hr.mono (by decide)) pass0 (pa_cons (pv 0) pa_nil)))
      (pss_cons (ps_if (pt_not (pt_val (pe_hasO c_has_beside_form (hr.mono (by decide)) pass0 (pa_cons (pv 0) (pa_cons (pv 1) pa_nil))))) (pss_one ps_never) pss_nil)
      (pss_cons (ps_expr (pe_hasO c_require_sign (hr.mono (by decide)) pass0 (pa_cons (pv 0) (pa_cons (pv 2) pa_nil))))
      (pss_one (ps_ret (pe_hasO c_step_beside (hr.mono (by decide)) pass0 (pa_cons (pv 0) (pa_cons (pv 1) (pa_cons (pv 2) pa_nil))))))))), ?_⟩
    obtain ⟨av, nd, ys, Lo, M, dx, d, tp, ta, od, pm, so, A⟩ := id B
    obtain ⟨_, al, _, _⟩ := ap_parts av
    have tar := tar_of av nd
    obtain ⟨Ln, rfl⟩ : ∃ Ln : Nat, Lo = (Ln : Int) := by
      obtain ⟨q, _, e⟩ := List.mem_map.mp A.lo.1
      exact ⟨q.1.length, e.symm⟩
    obtain ⟨wide, l1, l5⟩ := wide_of av pm A.lo
    
    refine ⟨_, rfl, b, dx, _, rfl, A.ob, ?_⟩
    refine ⟨_, rfl, _, rfl, b, s, kvs, l, ds, ls, L, rfl, B, BA, fun H1 s1 => ?_⟩
    refine ⟨true, rfl, ?_⟩
    refine ⟨_, rfl, _, rfl, b, kvs, c, rfl, B.same s1, oc, fun H2 s2 => ?_⟩
    have s12 := s1.trans s2
    refine ⟨_, rfl, _, rfl, _, rfl, b, s, kvs, l, ds, ls, c, L, rfl, B.same s12, BA.same s12, oc, lc, fun t n m H3 st bt ba s3 => ?_⟩
    exact k t n m H3 st bt ba (s12.trans s3)
theorem sc__law_large : FnScope ["reel", "great"] ["reel"] (defScope s__law_large) := ⟨rfl, rfl, rfl, by decide +kernel, rfl, by decide +kernel, by decide +kernel⟩
theorem ok__law_large {f : Addr} {fd : FuncData} (F : Fun K "_law_large" "_law_large" s__law_large f fd) (T : Txt K mg C) (c__law_pick : Has P w K mg base CX0 2 "_law_pick" ["reel", "items"] (spPick K)) (c__law_spin : Has P w K mg base CX0 1 "_law_spin" ["reel", "total"] (spRollB)) : FnG P w K mg base CX0 3 f fd ["reel"] (spLargeB) := by
  refine fn_g0 F sc__law_large (fun vs H Q E h => ?_) (fun cdv A outer s H vs Q E hg hr h => ?_)
  · obtain ⟨l, n, rfl, _⟩ := h
    rfl
  · have hu := hu_of hr
    obtain ⟨l, n, rfl, D, k⟩ := h
    refine ⟨_, (pss_cons (ps_set (i := 1) sc__law_large.nd rfl (Or.inl rfl) (pe_op op_sub (pe_op op_powW pe_int pe_int) pe_int))
      (pss_one (ps_ret (pe_has c__law_pick hg (hr.mono (by decide)) pass0 (pa_cons (pv 0) (pa_cons (pe_lst (pa_cons pe_int (pa_cons pe_int (pa_cons (pe_un un_neg pe_int) (pa_cons pe_int (pa_cons (pe_un un_neg pe_int) (pa_cons (pv 1) (pa_cons (pe_un un_neg (pv 1)) (pa_cons (pe_has c__law_spin hg (hr.mono (by decide)) pass0 (pa_cons (pv 0) (pa_cons (pv 1) pa_nil))) (pa_cons (pe_un un_neg (pe_has c__law_spin hg (hr.mono (by decide)) pass0 (pa_cons (pv 0) (pa_cons (pe_op op_powW pe_int pe_int) pa_nil)))) pa_nil)))))))))) pa_nil)))))), ?_⟩
    have t60 := ten60
    have u60 : ((10 : Int) ^ (60 : Int).toNat) - 1 ≤ 2 ^ 200 := by decide +kernel
    have l60 := large60
    refine ⟨_, _, rfl, rfl, ⟨by decide, by decide +kernel⟩, _, _, rfl, rfl, ?_⟩
    dsimp only [gName]
    generalize (10 : Int) ^ (60 : Int).toNat = TT at t60 u60 ⊢
    have u20 : (10 : Int) ^ (20 : Int).toNat ≤ 2 ^ 200 ∧ 1 ≤ (10 : Int) ^ (20 : Int).toNat ∧ (10 : Int) ^ (20 : Int).toNat < 10 ^ 60 := by decide +kernel
    have t60' : ((10 : Int) ^ 60) = ((10 ^ 60 : Nat) : Int) := by decide +kernel
    rw [t60'] at u20
    clear t60'
    generalize (10 ^ 60 : Nat) = M at t60 l60 u20 k
    refine ⟨_, rfl, _, rfl, _, rfl, _, rfl, _, rfl, _, rfl, _, rfl, _, rfl, l, _, n + 2, rfl, by omega, u60, D.le (by omega), fun r1 H1 r10 r11 k1 D1 => ?_⟩
    refine ⟨_, rfl, _, _, rfl, rfl, ⟨by decide, by decide +kernel⟩, l, _, n + 1, rfl, u20.2.1, u20.1, D1, fun r2 H2 r20 r21 k2 D2 => ?_⟩
    generalize (10 : Int) ^ (20 : Int).toNat = U at u20 r21
    refine ⟨_, rfl, by show 9 ≤ sizeLine; decide, fun m1 w1 => ?_⟩
    refine ⟨l, .ref m1, _, n, rfl, .lst (D2.ne w1) (SqL.of upd_same), by simp, by simp, D2.new w1, fun y H3 hy k3 D3 => ?_⟩
    have fin : ∀ i : Int, y = .int i → i.natAbs < M → Q y H3 := fun i e h => by
      rw [e]
      exact k i H3 h (((k1.trans k2).trans (.of (same_new w1))).trans k3) D3
    simp only [List.mem_cons, List.not_mem_nil, or_false] at hy
    rcases hy with h | h | h | h | h | h | h | h | h
    all_goals exact fin _ h (by omega)
theorem sc__law_wild : FnScope ["reel", "book", "wide", "signs", "losses", "at", "sign"] ["reel", "book"] (defScope s__law_wild) := ⟨rfl, rfl, rfl, by decide +kernel, rfl, by decide +kernel, by decide +kernel⟩
theorem ok__law_wild {f : Addr} {fd : FuncData} (F : Fun K "_law_wild" "_law_wild" s__law_wild f fd) (T : Txt K mg C) (c__law_wide_of : Has P w K mg base CX0 1 "_law_wide_of" ["book"] (spWide)) (c__law_drawn_text : Has P w K mg base CX0 3 "_law_drawn_text" ["reel", "signs", "size"] (spLetters K)) (c__law_spin : Has P w K mg base CX0 1 "_law_spin" ["reel", "total"] (spRollB)) (c__law_signs_of : HasO P w K mg base CX0 1 "_law_signs_of" ["book"] (spSignsB K)) (c__law_large : Has P w K mg base CX0 3 "_law_large" ["reel"] (spLargeB)) : FnG P w K mg base CX0 4 f fd ["reel", "book"] (spWild) := by
  refine fn_g0 F sc__law_wild (fun vs H Q E h => ?_) (fun cdv A outer s H vs Q E hg hr h => ?_)
  · obtain ⟨l, d, kvs, n, rfl, _⟩ := h
    rfl
  · have hu := hu_of hr
    obtain ⟨l, d, kvs, n, rfl, nd, hd, av, ndp, D, k⟩ := h
    refine ⟨_, (pss_cons (ps_set (i := 2) sc__law_wild.nd rfl (Or.inl rfl) (pe_has c__law_wide_of hg (hr.mono (by decide)) pass0 (pa_cons (pv 1) pa_nil)))
      (pss_cons (ps_set (i := 3) sc__law_wild.nd rfl (Or.inl rfl) (pe_has c__law_drawn_text hg (hr.mono (by decide)) pass0 (pa_cons (pv 0) (pa_cons (pe_hasO c__law_signs_of (hr.mono (by decide)) pass0 (pa_cons (pv 1) pa_nil)) (pa_cons (pe_has c__law_spin hg (hr.mono (by decide)) pass0 (pa_cons (pv 0) (pa_cons (pv 2) pa_nil))) pa_nil)))))
      (pss_cons (ps_set (i := 4) sc__law_wild.nd rfl (Or.inl rfl) (pe_lst (pa_cons (pe_callB call_abs (by rfl) T.b_abs (by decide +kernel) (pa_cons (pe_has c__law_large hg (hr.mono (by decide)) pass0 (pa_cons (pv 0) pa_nil)) pa_nil)) pa_nil)))
      (pss_cons (ps_for PassesOwn.never rfl (pi_range2 (by rfl) T.b_range (pa_cons pe_int (pa_cons (pv 2) pa_nil))) (pg_name (i := 5) sc__law_wild.nd rfl (Or.inl rfl)) (pss_one (ps_expr (g_bm K PySem.F.plainAttrs_list PySem.F.slot_list_append PySem.F.type_list_append mt_append (pv 4) (pa_cons (pe_ifExp (PW.pt (pw_or (pt_cmpR op_gt (pv 5) (pe_callB call_len_str (by rfl) T.b_len (by decide +kernel) (pa_cons (pv 3) pa_nil)) (nomark _)) (pw_or1 (pt_cmpR op_eq (pe_has c__law_spin hg (hr.mono (by decide)) pass0 (pa_cons (pv 0) (pa_cons pe_int pa_nil))) pe_int (nomark _))))) (pe_un un_neg pe_int) (pe_callB call_abs (by rfl) T.b_abs (by decide +kernel) (pa_cons (pe_has c__law_large hg (hr.mono (by decide)) pass0 (pa_cons (pv 0) pa_nil)) pa_nil))) pa_nil)))))
      (pss_one (ps_ret (pe_tup (pa_cons (pe_tup (pa_cons (pv 3) (pa_cons (pe_callTy (g_tuple_of K) (by rfl) T.b_tuple (by decide +kernel) (pa_cons (pe_lc (own := [("sign", 6)]) rfl sc__law_wild.nd (pi_str (pv 3)) (blkOk_by (own := [("sign", 6)]) (N := ["reel", "book", "wide", "signs", "losses", "at", "sign"]) (sc := defScope s__law_wild) (by decide +kernel)) (fun _ _ _ _ _ => (pg_name (i := 6) sc__law_wild.nd rfl (Or.inl rfl))) (fun _ _ _ _ _ => pts_nil) (fun _ _ _ _ _ => (pe_has c__law_large hg (hr.mono (by decide)) pass0 (pa_cons (pv 0) pa_nil)))) pa_nil)) pa_nil))) (pa_cons (pe_callTy (g_tuple_of K) (by rfl) T.b_tuple (by decide +kernel) (pa_cons (pv 4) pa_nil)) pa_nil))))))))), ?_⟩
    have tar := tar_of av ndp
    have kn := (ap_parts av).1
    have ne : kvs ≠ [] := fun e => by
      rw [e] at kn
      simp at kn
    refine ⟨_, rfl, d, kvs, rfl, hd, tar, ne, fun L H1 wL l1 l5 s1 => ?_⟩
    have D1 := D.same s1
    refine ⟨_, rfl, _, rfl, d, kvs, rfl, s1 _ _ hd, av, ndp, fun sa sg H2 hsa sa2 sl sn sover s2 => ?_⟩
    have nsa : sa ≠ l := D1.ne hsa
    have D2 := D1.same s2
    refine ⟨_, rfl, _, rfl, l, (L : Int), n + 99, rfl, by omega, Int.le_trans (b := 5) (by omega) (by decide +kernel), D2, fun r H3 r0 r1 k3 D3 => ?_⟩
    have e2 := k3 _ _ sa2 nsa
    refine ⟨l, .ref sa, sg, r.toNat, n + 80, by rw [Int.toNat_of_nonneg r0]; rfl, .lst nsa (SqL.of e2), sn, by omega, by omega, D3.le (by omega), fun zs H4 zl zc k4 D4 => ?_⟩
    have lzs : (sOf zs).length = zs.length := sOf_len zs
    refine ⟨_, rfl, l, n + 75, rfl, D4, fun i0 H5 hi0 k5 D5 => ?_⟩
    have kA : Kp l H H5 := (((Kp.of (s1.trans s2)).trans k3).trans k4).trans k5
    generalize hM : (10 ^ 60 : Nat) = M at hi0 k
    have M1 : 1 < M := by rw [← hM]; decide +kernel
    refine ⟨_, rfl, by show 1 ≤ sizeLine; decide, fun lo hlo => ?_⟩
    have nlo : lo ≠ l := D5.ne hlo
    have hlo0 : H lo = none := kp_free kA nlo hlo
    refine ⟨_, rfl, 1, _, rfl, ⟨by omega, by omega, by omega, by omega⟩, ?_⟩
    have eN : ((L : Int) - 1).toNat = L - 1 := by omega
    rw [eN]
    refine for_range (lo := 1) (n := L - 1) (fun i σ H' => ∃ (x5 : Option V) (qs : List Int), σ = [some (.ref l), some (.ref d), some (.int (L : Int)), some (.str (sOf zs)), some (.ref lo), x5, none] ∧ qs.length = i + 1 ∧ (∃ v, qs[0]? = some v ∧ 0 ≤ v) ∧ (∀ x ∈ qs, -1 ≤ x ∧ x.natAbs < M) ∧ (∀ j x, qs[j]? = some x → zs.length < j → x = -1) ∧ H' lo = some (.lst (qs.map V.int)) ∧ Kp l H H' ∧ Dice H' l (n + 75 - 6 * i))
      ⟨_, [if i0 < 0 then -i0 else i0], rfl, rfl, ⟨_, rfl, by split <;> omega⟩, fun x hx => by rw [List.mem_singleton.mp hx]; split <;> omega, fun j x hx hj => by have := (List.getElem?_eq_some_iff.mp hx).1; rw [List.length_singleton] at this; omega, upd_same, kA.new hlo, D5.new hlo⟩ ?_ ?_
    · rintro i σ H6 hi ⟨x5, qs, rfl, q1, q2, q3, q4, f6, k6, D6⟩
      have ei : (1 : Int) + (i : Int) = ((i + 1 : Nat) : Int) := by omega
      rw [ei]
      have nx : ∀ (v : Int) (H7 : Hp) (y5 : Option V), -1 ≤ v → v.natAbs < M → (zs.length < i + 1 → v = -1) → Kp l H6 H7 → Dice H7 l (n + 75 - 6 * (i + 1)) →
          ∃ (x5 : Option V) (qs' : List Int), [some (V.ref l), some (.ref d), some (.int (L : Int)), some (.str (sOf zs)), some (.ref lo), y5, none] = [some (V.ref l), some (.ref d), some (.int (L : Int)), some (.str (sOf zs)), some (.ref lo), x5, none] ∧ qs'.length = i + 1 + 1 ∧ (∃ v, qs'[0]? = some v ∧ 0 ≤ v) ∧ (∀ x ∈ qs', -1 ≤ x ∧ x.natAbs < M) ∧ (∀ j x, qs'[j]? = some x → zs.length < j → x = -1) ∧ (upd H7 lo (.lst (qs.map V.int ++ [V.int v]))) lo = some (.lst (qs'.map V.int)) ∧ Kp l H (upd H7 lo (.lst (qs.map V.int ++ [V.int v]))) ∧ Dice (upd H7 lo (.lst (qs.map V.int ++ [V.int v]))) l (n + 75 - 6 * (i + 1)) := by
        intro v H7 y5 h1 h2 h3 h4 h5
        refine ⟨_, qs ++ [v], rfl, by rw [List.length_append, q1]; rfl, ?_, fun x hx => ?_, fun j x hx hj => ?_, by rw [upd_same, List.map_append]; rfl, (k6.trans h4).mut hlo0, h5.upd nlo⟩
        · obtain ⟨v0, e, e0⟩ := q2
          exact ⟨v0, by rw [List.getElem?_append_left (by omega)]; exact e, e0⟩
        · rcases List.mem_append.mp hx with h | h
          · exact q3 x h
          · rw [List.mem_singleton.mp h]
            exact ⟨h1, h2⟩
        · rcases Nat.lt_or_ge j qs.length with g | g
          · rw [List.getElem?_append_left g] at hx
            exact q4 j x hx hj
          · rw [List.getElem?_append_right g] at hx
            have g2 := (List.getElem?_eq_some_iff.mp hx).1
            rw [List.length_singleton] at g2
            have g3 : j = i + 1 := by omega
            subst g3
            rw [q1, Nat.sub_self] at hx
            rw [← Option.some.inj hx]
            exact h3 hj
      have sm : (qs.map V.int).length < sizeLine := by rw [List.length_map]; exact small1000' (by omega)
      refine ⟨_, rfl, .inl ⟨rfl, _, SqL.of f6⟩, _, rfl, _, rfl, sOf zs, rfl, by rw [lzs]; exact fits_sz (by omega), _, _, rfl, rfl, _, rfl, ?_⟩
      refine itB (fun e => ?_) (fun e => ?_)
      · refine ⟨_, rfl, lo, _, _, rfl, rfl, f6, sm, ?_⟩
        exact nx (-1) H6 _ (by decide) (by omega) (fun _ => rfl) (Kp.refl _ _) (D6.le (by omega))
      · have hle : ¬ (zs.length < i + 1) := fun q => by
          have := of_decide_eq_false e
          rw [lzs] at this
          omega
        refine ⟨_, rfl, l, 3, n + 75 - 6 * i - 1, rfl, by decide, by decide, D6.le (by omega), fun r7 H7 r70 r71 k7 D7 => ⟨rfl, _, rfl, ?_⟩⟩
        have f7 := k7 _ _ f6 nlo
        refine itB (fun e2 => ?_) (fun e2 => ?_)
        · refine ⟨_, rfl, lo, _, _, rfl, rfl, f7, sm, ?_⟩
          exact nx (-1) H7 _ (by decide) (by omega) (fun _ => rfl) k7 (D7.le (by omega))
        · refine ⟨_, rfl, l, n + 75 - 6 * i - 6, rfl, D7.le (by omega), fun i8 H8 hi8 k8 D8 => ?_⟩
          rw [hM] at hi8
          refine ⟨_, rfl, lo, _, _, rfl, rfl, k8 _ _ f7 nlo, sm, ?_⟩
          exact nx (if i8 < 0 then -i8 else i8) H8 _ (by split <;> omega) (by split <;> omega) (fun q => absurd q hle) (k7.trans k8) (D8.le (by omega))
    rintro σ H6 ⟨x5, qs, rfl, q1, q2, q3, q4, f6, k6, D6⟩
    have D6' : Dice H6 l (n + 40) := D6.le (by omega)
    refine ⟨_, rfl, _, rfl, sOf zs, rfl, fun D0 hD0 => ?_⟩
    have ndl : D0 ≠ l := D6.ne hD0
    have hD00 : H D0 = none := kp_free k6 ndl hD0
    have nd0 : lo ≠ D0 := ne_of_none f6 hD0
    refine lc_it (walk_str (z := sOf zs)) (fun j H' => ∃ es : List Int, es.length = j ∧ (∀ x ∈ es, x.natAbs < M) ∧ H' D0 = some (.lst (es.map V.int)) ∧ H' lo = some (.lst (qs.map V.int)) ∧ Kp l H H' ∧ Dice H' l (n + 40 - 5 * j)) ⟨[], rfl, fun x h => (List.not_mem_nil h).elim, upd_same, by rw [upd_ne nd0]; exact f6, k6.new hD0, D6'.new hD0⟩ (fun _ _ _ _ => trivial) ?_ ?_
    · rintro j x H7 H8 hj ⟨es, el, hes, d7, f7, k7, D7⟩ ⟨rfl, c, hc, rfl⟩
      have hj' : j < zs.length := by
        have : (sOf zs).cps.size = zs.length := lzs
        omega
      refine ⟨wipe_set, _, rfl, l, n + 40 - 5 * j - 5, rfl, D7.le (by omega), fun i8 H9 hi8 k8 D8 => ?_⟩
      rw [hM] at hi8
      have d9 := k8 _ _ d7 ndl
      refine ⟨_, d9, by rw [List.length_map]; exact small1000' (by omega), es ++ [i8], by rw [List.length_append, el]; rfl, fun x hx => ?_, by rw [upd_same, List.map_append]; rfl, by rw [upd_ne nd0]; exact k8 _ _ f7 nlo, (k7.trans k8).mut hD00, (D8.le (by omega)).upd ndl⟩
      rcases List.mem_append.mp hx with h | h
      · exact hes x h
      · rw [List.mem_singleton.mp h]
        exact hi8
    rintro H7 ⟨es, el, hes, d7, f7, k7, D7⟩
    have el' : es.length = zs.length := el.trans lzs
    refine ⟨D0, _, rfl, .inl ⟨SqL.of d7, fun td htd => ?_⟩⟩
    refine ⟨by show 2 ≤ sizeLine; decide, fun fr hfr => ?_⟩
    have f8 := same_new hfr (o := .tup [V.str (sOf zs), .ref td]) _ _ (same_new htd (o := .tup (es.map V.int)) _ _ f7)
    refine ⟨_, rfl, lo, _, rfl, .inl ⟨SqL.of f8, fun lt hlt => ?_⟩⟩
    refine ⟨by show 2 ≤ sizeLine; decide, fun a ha => ?_⟩
    have D8 : Dice H7 l n := D7.le (by omega)
    have D9 := ((D8.new htd (o := .tup (es.map V.int))).new hfr (o := .tup [V.str (sOf zs), .ref td])).new hlt (o := .tup (qs.map V.int))
    have k9 := ((k7.new htd (o := .tup (es.map V.int))).new hfr (o := .tup [V.str (sOf zs), .ref td])).new hlt (o := .tup (qs.map V.int))
    have r9 := same_new hlt (o := .tup (qs.map V.int)) _ _ (upd_same (H := upd H7 td (.tup (es.map V.int))) (a := fr) (o := .tup [V.str (sOf zs), .ref td]))
    have t9 := same_new hlt (o := .tup (qs.map V.int)) _ _ (same_new hfr (o := .tup [V.str (sOf zs), .ref td]) _ _ (upd_same (H := H7) (a := td) (o := .tup (es.map V.int))))
    have u9 := (upd_same (H := upd (upd H7 td (.tup (es.map V.int))) fr (.tup [V.str (sOf zs), .ref td])) (a := lt) (o := .tup (qs.map V.int)))
    have ov1 : ∀ c ∈ zs, ∃ p, tfD kvs (ch c) = some p := fun c hc => ((sover c).mp (zc c hc)) c List.mem_cons_self
    refine k L a _ zs es qs (D9.ne ha) ⟨⟨fr, lt, upd_same, ⟨td, same_new ha _ _ r9, same_new ha _ _ t9⟩, same_new ha _ _ u9⟩, wL, ov1, by omega, el', fun c hc => ?_, fun x hx => isI_of (by rw [hM]; exact hes x hx), ?_⟩ hes (fun x hx => (q3 x hx).2) (k9.new ha) (D9.new ha)
    · obtain ⟨p, hp⟩ := ov1 c hc
      obtain ⟨_, al, _, _⟩ := ap_parts av
      exact (keyStrs_piece al (ch c) ((tf_key al).mpr ⟨p, hp⟩)).2.2 c List.mem_cons_self
    · exact ⟨by omega, q2, fun x hx => (q3 x hx).1, fun x hx => isI_of (by rw [hM]; exact (q3 x hx).2), fun x hx => by
        obtain ⟨j, hj⟩ := List.getElem?_of_mem hx
        rw [List.getElem?_drop] at hj
        exact q4 _ x hj (by omega)⟩
theorem sc__law_right : FnScope ["reel", "book", "made", "signs", "text", "piece", "told", "sign", "turn", "value"] ["reel"] (defScope s__law_right) := ⟨rfl, rfl, rfl, by decide +kernel, rfl, by decide +kernel, by decide +kernel⟩
theorem ok__law_right {f : Addr} {fd : FuncData} (F : Fun K "_law_right" "_law_right" s__law_right f fd) (T : Txt K mg C) (c_Book : C8.Mak P w K mg base 5 "Book" C (spBook C K) []) (c__law_drawn_book : Has P w K mg base CX0 4 "_law_drawn_book" ["reel"] (spBookB)) (c__law_signs_of : HasO P w K mg base CX0 1 "_law_signs_of" ["book"] (spSignsB K)) (c__law_drawn_text : Has P w K mg base CX0 3 "_law_drawn_text" ["reel", "signs", "size"] (spLetters K)) (c__law_pick : Has P w K mg base CX0 2 "_law_pick" ["reel", "items"] (spPick K)) (c__law_starting : HasO P w K mg base CX0 1 "_law_starting" ["book", "text"] (spStartB)) (c_beside_of : HasO P w K mg base CX0 6 "beside_of" ["book", "text", "piece"] (spBes C)) (c__law_due_of : Has P w K mg base CX0 4 "_law_due_of" ["book", "text", "piece"] (spDue)) (c_next_beside : HasO P w K mg base CX0 8 "next_beside" ["book", "beside", "sign"] (spStepBes C)) (c__law_wild : Has P w K mg base CX0 4 "_law_wild" ["reel", "book"] (spWild)) (c__law_next : Has P w K mg base CX0 2 "_law_next" ["book", "value", "sign"] (spLawNext)) : FnG P w K mg base CX0 10 f fd ["reel"] (spRight 1000) := by
  refine fn_g0 F sc__law_right (fun vs H Q E h => ?_) (fun cdv A outer s H vs Q E hg hr h => ?_)
  · obtain ⟨l, n, rfl, _⟩ := h
    rfl
  · have hu := hu_of hr
    obtain ⟨l, n, rfl, D, k⟩ := h
    refine ⟨_, (pss_cons (ps_set (i := 1) sc__law_right.nd rfl (Or.inl rfl) (pe_has c__law_drawn_book hg (hr.mono (by decide)) pass0 (pa_cons (pv 0) pa_nil)))
      (pss_cons (ps_par (i := 2) (j := 3) (by rfl) sc__law_right.nd rfl rfl (by decide) rfl rfl (pa_cons (C8.pe_mk c_Book hr (by decide) (by rfl) (pa_cons (pe_callTy (g_dictP K rfl) (by rfl) T.b_dict (by decide +kernel) (pa_cons (LiI.pe_listItems rfl (pv 1) rfl T.b_list (by decide +kernel)) pa_nil)) pa_nil)) (pa_cons (pe_hasO c__law_signs_of (hr.mono (by decide)) pass0 (pa_cons (pv 1) pa_nil)) pa_nil)) (by rfl))
      (pss_cons (ps_set (i := 4) sc__law_right.nd rfl (Or.inl rfl) (pe_has c__law_drawn_text hg (hr.mono (by decide)) pass0 (pa_cons (pv 0) (pa_cons (pv 3) (pa_cons (pe_has c__law_pick hg (hr.mono (by decide)) pass0 (pa_cons (pv 0) (pa_cons (pe_lst (pa_cons pe_int (pa_cons pe_int (pa_cons pe_int (pa_cons pe_int (pa_cons pe_int (pa_cons pe_int (pa_cons pe_int (pa_cons pe_int (pa_cons pe_int pa_nil)))))))))) pa_nil))) pa_nil)))))
      (pss_cons (ps_for PassesOwn.never rfl (g_list K (pe_hasO c__law_starting (hr.mono (by decide)) pass0 (pa_cons (pv 1) (pa_cons (pv 4) pa_nil)))) (pg_name (i := 5) sc__law_right.nd rfl (Or.inl rfl)) (pss_cons (ps_set (i := 6) sc__law_right.nd rfl (Or.inl rfl) (pe_hasO c_beside_of (hr.mono (by decide)) pass0 (pa_cons (pv 2) (pa_cons (pv 4) (pa_cons (pv 5) pa_nil)))))
      (pss_cons (ps_if (pt_cmpR op_ne (pe_callB (g_repr K hg hr.units) (by rfl) T.b_repr (by decide +kernel) (pa_cons (pv 6) pa_nil)) (pe_callB (g_repr K hg hr.units) (by rfl) T.b_repr (by decide +kernel) (pa_cons (pe_has c__law_due_of hg (hr.mono (by decide)) pass0 (pa_cons (pv 1) (pa_cons (pv 4) (pa_cons (pv 5) pa_nil)))) pa_nil)) (nomark _)) (pss_one (ps_ret pe_bl)) pss_nil)
      (pss_one (ps_for PassesOwn.never rfl (g_list K (pv 3)) (pg_name (i := 7) sc__law_right.nd rfl (Or.inl rfl)) (pss_one (ps_if (pt_cmpR op_ne (pe_callB (g_repr K hg hr.units) (by rfl) T.b_repr (by decide +kernel) (pa_cons (pe_hasO c_next_beside (hr.mono (by decide)) pass0 (pa_cons (pv 2) (pa_cons (pv 6) (pa_cons (pv 7) pa_nil)))) pa_nil)) (pe_callB (g_repr K hg hr.units) (by rfl) T.b_repr (by decide +kernel) (pa_cons (pe_has c__law_due_of hg (hr.mono (by decide)) pass0 (pa_cons (pv 1) (pa_cons (pe_op op_add_str (pv 4) (pv 7)) (pa_cons (pv 5) pa_nil)))) pa_nil)) (nomark _)) (pss_one (ps_ret pe_bl)) pss_nil)))))))
      (pss_cons (ps_for PassesOwn.never rfl (pi_range1 (by rfl) T.b_range (pa_cons pe_int pa_nil)) (pg_name (i := 8) sc__law_right.nd rfl (Or.inl rfl)) (pss_cons (ps_par (i := 9) (j := 7) (by rfl) sc__law_right.nd rfl rfl (by decide) rfl rfl (pa_cons (pe_has c__law_wild hg (hr.mono (by decide)) pass0 (pa_cons (pv 0) (pa_cons (pv 1) pa_nil))) (pa_cons (pe_has c__law_pick hg (hr.mono (by decide)) pass0 (pa_cons (pv 0) (pa_cons (pv 3) pa_nil))) pa_nil)) (by rfl))
      (pss_one (ps_if (pt_cmpR op_ne (pe_callB (g_repr K hg hr.units) (by rfl) T.b_repr (by decide +kernel) (pa_cons (pe_hasO c_next_beside (hr.mono (by decide)) pass0 (pa_cons (pv 2) (pa_cons (pv 9) (pa_cons (pv 7) pa_nil)))) pa_nil)) (pe_callB (g_repr K hg hr.units) (by rfl) T.b_repr (by decide +kernel) (pa_cons (pe_has c__law_next hg (hr.mono (by decide)) pass0 (pa_cons (pv 1) (pa_cons (pv 9) (pa_cons (pv 7) pa_nil)))) pa_nil)) (nomark _)) (pss_one (ps_ret pe_bl)) pss_nil))))
      (pss_one (ps_ret pe_bl))))))), ?_⟩
    refine ⟨_, rfl, l, n + 700, rfl, D.le (by omega), fun pd kvs H1 hpd npd e1 av nd k1 D1 => ?_⟩
    have tar := tar_of av nd
    refine ⟨_, rfl, pd, kvs, rfl, e1, fun Hi il ts si hil hts nil hl hp => ?_⟩
    refine ⟨il, ts, kvs, rfl, SqL.of hl, paired_imp (fun a b q => SqT.of q) hp, fun rd hrd => ?_⟩
    rw [merge_nd (kvs := []) (by rw [List.nil_append]; exact nd), List.nil_append]
    have s2 : Same H1 (upd Hi rd (.dK kvs)) := (show Same H1 Hi from si).trans (same_new hrd)
    have r2 : (upd Hi rd (.dK kvs)) rd = some (.dK kvs) := upd_same
    generalize (upd Hi rd (.dK kvs)) = H2 at s2 r2 ⊢
    intro b dx hb hdx hne
    refine made_book hb hdx r2 av nd fun H3 s3 B3 => ⟨rfl, ?_⟩
    have s13 := s2.trans s3
    have kn := (ap_parts av).1
    have al := (ap_parts av).2.1
    have ne : kvs ≠ [] := fun e => by
      rw [e] at kn
      simp at kn
    have D3 := D1.same s13
    have k3 := k1.trans (.of s13)
    have e3 := s13 _ _ e1
    clear hp hl nil hts hil si
    refine ⟨_, rfl, pd, kvs, rfl, e3, av, nd, fun sa sg H4 hsa sa4 sl sn sover s4 => ?_⟩
    have nsa : sa ≠ l := D3.ne hsa
    have good := tar.good
    have slt : ∀ c ∈ sg, lett c = true := fun c hc => by
      obtain ⟨p, hp⟩ := ((sover c).mp hc) c List.mem_cons_self
      exact (keyStrs_piece al (ch c) ((tf_key al).mpr ⟨p, hp⟩)).2.2 c List.mem_cons_self
    have D4 := D3.same s4
    have k4 := k3.trans (.of s4)
    have e4 := s4 _ _ e3
    have B4 := B3.same s4
    refine ⟨_, _, rfl, ?_⟩
    -- the text
    refine ⟨_, rfl, _, rfl, _, rfl, by show 9 ≤ sizeLine; decide, fun m1 w1 => ?_⟩
    refine ⟨l, .ref m1, _, n + 699, rfl, .lst (D4.ne w1) (SqL.of upd_same), by simp, by simp, (D4.new w1).le (by omega), fun y H5 hy k5 D5 => ?_⟩
    obtain ⟨sz, rfl, sz30⟩ : ∃ sz : Nat, y = .int (sz : Int) ∧ sz ≤ 30 := by
      simp only [List.mem_cons, List.not_mem_nil, or_false] at hy
      rcases hy with h | h | h | h | h | h | h | h | h
      · exact ⟨4, h, by decide⟩
      · exact ⟨0, h, by decide⟩
      · exact ⟨1, h, by decide⟩
      · exact ⟨2, h, by decide⟩
      · exact ⟨3, h, by decide⟩
      · exact ⟨5, h, by decide⟩
      · exact ⟨7, h, by decide⟩
      · exact ⟨9, h, by decide⟩
      · exact ⟨30, h, by decide⟩
    have k45 : Kp l H4 H5 := (Kp.of (same_new w1)).trans k5
    have sa5 := k45 _ _ sa4 nsa
    refine ⟨l, .ref sa, sg, sz, n + 660, rfl, .lst nsa (SqL.of sa5), sn, by omega, by omega, D5.le (by omega), fun zs H6 zl zc k6 D6 => ?_⟩
    have k46 := k45.trans k6
    have sa6 := k46 _ _ sa4 nsa
    have e6 := k46 _ _ e4 npd
    have B6 := B4.kp D4 k46
    have kA := k4.trans k46
    have ov1 : ∀ c ∈ sg, Over (tfD kvs) [c] := fun c hc => (sover c).mp hc
    have ov : Over (tfD kvs) zs := fun c hc => ov1 c (zc c hc) c List.mem_cons_self
    have zle : ∀ c ∈ zs, lett c = true := fun c hc => slt c (zc c hc)
    -- the pieces with which it begins
    refine ⟨_, rfl, _, rfl, pd, kvs, zs, rfl, e6, tar, kn.2, by omega, fun st ps H7 hst st7 psl pmem s7 => ?_⟩
    refine ⟨st, rfl, ⟨_, SqL.of st7⟩, for_list (K := K) (xs := ps.map V.str) (fun j σ H' => ∃ x5 x6 x7, σ = [some (.ref l), some (.ref pd), some (.ref b), some (.ref sa), some (.str (sOf zs)), x5, x6, x7, none, none] ∧ Same H7 H')
      ⟨_, _, _, rfl, Same.refl _⟩ (fun j σ H' _ q => by obtain ⟨_, _, _, _, q⟩ := q; exact SqL.of (q _ _ st7)) ?_ ?_⟩
    · rintro j x σ H8 hx ⟨x5, x6, x7, rfl, s8⟩
      rw [List.getElem?_map] at hx
      obtain ⟨z, hzm, rfl⟩ := Option.map_eq_some_iff.mp hx
      obtain ⟨⟨p, hz⟩, r, ht⟩ := pmem z (List.mem_of_getElem? hzm)
      have s68 := s7.trans s8
      refine ⟨_, rfl, _, rfl, _, rfl, b, kvs, zs, z, p, r, rfl, B6.same s68, ov, by omega, zle, hz, ht, fun L ta H9 wL ba s9 => ?_⟩
      have l15 : 1 ≤ L ∧ L ≤ 5 := by
        obtain ⟨⟨z, p, h1, h2⟩, _⟩ := wL
        have := good.len z p h1
        omega
      have sh := shw_told good l15.1 l15.2 ov hz ht (by omega) zle
      have s69 := s68.trans s9
      refine ⟨_, rfl, ?_⟩
      dsimp only [tNil]
      refine repr_shw (dp_bes ba) sh (by decide) (by decide) ?_
      refine ⟨_, rfl, _, rfl, _, rfl, pd, kvs, zs, z, p, r, rfl, s69 _ _ e6, tar, ne, ov, by omega, hz, ht, fun L2 tb H10 wL2 _ _ bb s10 => ?_⟩
      have eL := wL2.uniq wL
      subst eL
      dsimp only [tNil]
      refine repr_shw (dp_bes bb) sh (by decide) (by decide) ?_
      refine ⟨rfl, false, ne_self, ?_⟩
      refine itF rfl ?_
      have s6A := s69.trans s10
      refine ⟨_, rfl, sa, rfl, ⟨_, SqL.of (s6A _ _ sa6)⟩, for_list (K := K) (xs := sg.map chV) (fun j' σ H' => ∃ x7, σ = [some (.ref l), some (.ref pd), some (.ref b), some (.ref sa), some (.str (sOf zs)), some (.str z), some (.ref ta), x7, none, none] ∧ Same H10 H')
        ⟨_, rfl, Same.refl _⟩ (fun j σ H' _ q => by obtain ⟨_, _, q⟩ := q; exact SqL.of (q _ _ (s6A _ _ sa6))) ?_ ?_⟩
      · rintro j' x σ H11 hx ⟨x7, rfl, s11⟩
        rw [List.getElem?_map] at hx
        obtain ⟨c, hcm, rfl⟩ := Option.map_eq_some_iff.mp hx
        have cm := List.mem_of_getElem? hcm
        have s6B := s6A.trans s11
        have s9B := s10.trans s11
        have ovc : Over (tfD kvs) (zs ++ [c]) := fun d hd => (List.mem_append.mp hd).elim (ov d) (fun h => ov1 c cm d h)
        have ltc : ∀ d ∈ zs ++ [c], lett d = true := fun d hd => (List.mem_append.mp hd).elim (zle d) (fun h => by rw [List.mem_singleton.mp h]; exact slt c cm)
        have htc : zs ++ [c] = cs z ++ (r ++ [c]) := by rw [ht, List.append_assoc]
        have lnc : (zs ++ [c]).length ≤ 1000 := by rw [List.length_append, List.length_singleton]; omega
        have shc := shw_told good l15.1 l15.2 ovc hz htc lnc ltc
        refine ⟨_, rfl, _, rfl, _, rfl, b, ta, kvs, _, _, _, c, L2, rfl, B6.same s6B, (arg_told good wL l15.1 ov hz ht (by omega) zle ba).same s9B, ov1 c cm, slt c cm, fun t n' m H12 st bt bc s12 => ?_⟩
        have bd := told_next good wL l15.1 ovc hz ht st bt bc
        dsimp only [tNil]
        refine repr_shw (dp_bes bd) shc (by decide) (by decide) ?_
        refine ⟨_, rfl, _, rfl, _, rfl, sOf zs, ch c, rfl, rfl, by rw [sOf_len]; exact fits_sz (by show zs.length + 1 ≤ 100000; omega), ?_⟩
        rw [show sOf zs ++ ch c = sOf (zs ++ [c]) from str_ext (by rw [cs_app, cs_sOf, cs_sOf])]
        refine ⟨_, rfl, pd, kvs, zs ++ [c], z, p, r ++ [c], rfl, (s6B.trans s12) _ _ e6, tar, ne, ovc, lnc, hz, htc, fun L3 td H13 wL3 _ _ be s13 => ?_⟩
        have eL := wL.uniq wL3
        subst eL
        dsimp only [tNil]
        refine repr_shw (dp_bes be) shc (by decide) (by decide) ?_
        refine ⟨rfl, false, ne_self, ?_⟩
        refine itF rfl ?_
        exact ⟨_, rfl, s11.trans (s12.trans s13)⟩
      rintro σ H11 ⟨x7, rfl, s11⟩
      exact ⟨_, _, _, rfl, (s8.trans s9).trans (s10.trans s11)⟩
    rintro σ H8 ⟨x5, x6, x7, rfl, s8⟩
    have s68 := s7.trans s8
    have k68 : Kp l H6 H8 := .of s68
    refine ⟨4, rfl, by decide, by decide, ?_⟩
    refine for_range (lo := 0) (n := 4) (fun i σ H' => ∃ x7 x8 x9, σ = [some (.ref l), some (.ref pd), some (.ref b), some (.ref sa), some (.str (sOf zs)), x5, x6, x7, x8, x9] ∧ Kp l H H' ∧ Kp l H6 H' ∧ Dice H' l (n + 600 - 110 * i))
      ⟨_, _, _, rfl, kA.trans k68, k68, (D6.same s68).le (by omega)⟩ ?_ ?_
    · rintro i σ H9 hi ⟨x7, x8, x9, rfl, kH, k69, D9⟩
      refine ⟨_, rfl, _, rfl, l, pd, kvs, n + 600 - 110 * i - 101, rfl, npd, k69 _ _ e6 npd, av, nd, D9.le (by omega), fun L s H10 w ds ls ns BA hds hls k10 D10 => ?_⟩
      refine ⟨_, rfl, _, rfl, l, .ref sa, sg.map chV, n + 600 - 110 * (i + 1), rfl, .lst nsa (SqL.of ((k69.trans k10) _ _ sa6 nsa)), by simpa using sn, by rw [List.length_map]; omega, D10.le (by omega), fun y H11 hy k11 D11 => ?_⟩
      obtain ⟨c, cm, rfl⟩ := List.mem_map.mp hy
      refine ⟨_, _, rfl, ?_⟩
      have kB := (k69.trans k10).trans k11
      have BB := BA.kp D10 k11
      have l15 : 1 ≤ L ∧ L ≤ 5 := by
        obtain ⟨⟨z, p, h1, h2⟩, _⟩ := BA.wd
        have := good.len z p h1
        omega
      refine ⟨_, rfl, _, rfl, _, rfl, b, s, kvs, w, ds, ls, c, L, rfl, B6.kp D6 kB, BB, ov1 c cm, slt c cm, fun t n' m H12 st bt bc s12 => ?_⟩
      have sh := shw_wild good l15.2 l15.1 BA (slt c cm) st bt hds hls
      dsimp only [tNil]
      refine repr_shw (dp_bes bc) sh (by decide) (by decide) ?_
      refine ⟨_, rfl, _, rfl, _, rfl, pd, s, kvs, w, ds, ls, c, L, rfl, s12 _ _ (kB _ _ e6 npd), tar, ne, BB.same s12, ov1 c cm, fun t2 n2 m2 H13 st2 bt2 bd s13 => ?_⟩
      have en := st.uniq st2
      have em := bt.uniq bt2
      subst en em
      dsimp only [tNil]
      refine repr_shw (dp_bes bd) sh (by decide) (by decide) ?_
      refine ⟨rfl, false, ne_self, ?_⟩
      refine itF rfl ?_
      have kS := (k10.trans k11).trans (.of (s12.trans s13))
      exact ⟨_, _, _, rfl, kH.trans kS, k69.trans kS, D11.same (s12.trans s13)⟩
    rintro σ H9 ⟨x7, x8, x9, rfl, kH, k69, D9⟩
    exact k _ kH (D9.le (by omega))
theorem sc_law : FnScope ["script", "spot", "reel", "abba", "lone", "first"] ["script"] (defScope s_law) := ⟨rfl, rfl, rfl, by decide +kernel, rfl, by decide +kernel, by decide +kernel⟩
theorem ok_law {f : Addr} {fd : FuncData} (F : Fun K "law" "law" s_law f fd) (T : Txt K mg C) (c_Book : C8.Mak P w K mg base 5 "Book" C (spBook C K) []) (c__law_reel_of : Has P w K mg base CX0 1 "_law_reel_of" ["script", "spot"] (spDice K)) (c__law_right : Has P w K mg base CX0 10 "_law_right" ["reel"] (spRight 1000)) (c_beside_of : HasO P w K mg base CX0 6 "beside_of" ["book", "text", "piece"] (spBes C)) (c_next_beside : HasO P w K mg base CX0 8 "next_beside" ["book", "beside", "sign"] (spStepBes C)) : FnG P w K mg base CX0 12 f fd ["script"] (spLaw K) := by
  refine fn_g0 F sc_law (fun vs H Q E h => ?_) (fun cdv A outer s H vs Q E hg hr h => ?_)
  · obtain ⟨a, ns, rfl, _⟩ := h
    rfl
  · have hu := hu_of hr
    obtain ⟨a, ns, rfl, hS, hn, k⟩ := h
    refine ⟨_, (pss_cons (ps_for PassesOwn.never rfl (pi_range1 (by rfl) T.b_range (pa_cons (pe_callB (call_max2 rfl) (by rfl) T.b_max (by decide +kernel) (pa_cons pe_int (pa_cons (pe_callB (call_min2 rfl) (by rfl) T.b_min (by decide +kernel) (pa_cons pe_int (pa_cons (pe_callB (g_len_seq K) (by rfl) T.b_len (by decide +kernel) (pa_cons (pv 0) pa_nil)) pa_nil))) pa_nil))) pa_nil)) (pg_name (i := 1) sc_law.nd rfl (Or.inl rfl)) (pss_cons (ps_set (i := 2) sc_law.nd rfl (Or.inl rfl) (pe_has c__law_reel_of hg (hr.mono (by decide)) pass0 (pa_cons (pv 0) (pa_cons (pv 1) pa_nil))))
      (pss_one (ps_if (pt_not (pt_val (pe_has c__law_right hg (hr.mono (by decide)) pass0 (pa_cons (pv 2) pa_nil)))) (pss_one (ps_ret pe_bl)) pss_nil))))
      (pss_cons (ps_par (i := 3) (j := 4) (by rfl) sc_law.nd rfl rfl (by decide) rfl rfl (pa_cons (C8.pe_mk c_Book hr (by decide) (by rfl) (pa_cons (pe_disp (pps_cons pe_str pe_int (pps_cons pe_str pe_int (pps_cons pe_str pe_int (pps_cons pe_str pe_int pps_nil)))) (by rfl) (by rfl) (fun z => by cases z) (by decide)) pa_nil)) (pa_cons (C8.pe_mk c_Book hr (by decide) (by rfl) (pa_cons (pe_disp (pps_cons pe_str pe_int pps_nil) (by rfl) (by rfl) (fun z => by cases z) (by decide)) pa_nil)) pa_nil)) (by rfl))
      (pss_cons (ps_if (pt_cmpR (g_neD K hr.units) (pe_hasO c_beside_of (hr.mono (by decide)) pass0 (pa_cons (pv 3) (pa_cons pe_str (pa_cons pe_str pa_nil)))) (pe_tup (pa_cons (pe_tup (pa_cons pe_str (pa_cons (pe_tup (pa_cons pe_int (pa_cons (pe_un un_neg pe_int) pa_nil))) pa_nil))) (pa_cons (pe_tup (pa_cons pe_int (pa_cons pe_int (pa_cons pe_int pa_nil)))) pa_nil))) (nomark _)) (pss_one (ps_ret pe_bl)) pss_nil)
      (pss_cons (ps_if (pt_cmpR (g_neD K hr.units) (pe_hasO c_beside_of (hr.mono (by decide)) pass0 (pa_cons (pv 4) (pa_cons pe_str (pa_cons pe_str pa_nil)))) (pe_tup (pa_cons (pe_tup (pa_cons pe_str (pa_cons (pe_tup pa_nil) pa_nil))) (pa_cons (pe_tup (pa_cons pe_int pa_nil)) pa_nil))) (nomark _)) (pss_one (ps_ret pe_bl)) pss_nil)
      (pss_cons (ps_set (i := 5) sc_law.nd rfl (Or.inl rfl) (pe_hasO c_beside_of (hr.mono (by decide)) pass0 (pa_cons (pv 3) (pa_cons pe_str (pa_cons pe_str pa_nil)))))
      (pss_one (ps_ret (pe_and (pe_cmpR (g_eqD K hr.units) (pv 5) (pe_tup (pa_cons (pe_tup (pa_cons pe_str (pa_cons (pe_tup (pa_cons (pe_un un_neg pe_int) pa_nil)) pa_nil))) (pa_cons (pe_tup (pa_cons pe_int (pa_cons (pe_un un_neg pe_int) (pa_cons (pe_un un_neg pe_int) pa_nil)))) pa_nil))) (nomark _)) (pe_one (pe_cmpR (g_eqD K hr.units) (pe_hasO c_next_beside (hr.mono (by decide)) pass0 (pa_cons (pv 3) (pa_cons (pv 5) (pa_cons pe_str pa_nil)))) (pe_tup (pa_cons (pe_tup (pa_cons pe_str (pa_cons (pe_tup (pa_cons (pe_un un_neg pe_int) (pa_cons (pe_un un_neg pe_int) pa_nil))) pa_nil))) (pa_cons (pe_tup (pa_cons pe_int (pa_cons pe_int (pa_cons (pe_un un_neg pe_int) pa_nil)))) pa_nil))) (nomark _))))))))))), ?_⟩
    obtain ⟨J, hJ, j1, j8⟩ : ∃ J : Int, (if (if ((ns.map V.int).length : Int) < 6 then ((ns.map V.int).length : Int) else 6) > 1 then (if ((ns.map V.int).length : Int) < 6 then ((ns.map V.int).length : Int) else 6) else 1) = J ∧ 1 ≤ J ∧ J ≤ 6 := ⟨_, rfl, cells_bound (n := (ns.map V.int).length) (m := 6) (by decide)⟩
    refine ⟨_, rfl, _, _, rfl, .inl hS, _, _, rfl, _, _, rfl, J, congrArg (fun i => [V.int i]) hJ, by omega, by omega, for_range (lo := 0) (n := J.toNat) (fun i σ H' => ∃ v u, σ = [some (.ref a), v, u, none, none, none] ∧ Same H H') ⟨_, _, rfl, Same.refl H⟩ ?_ ?_⟩
    · rintro i σ H1 hi ⟨v, u, rfl, s1⟩
      refine ⟨_, rfl, _, rfl, a, ns, _, rfl, s1.seq hS, hn, by omega, by omega, fun l H2 hl s2 D2 => ?_⟩
      have fl : H l = none := s1.free hl
      refine ⟨_, rfl, l, 2 ^ 60 - 1000, rfl, D2.le (by omega), fun H4 kp4 D4 => ⟨true, rfl, ?_⟩⟩
      refine itF rfl ?_
      exact ⟨_, _, rfl, kp4.sameOf (s1.trans s2) fl⟩
    rintro σ H1 ⟨v, u, rfl, s1⟩
    simp only [litB.1, litB.2.1, litB.2.2.1, litB.2.2.2.1, litB.2.2.2.2.1, litB.2.2.2.2.2.1, litB.2.2.2.2.2.2.1, litB.2.2.2.2.2.2.2.1, litB.2.2.2.2.2.2.2.2.1, litB.2.2.2.2.2.2.2.2.2]
    refine fun pa hpa => ⟨upd_same, abbaK, rfl, by decide, ?_⟩
    have e2 : (upd (upd H1 pa (.dK [])) pa (.dK (mergeK [] abbaK))) pa = some (.dK abbaK) := upd_same
    have s2 : Same H1 (upd (upd H1 pa (.dK [])) pa (.dK (mergeK [] abbaK))) := same_mut (same_new hpa) hpa
    generalize (upd (upd H1 pa (.dK [])) pa (.dK (mergeK [] abbaK))) = H2 at e2 s2 ⊢
    intro b dx hb hdx hne
    refine made_book hb hdx e2 abba_av abba_nd fun H3 s3 B3 => ⟨rfl, ?_⟩
    refine fun pq hpq => ⟨upd_same, loneK, rfl, by decide, ?_⟩
    have e4 : (upd (upd H3 pq (.dK [])) pq (.dK (mergeK [] loneK))) pq = some (.dK loneK) := upd_same
    have s4 : Same H3 (upd (upd H3 pq (.dK [])) pq (.dK (mergeK [] loneK))) := same_mut (same_new hpq) hpq
    generalize (upd (upd H3 pq (.dK [])) pq (.dK (mergeK [] loneK))) = H4 at e4 s4 ⊢
    intro q dq hq hdq hneq
    refine made_book hq hdq e4 lone_av lone_nd fun H5 s5 B5 => ⟨rfl, ?_⟩
    refine ⟨_, _, rfl, ?_⟩
    have B35 := (B3.same s4).same s5
    refine ⟨_, rfl, b, abbaK, [97, 98, 98, 97], sOf [97, 98], 1, [98, 97], rfl, B35, o_abba, by decide, letters_B.1, ab_tf, by rw [cs_sOf]; rfl, fun L t1 H6 wL ba s6 => ?_⟩
    have ba := bes1 wL ba
    refine ⟨_, rfl, by show 2 ≤ sizeLine; decide, fun u1 hu1 => ⟨by show 2 ≤ sizeLine; decide, fun v1 hv1 => ⟨by show 3 ≤ sizeLine; decide, fun w1 hw1 => ⟨by show 2 ≤ sizeLine; decide, fun x1 hx1 => ?_⟩⟩⟩⟩
    obtain ⟨b1, t1s⟩ := bes_made (l := [98, 97]) (ds := [0, -1]) (ls := [1, 0, 0]) hu1 hv1 hw1 hx1 rfl rfl
    generalize (upd _ x1 _) = H7 at b1 t1s ⊢
    refine rNeD_same (dp_bes (ba.same t1s)) (dp_bes b1) shapedB.1 ⟨false, rfl, ?_⟩
    refine itF rfl ?_
    have B7 := (B35.same s6).same t1s
    have C7 := (B5.same s6).same t1s
    refine ⟨_, rfl, q, loneK, [113, 113], sOf [113], 7, [113], rfl, C7, o_qq, by decide, letters_B.2.1, q_tf, by rw [cs_sOf]; rfl, fun L2 t2 H8 wL2 bq s8 => ?_⟩
    have bq := bes2 wL2 bq
    refine ⟨by show 0 ≤ sizeLine; decide, fun u2 hu2 => ⟨by show 2 ≤ sizeLine; decide, fun v2 hv2 => ⟨by show 1 ≤ sizeLine; decide, fun w2 hw2 => ⟨by show 2 ≤ sizeLine; decide, fun x2 hx2 => ?_⟩⟩⟩⟩
    obtain ⟨b2, t2s⟩ := bes_made (l := []) (ds := []) (ls := [0]) hu2 hv2 hw2 hx2 rfl rfl
    generalize (upd _ x2 _) = H9 at b2 t2s ⊢
    refine rNeD_same (dp_bes (bq.same t2s)) (dp_bes b2) shapedB.2.1 ⟨false, rfl, ?_⟩
    refine itF rfl ?_
    have B9 := (B7.same s8).same t2s
    refine ⟨_, rfl, b, abbaK, [98], sOf [98], 1, [], rfl, B9, o_b, by decide, letters_B.2.2, b_tf, by rw [cs_sOf]; rfl, fun L3 t3 H10 wL3 bf s10 => ?_⟩
    have eL := wL3.uniq abba_wd
    subst eL
    have bg := bes3 wL3 bf
    refine ⟨_, rfl, ?_⟩
    refine ⟨_, rfl, by show 1 ≤ sizeLine; decide, fun u3 hu3 => ⟨by show 2 ≤ sizeLine; decide, fun v3 hv3 => ⟨_, rfl, _, rfl, by show 3 ≤ sizeLine; decide, fun w3 hw3 => ⟨by show 2 ≤ sizeLine; decide, fun x3 hx3 => ?_⟩⟩⟩⟩
    obtain ⟨b3, t3s⟩ := bes_made (l := [98]) (ds := [-1]) (ls := [0, -1, -1]) hu3 hv3 hw3 hx3 rfl rfl
    generalize (upd _ x3 _) = H11 at b3 t3s ⊢
    refine rEqD_same (dp_bes (bg.same t3s)) (dp_bes b3) shapedB.2.2.1 ⟨true, rfl, ?_⟩
    refine itT rfl ?_
    have B11 := (B9.same s10).same t3s
    refine ⟨_, rfl, _, rfl, b, t3, abbaK, _, _, _, 98, 3, rfl, B11, (arg_told abba_good abba_wd (by decide) o_b b_tf (show [98] = cs (sOf [98]) ++ [] by rw [cs_sOf]; rfl) (by decide) letters_B.2.2 (bf.same t3s)), o_b, rfl, fun t4 n4 m4 H12 st bt b4 s12 => ?_⟩
    have b4 := bes4 abba_wd (told_next abba_good abba_wd (by decide) (t := [98]) (r := []) o_bb b_tf (by rw [cs_sOf]; rfl) st bt b4)
    refine ⟨_, rfl, _, rfl, by show 2 ≤ sizeLine; decide, fun u4 hu4 => ⟨by show 2 ≤ sizeLine; decide, fun v4 hv4 => ⟨_, rfl, by show 3 ≤ sizeLine; decide, fun w4 hw4 => ⟨by show 2 ≤ sizeLine; decide, fun x4 hx4 => ?_⟩⟩⟩⟩
    obtain ⟨b5, t4s⟩ := bes_made (l := [98, 98]) (ds := [-1, -2]) (ls := [0, 0, -1]) hu4 hv4 hw4 hx4 rfl rfl
    generalize (upd _ x4 _) = H13 at b5 t4s ⊢
    refine rEqD_same (dp_bes (b4.same t4s)) (dp_bes b5) shapedB.2.2.2 ?_
    exact k _
end
theorem all_mk {l : PySem.W.OpenLaw} {w : World} {K : PySem.W.Frag} {h : Heap} {mg : Str → Option Value} {fa : Addr} {C : Addr} (X : K.In h) (G0 : h.Ns mainGlobals mg) (hfa : mg "law" = some (.ref fa))
    {f0 f1 f2 f3 f4 f5 f6 f7 f8 f9 f10 f11 f12 f13 f14 f15 f16 f17 f18 f19 f20 f21 f22 f23 f24 f25 f26 f27 f28 f29 f30 f31 f32 f33 f34 f35 f36 f37 f38 f39 f40 f41 f42 : Addr}
    {od0 an0 : Option Addr} {sl0 : Array (Option Value)} {oc0 kV0 dc0 pm0 cd0 ct0 : Value}
    {od1 an1 : Option Addr} {sl1 : Array (Option Value)} {oc1 kV1 dc1 pm1 cd1 ct1 : Value}
    {od2 an2 : Option Addr} {sl2 : Array (Option Value)} {oc2 kV2 dc2 pm2 cd2 ct2 : Value}
    {od3 an3 : Option Addr} {sl3 : Array (Option Value)} {oc3 kV3 dc3 pm3 cd3 ct3 : Value}
    {od4 an4 : Option Addr} {sl4 : Array (Option Value)} {oc4 kV4 dc4 pm4 cd4 ct4 : Value}
    {od5 an5 : Option Addr} {sl5 : Array (Option Value)} {oc5 kV5 dc5 pm5 cd5 ct5 : Value}
    {od6 an6 : Option Addr} {sl6 : Array (Option Value)} {oc6 kV6 dc6 pm6 cd6 ct6 : Value}
    {od7 an7 : Option Addr} {sl7 : Array (Option Value)} {oc7 kV7 dc7 pm7 cd7 ct7 : Value}
    {od8 an8 : Option Addr} {sl8 : Array (Option Value)} {oc8 kV8 dc8 pm8 cd8 ct8 : Value}
    {od9 an9 : Option Addr} {sl9 : Array (Option Value)} {oc9 kV9 dc9 pm9 cd9 ct9 : Value}
    {od10 an10 : Option Addr} {sl10 : Array (Option Value)} {oc10 kV10 dc10 pm10 cd10 ct10 : Value}
    {od11 an11 : Option Addr} {sl11 : Array (Option Value)} {oc11 kV11 dc11 pm11 cd11 ct11 : Value}
    {od12 an12 : Option Addr} {sl12 : Array (Option Value)} {oc12 kV12 dc12 pm12 cd12 ct12 : Value}
    {od13 an13 : Option Addr} {sl13 : Array (Option Value)} {oc13 kV13 dc13 pm13 cd13 ct13 : Value}
    {od14 an14 : Option Addr} {sl14 : Array (Option Value)} {oc14 kV14 dc14 pm14 cd14 ct14 : Value}
    {od15 an15 : Option Addr} {sl15 : Array (Option Value)} {oc15 kV15 dc15 pm15 cd15 ct15 : Value}
    {od16 an16 : Option Addr} {sl16 : Array (Option Value)} {oc16 kV16 dc16 pm16 cd16 ct16 : Value}
    {od17 an17 : Option Addr} {sl17 : Array (Option Value)} {oc17 kV17 dc17 pm17 cd17 ct17 : Value}
    {od18 an18 : Option Addr} {sl18 : Array (Option Value)} {oc18 kV18 dc18 pm18 cd18 ct18 : Value}
    {od19 an19 : Option Addr} {sl19 : Array (Option Value)} {oc19 kV19 dc19 pm19 cd19 ct19 : Value}
    {od20 an20 : Option Addr} {sl20 : Array (Option Value)} {oc20 kV20 dc20 pm20 cd20 ct20 : Value}
    {od21 an21 : Option Addr} {sl21 : Array (Option Value)} {oc21 kV21 dc21 pm21 cd21 ct21 : Value}
    {od22 an22 : Option Addr} {sl22 : Array (Option Value)} {oc22 kV22 dc22 pm22 cd22 ct22 : Value}
    {od23 an23 : Option Addr} {sl23 : Array (Option Value)} {oc23 kV23 dc23 pm23 cd23 ct23 : Value}
    {od24 an24 : Option Addr} {sl24 : Array (Option Value)} {oc24 kV24 dc24 pm24 cd24 ct24 : Value}
    {od25 an25 : Option Addr} {sl25 : Array (Option Value)} {oc25 kV25 dc25 pm25 cd25 ct25 : Value}
    {od26 an26 : Option Addr} {sl26 : Array (Option Value)} {oc26 kV26 dc26 pm26 cd26 ct26 : Value}
    {od27 an27 : Option Addr} {sl27 : Array (Option Value)} {oc27 kV27 dc27 pm27 cd27 ct27 : Value}
    {od28 an28 : Option Addr} {sl28 : Array (Option Value)} {oc28 kV28 dc28 pm28 cd28 ct28 : Value}
    {od29 an29 : Option Addr} {sl29 : Array (Option Value)} {oc29 kV29 dc29 pm29 cd29 ct29 : Value}
    {od30 an30 : Option Addr} {sl30 : Array (Option Value)} {oc30 kV30 dc30 pm30 cd30 ct30 : Value}
    {od31 an31 : Option Addr} {sl31 : Array (Option Value)} {oc31 kV31 dc31 pm31 cd31 ct31 : Value}
    {od32 an32 : Option Addr} {sl32 : Array (Option Value)} {oc32 kV32 dc32 pm32 cd32 ct32 : Value}
    {od33 an33 : Option Addr} {sl33 : Array (Option Value)} {oc33 kV33 dc33 pm33 cd33 ct33 : Value}
    {od34 an34 : Option Addr} {sl34 : Array (Option Value)} {oc34 kV34 dc34 pm34 cd34 ct34 : Value}
    {od35 an35 : Option Addr} {sl35 : Array (Option Value)} {oc35 kV35 dc35 pm35 cd35 ct35 : Value}
    {od36 an36 : Option Addr} {sl36 : Array (Option Value)} {oc36 kV36 dc36 pm36 cd36 ct36 : Value}
    {od37 an37 : Option Addr} {sl37 : Array (Option Value)} {oc37 kV37 dc37 pm37 cd37 ct37 : Value}
    {od38 an38 : Option Addr} {sl38 : Array (Option Value)} {oc38 kV38 dc38 pm38 cd38 ct38 : Value}
    {od39 an39 : Option Addr} {sl39 : Array (Option Value)} {oc39 kV39 dc39 pm39 cd39 ct39 : Value}
    {od40 an40 : Option Addr} {sl40 : Array (Option Value)} {oc40 kV40 dc40 pm40 cd40 ct40 : Value}
    {od41 an41 : Option Addr} {sl41 : Array (Option Value)} {oc41 kV41 dc41 pm41 cd41 ct41 : Value}
    {od42 an42 : Option Addr} {sl42 : Array (Option Value)} {oc42 kV42 dc42 pm42 cd42 ct42 : Value}
    (aC : PySem.W.nsIn K mainGlobals "Book" = some (some (.ref C))) (pg : PySem.W.plainGet K C Str.empty = true) (hd : PySem.W.hasDictIn K C = true) (po : PySem.W.plainOver K C = true) (sa : PySem.W.findIn K (.ref C) "__setattr__" = some (some (.builtin "object.__setattr__"))) (mk : PySem.W.makesIn K C = true) (kc : PySem.W.keepIn K (.ref C) = true)
    (iha : PySem.W.findIn K (.ref C) "__class__" = some (some (.builtin "object.__class__"))) (ihn : PySem.W.specialIn K (.builtin "object.__class__") "__get__" = some (some (.builtin "getset_descriptor.__get__"))) (iht : PySem.W.takesIn K (.builtin "object.__class__") = some true) (ihm : PySem.W.mroIn K C (.type "object") = some true)
    (n_own_prices : PySem.W.findIn K (.ref C) "own_prices" = some none)
    (n_own_pieces : PySem.W.findIn K (.ref C) "own_pieces" = some none)
    (n_own_alphabet : PySem.W.findIn K (.ref C) "own_alphabet" = some none)
    (n_own_longest : PySem.W.findIn K (.ref C) "own_longest" = some none)
    (n_own_dearest : PySem.W.findIn K (.ref C) "own_dearest" = some none)
    (a0 : PySem.W.nsIn K mainGlobals "is_integer" = some (some (.ref f0)))
    (l0 : K.lookup f0 = some ⟨oc0, od0, .func (PySem.W.fnOf "is_integer" "is_integer" (defArgs s_is_integer) (defBody s_is_integer) (defScope s_is_integer) .none kV0 dc0 pm0 an0 cd0 ct0), sl0⟩) (c0 : PySem.W.codeIn K cd0 "is_integer" = true) (k0 : PySem.W.keepIn K (.ref f0) = true)
    (a1 : PySem.W.nsIn K mainGlobals "is_word" = some (some (.ref f1)))
    (l1 : K.lookup f1 = some ⟨oc1, od1, .func (PySem.W.fnOf "is_word" "is_word" (defArgs s_is_word) (defBody s_is_word) (defScope s_is_word) .none kV1 dc1 pm1 an1 cd1 ct1), sl1⟩) (c1 : PySem.W.codeIn K cd1 "is_word" = true) (k1 : PySem.W.keepIn K (.ref f1) = true)
    (a2 : PySem.W.nsIn K mainGlobals "is_text" = some (some (.ref f2)))
    (l2 : K.lookup f2 = some ⟨oc2, od2, .func (PySem.W.fnOf "is_text" "is_text" (defArgs s_is_text) (defBody s_is_text) (defScope s_is_text) .none kV2 dc2 pm2 an2 cd2 ct2), sl2⟩) (c2 : PySem.W.codeIn K cd2 "is_text" = true) (k2 : PySem.W.keepIn K (.ref f2) = true)
    (a3 : PySem.W.nsIn K mainGlobals "is_piece" = some (some (.ref f3)))
    (l3 : K.lookup f3 = some ⟨oc3, od3, .func (PySem.W.fnOf "is_piece" "is_piece" (defArgs s_is_piece) (defBody s_is_piece) (defScope s_is_piece) .none kV3 dc3 pm3 an3 cd3 ct3), sl3⟩) (c3 : PySem.W.codeIn K cd3 "is_piece" = true) (k3 : PySem.W.keepIn K (.ref f3) = true)
    (a4 : PySem.W.nsIn K mainGlobals "is_integer_within" = some (some (.ref f4)))
    (l4 : K.lookup f4 = some ⟨oc4, od4, .func (PySem.W.fnOf "is_integer_within" "is_integer_within" (defArgs s_is_integer_within) (defBody s_is_integer_within) (defScope s_is_integer_within) .none kV4 dc4 pm4 an4 cd4 ct4), sl4⟩) (c4 : PySem.W.codeIn K cd4 "is_integer_within" = true) (k4 : PySem.W.keepIn K (.ref f4) = true)
    (a5 : PySem.W.nsIn K mainGlobals "is_price" = some (some (.ref f5)))
    (l5 : K.lookup f5 = some ⟨oc5, od5, .func (PySem.W.fnOf "is_price" "is_price" (defArgs s_is_price) (defBody s_is_price) (defScope s_is_price) .none kV5 dc5 pm5 an5 cd5 ct5), sl5⟩) (c5 : PySem.W.codeIn K cd5 "is_price" = true) (k5 : PySem.W.keepIn K (.ref f5) = true)
    (a6 : PySem.W.nsIn K mainGlobals "are_prices" = some (some (.ref f6)))
    (l6 : K.lookup f6 = some ⟨oc6, od6, .func (PySem.W.fnOf "are_prices" "are_prices" (defArgs s_are_prices) (defBody s_are_prices) (defScope s_are_prices) .none kV6 dc6 pm6 an6 cd6 ct6), sl6⟩) (c6 : PySem.W.codeIn K cd6 "are_prices" = true) (k6 : PySem.W.keepIn K (.ref f6) = true)
    (a7 : PySem.W.findIn K (.ref C) "__init__" = some (some (.ref f7))) (i7 : PySem.W.isFn K (.ref f7) = true)
    (l7 : K.lookup f7 = some ⟨oc7, od7, .func (PySem.W.fnOf "__init__" "Book.__init__" (defArgs s_Book___init__) (defBody s_Book___init__) (defScope s_Book___init__) .none kV7 dc7 pm7 an7 cd7 ct7), sl7⟩) (c7 : PySem.W.codeIn K cd7 "Book.__init__" = true) (k7 : PySem.W.keepIn K (.ref f7) = true)
    (a8 : PySem.W.nsIn K mainGlobals "prices_along" = some (some (.ref f8)))
    (l8 : K.lookup f8 = some ⟨oc8, od8, .func (PySem.W.fnOf "prices_along" "prices_along" (defArgs s_prices_along) (defBody s_prices_along) (defScope s_prices_along) .none kV8 dc8 pm8 an8 cd8 ct8), sl8⟩) (c8 : PySem.W.codeIn K cd8 "prices_along" = true) (k8 : PySem.W.keepIn K (.ref f8) = true)
    (a9 : PySem.W.nsIn K mainGlobals "require_book" = some (some (.ref f9)))
    (l9 : K.lookup f9 = some ⟨oc9, od9, .func (PySem.W.fnOf "require_book" "require_book" (defArgs s_require_book) (defBody s_require_book) (defScope s_require_book) .none kV9 dc9 pm9 an9 cd9 ct9), sl9⟩) (c9 : PySem.W.codeIn K cd9 "require_book" = true) (k9 : PySem.W.keepIn K (.ref f9) = true)
    (a10 : PySem.W.nsIn K mainGlobals "is_text_over" = some (some (.ref f10)))
    (l10 : K.lookup f10 = some ⟨oc10, od10, .func (PySem.W.fnOf "is_text_over" "is_text_over" (defArgs s_is_text_over) (defBody s_is_text_over) (defScope s_is_text_over) .none kV10 dc10 pm10 an10 cd10 ct10), sl10⟩) (c10 : PySem.W.codeIn K cd10 "is_text_over" = true) (k10 : PySem.W.keepIn K (.ref f10) = true)
    (a11 : PySem.W.nsIn K mainGlobals "require_text" = some (some (.ref f11)))
    (l11 : K.lookup f11 = some ⟨oc11, od11, .func (PySem.W.fnOf "require_text" "require_text" (defArgs s_require_text) (defBody s_require_text) (defScope s_require_text) .none kV11 dc11 pm11 an11 cd11 ct11), sl11⟩) (c11 : PySem.W.codeIn K cd11 "require_text" = true) (k11 : PySem.W.keepIn K (.ref f11) = true)
    (a12 : PySem.W.findIn K (.ref C) "accepts" = some (some (.ref f12))) (i12 : PySem.W.isFn K (.ref f12) = true)
    (l12 : K.lookup f12 = some ⟨oc12, od12, .func (PySem.W.fnOf "accepts" "Book.accepts" (defArgs s_Book_accepts) (defBody s_Book_accepts) (defScope s_Book_accepts) .none kV12 dc12 pm12 an12 cd12 ct12), sl12⟩) (c12 : PySem.W.codeIn K cd12 "Book.accepts" = true) (k12 : PySem.W.keepIn K (.ref f12) = true)
    (a13 : PySem.W.nsIn K mainGlobals "front_in" = some (some (.ref f13)))
    (l13 : K.lookup f13 = some ⟨oc13, od13, .func (PySem.W.fnOf "front_in" "front_in" (defArgs s_front_in) (defBody s_front_in) (defScope s_front_in) .none kV13 dc13 pm13 an13 cd13 ct13), sl13⟩) (c13 : PySem.W.codeIn K cd13 "front_in" = true) (k13 : PySem.W.keepIn K (.ref f13) = true)
    (a14 : PySem.W.nsIn K mainGlobals "step_in" = some (some (.ref f14)))
    (l14 : K.lookup f14 = some ⟨oc14, od14, .func (PySem.W.fnOf "step_in" "step_in" (defArgs s_step_in) (defBody s_step_in) (defScope s_step_in) .none kV14 dc14 pm14 an14 cd14 ct14), sl14⟩) (c14 : PySem.W.codeIn K cd14 "step_in" = true) (k14 : PySem.W.keepIn K (.ref f14) = true)
    (a15 : PySem.W.nsIn K mainGlobals "has_front_form" = some (some (.ref f15)))
    (l15 : K.lookup f15 = some ⟨oc15, od15, .func (PySem.W.fnOf "has_front_form" "has_front_form" (defArgs s_has_front_form) (defBody s_has_front_form) (defScope s_has_front_form) .none kV15 dc15 pm15 an15 cd15 ct15), sl15⟩) (c15 : PySem.W.codeIn K cd15 "has_front_form" = true) (k15 : PySem.W.keepIn K (.ref f15) = true)
    (a16 : PySem.W.nsIn K mainGlobals "require_sign" = some (some (.ref f16)))
    (l16 : K.lookup f16 = some ⟨oc16, od16, .func (PySem.W.fnOf "require_sign" "require_sign" (defArgs s_require_sign) (defBody s_require_sign) (defScope s_require_sign) .none kV16 dc16 pm16 an16 cd16 ct16), sl16⟩) (c16 : PySem.W.codeIn K cd16 "require_sign" = true) (k16 : PySem.W.keepIn K (.ref f16) = true)
    (a17 : PySem.W.findIn K (.ref C) "__contains__" = some (some (.ref f17))) (i17 : PySem.W.isFn K (.ref f17) = true)
    (l17 : K.lookup f17 = some ⟨oc17, od17, .func (PySem.W.fnOf "__contains__" "Book.__contains__" (defArgs s_Book___contains__) (defBody s_Book___contains__) (defScope s_Book___contains__) .none kV17 dc17 pm17 an17 cd17 ct17), sl17⟩) (c17 : PySem.W.codeIn K cd17 "Book.__contains__" = true) (k17 : PySem.W.keepIn K (.ref f17) = true)
    (a18 : PySem.W.nsIn K mainGlobals "_law_reel_of" = some (some (.ref f18)))
    (l18 : K.lookup f18 = some ⟨oc18, od18, .func (PySem.W.fnOf "_law_reel_of" "_law_reel_of" (defArgs s__law_reel_of) (defBody s__law_reel_of) (defScope s__law_reel_of) .none kV18 dc18 pm18 an18 cd18 ct18), sl18⟩) (c18 : PySem.W.codeIn K cd18 "_law_reel_of" = true) (k18 : PySem.W.keepIn K (.ref f18) = true)
    (a19 : PySem.W.nsIn K mainGlobals "_law_spin" = some (some (.ref f19)))
    (l19 : K.lookup f19 = some ⟨oc19, od19, .func (PySem.W.fnOf "_law_spin" "_law_spin" (defArgs s__law_spin) (defBody s__law_spin) (defScope s__law_spin) .none kV19 dc19 pm19 an19 cd19 ct19), sl19⟩) (c19 : PySem.W.codeIn K cd19 "_law_spin" = true) (k19 : PySem.W.keepIn K (.ref f19) = true)
    (a20 : PySem.W.nsIn K mainGlobals "_law_pick" = some (some (.ref f20)))
    (l20 : K.lookup f20 = some ⟨oc20, od20, .func (PySem.W.fnOf "_law_pick" "_law_pick" (defArgs s__law_pick) (defBody s__law_pick) (defScope s__law_pick) .none kV20 dc20 pm20 an20 cd20 ct20), sl20⟩) (c20 : PySem.W.codeIn K cd20 "_law_pick" = true) (k20 : PySem.W.keepIn K (.ref f20) = true)
    (a21 : PySem.W.nsIn K mainGlobals "_law_mixed" = some (some (.ref f21)))
    (l21 : K.lookup f21 = some ⟨oc21, od21, .func (PySem.W.fnOf "_law_mixed" "_law_mixed" (defArgs s__law_mixed) (defBody s__law_mixed) (defScope s__law_mixed) .none kV21 dc21 pm21 an21 cd21 ct21), sl21⟩) (c21 : PySem.W.codeIn K cd21 "_law_mixed" = true) (k21 : PySem.W.keepIn K (.ref f21) = true)
    (a22 : PySem.W.nsIn K mainGlobals "_law_letters" = some (some (.ref f22)))
    (l22 : K.lookup f22 = some ⟨oc22, od22, .func (PySem.W.fnOf "_law_letters" "_law_letters" (defArgs s__law_letters) (defBody s__law_letters) (defScope s__law_letters) .none kV22 dc22 pm22 an22 cd22 ct22), sl22⟩) (c22 : PySem.W.codeIn K cd22 "_law_letters" = true) (k22 : PySem.W.keepIn K (.ref f22) = true)
    (a23 : PySem.W.nsIn K mainGlobals "_law_drawn_text" = some (some (.ref f23)))
    (l23 : K.lookup f23 = some ⟨oc23, od23, .func (PySem.W.fnOf "_law_drawn_text" "_law_drawn_text" (defArgs s__law_drawn_text) (defBody s__law_drawn_text) (defScope s__law_drawn_text) .none kV23 dc23 pm23 an23 cd23 ct23), sl23⟩) (c23 : PySem.W.codeIn K cd23 "_law_drawn_text" = true) (k23 : PySem.W.keepIn K (.ref f23) = true)
    (a24 : PySem.W.nsIn K mainGlobals "_law_drawn_book" = some (some (.ref f24)))
    (l24 : K.lookup f24 = some ⟨oc24, od24, .func (PySem.W.fnOf "_law_drawn_book" "_law_drawn_book" (defArgs s__law_drawn_book) (defBody s__law_drawn_book) (defScope s__law_drawn_book) .none kV24 dc24 pm24 an24 cd24 ct24), sl24⟩) (c24 : PySem.W.codeIn K cd24 "_law_drawn_book" = true) (k24 : PySem.W.keepIn K (.ref f24) = true)
    (a25 : PySem.W.nsIn K mainGlobals "_law_signs_of" = some (some (.ref f25)))
    (l25 : K.lookup f25 = some ⟨oc25, od25, .func (PySem.W.fnOf "_law_signs_of" "_law_signs_of" (defArgs s__law_signs_of) (defBody s__law_signs_of) (defScope s__law_signs_of) .none kV25 dc25 pm25 an25 cd25 ct25), sl25⟩) (c25 : PySem.W.codeIn K cd25 "_law_signs_of" = true) (k25 : PySem.W.keepIn K (.ref f25) = true)
    (a26 : PySem.W.nsIn K mainGlobals "_law_wide_of" = some (some (.ref f26)))
    (l26 : K.lookup f26 = some ⟨oc26, od26, .func (PySem.W.fnOf "_law_wide_of" "_law_wide_of" (defArgs s__law_wide_of) (defBody s__law_wide_of) (defScope s__law_wide_of) .none kV26 dc26 pm26 an26 cd26 ct26), sl26⟩) (c26 : PySem.W.codeIn K cd26 "_law_wide_of" = true) (k26 : PySem.W.keepIn K (.ref f26) = true)
    (a27 : PySem.W.nsIn K mainGlobals "_law_starting" = some (some (.ref f27)))
    (l27 : K.lookup f27 = some ⟨oc27, od27, .func (PySem.W.fnOf "_law_starting" "_law_starting" (defArgs s__law_starting) (defBody s__law_starting) (defScope s__law_starting) .none kV27 dc27 pm27 an27 cd27 ct27), sl27⟩) (c27 : PySem.W.codeIn K cd27 "_law_starting" = true) (k27 : PySem.W.keepIn K (.ref f27) = true)
    (a28 : PySem.W.nsIn K mainGlobals "_law_prices_along" = some (some (.ref f28)))
    (l28 : K.lookup f28 = some ⟨oc28, od28, .func (PySem.W.fnOf "_law_prices_along" "_law_prices_along" (defArgs s__law_prices_along) (defBody s__law_prices_along) (defScope s__law_prices_along) .none kV28 dc28 pm28 an28 cd28 ct28), sl28⟩) (c28 : PySem.W.codeIn K cd28 "_law_prices_along" = true) (k28 : PySem.W.keepIn K (.ref f28) = true)
    (a29 : PySem.W.nsIn K mainGlobals "_law_state_of" = some (some (.ref f29)))
    (l29 : K.lookup f29 = some ⟨oc29, od29, .func (PySem.W.fnOf "_law_state_of" "_law_state_of" (defArgs s__law_state_of) (defBody s__law_state_of) (defScope s__law_state_of) .none kV29 dc29 pm29 an29 cd29 ct29), sl29⟩) (c29 : PySem.W.codeIn K cd29 "_law_state_of" = true) (k29 : PySem.W.keepIn K (.ref f29) = true)
    (a30 : PySem.W.nsIn K mainGlobals "_law_beside_of" = some (some (.ref f30)))
    (l30 : K.lookup f30 = some ⟨oc30, od30, .func (PySem.W.fnOf "_law_beside_of" "_law_beside_of" (defArgs s__law_beside_of) (defBody s__law_beside_of) (defScope s__law_beside_of) .none kV30 dc30 pm30 an30 cd30 ct30), sl30⟩) (c30 : PySem.W.codeIn K cd30 "_law_beside_of" = true) (k30 : PySem.W.keepIn K (.ref f30) = true)
    (a31 : PySem.W.nsIn K mainGlobals "_law_due_of" = some (some (.ref f31)))
    (l31 : K.lookup f31 = some ⟨oc31, od31, .func (PySem.W.fnOf "_law_due_of" "_law_due_of" (defArgs s__law_due_of) (defBody s__law_due_of) (defScope s__law_due_of) .none kV31 dc31 pm31 an31 cd31 ct31), sl31⟩) (c31 : PySem.W.codeIn K cd31 "_law_due_of" = true) (k31 : PySem.W.keepIn K (.ref f31) = true)
    (a32 : PySem.W.nsIn K mainGlobals "_law_next" = some (some (.ref f32)))
    (l32 : K.lookup f32 = some ⟨oc32, od32, .func (PySem.W.fnOf "_law_next" "_law_next" (defArgs s__law_next) (defBody s__law_next) (defScope s__law_next) .none kV32 dc32 pm32 an32 cd32 ct32), sl32⟩) (c32 : PySem.W.codeIn K cd32 "_law_next" = true) (k32 : PySem.W.keepIn K (.ref f32) = true)
    (a33 : PySem.W.nsIn K mainGlobals "beside_in" = some (some (.ref f33)))
    (l33 : K.lookup f33 = some ⟨oc33, od33, .func (PySem.W.fnOf "beside_in" "beside_in" (defArgs s_beside_in) (defBody s_beside_in) (defScope s_beside_in) .none kV33 dc33 pm33 an33 cd33 ct33), sl33⟩) (c33 : PySem.W.codeIn K cd33 "beside_in" = true) (k33 : PySem.W.keepIn K (.ref f33) = true)
    (a34 : PySem.W.nsIn K mainGlobals "step_beside" = some (some (.ref f34)))
    (l34 : K.lookup f34 = some ⟨oc34, od34, .func (PySem.W.fnOf "step_beside" "step_beside" (defArgs s_step_beside) (defBody s_step_beside) (defScope s_step_beside) .none kV34 dc34 pm34 an34 cd34 ct34), sl34⟩) (c34 : PySem.W.codeIn K cd34 "step_beside" = true) (k34 : PySem.W.keepIn K (.ref f34) = true)
    (a35 : PySem.W.nsIn K mainGlobals "has_beside_form" = some (some (.ref f35)))
    (l35 : K.lookup f35 = some ⟨oc35, od35, .func (PySem.W.fnOf "has_beside_form" "has_beside_form" (defArgs s_has_beside_form) (defBody s_has_beside_form) (defScope s_has_beside_form) .none kV35 dc35 pm35 an35 cd35 ct35), sl35⟩) (c35 : PySem.W.codeIn K cd35 "has_beside_form" = true) (k35 : PySem.W.keepIn K (.ref f35) = true)
    (a36 : PySem.W.nsIn K mainGlobals "require_begun" = some (some (.ref f36)))
    (l36 : K.lookup f36 = some ⟨oc36, od36, .func (PySem.W.fnOf "require_begun" "require_begun" (defArgs s_require_begun) (defBody s_require_begun) (defScope s_require_begun) .none kV36 dc36 pm36 an36 cd36 ct36), sl36⟩) (c36 : PySem.W.codeIn K cd36 "require_begun" = true) (k36 : PySem.W.keepIn K (.ref f36) = true)
    (a37 : PySem.W.nsIn K mainGlobals "beside_of" = some (some (.ref f37)))
    (l37 : K.lookup f37 = some ⟨oc37, od37, .func (PySem.W.fnOf "beside_of" "beside_of" (defArgs s_beside_of) (defBody s_beside_of) (defScope s_beside_of) .none kV37 dc37 pm37 an37 cd37 ct37), sl37⟩) (c37 : PySem.W.codeIn K cd37 "beside_of" = true) (k37 : PySem.W.keepIn K (.ref f37) = true)
    (a38 : PySem.W.nsIn K mainGlobals "next_beside" = some (some (.ref f38)))
    (l38 : K.lookup f38 = some ⟨oc38, od38, .func (PySem.W.fnOf "next_beside" "next_beside" (defArgs s_next_beside) (defBody s_next_beside) (defScope s_next_beside) .none kV38 dc38 pm38 an38 cd38 ct38), sl38⟩) (c38 : PySem.W.codeIn K cd38 "next_beside" = true) (k38 : PySem.W.keepIn K (.ref f38) = true)
    (a39 : PySem.W.nsIn K mainGlobals "_law_large" = some (some (.ref f39)))
    (l39 : K.lookup f39 = some ⟨oc39, od39, .func (PySem.W.fnOf "_law_large" "_law_large" (defArgs s__law_large) (defBody s__law_large) (defScope s__law_large) .none kV39 dc39 pm39 an39 cd39 ct39), sl39⟩) (c39 : PySem.W.codeIn K cd39 "_law_large" = true) (k39 : PySem.W.keepIn K (.ref f39) = true)
    (a40 : PySem.W.nsIn K mainGlobals "_law_wild" = some (some (.ref f40)))
    (l40 : K.lookup f40 = some ⟨oc40, od40, .func (PySem.W.fnOf "_law_wild" "_law_wild" (defArgs s__law_wild) (defBody s__law_wild) (defScope s__law_wild) .none kV40 dc40 pm40 an40 cd40 ct40), sl40⟩) (c40 : PySem.W.codeIn K cd40 "_law_wild" = true) (k40 : PySem.W.keepIn K (.ref f40) = true)
    (a41 : PySem.W.nsIn K mainGlobals "_law_right" = some (some (.ref f41)))
    (l41 : K.lookup f41 = some ⟨oc41, od41, .func (PySem.W.fnOf "_law_right" "_law_right" (defArgs s__law_right) (defBody s__law_right) (defScope s__law_right) .none kV41 dc41 pm41 an41 cd41 ct41), sl41⟩) (c41 : PySem.W.codeIn K cd41 "_law_right" = true) (k41 : PySem.W.keepIn K (.ref f41) = true)
    (a42 : PySem.W.nsIn K mainGlobals "law" = some (some (.ref f42)))
    (l42 : K.lookup f42 = some ⟨oc42, od42, .func (PySem.W.fnOf "law" "law" (defArgs s_law) (defBody s_law) (defScope s_law) .none kV42 dc42 pm42 an42 cd42 ct42), sl42⟩) (c42 : PySem.W.codeIn K cd42 "law" = true) (k42 : PySem.W.keepIn K (.ref f42) = true)
    (z_abs : PySem.W.nsIn K mainGlobals "abs" = some none)
    (z_all : PySem.W.nsIn K mainGlobals "all" = some none)
    (z_bool : PySem.W.nsIn K mainGlobals "bool" = some none)
    (z_dict : PySem.W.nsIn K mainGlobals "dict" = some none)
    (z_int : PySem.W.nsIn K mainGlobals "int" = some none)
    (z_isinstance : PySem.W.nsIn K mainGlobals "isinstance" = some none)
    (z_len : PySem.W.nsIn K mainGlobals "len" = some none)
    (z_list : PySem.W.nsIn K mainGlobals "list" = some none)
    (z_max : PySem.W.nsIn K mainGlobals "max" = some none)
    (z_min : PySem.W.nsIn K mainGlobals "min" = some none)
    (z_range : PySem.W.nsIn K mainGlobals "range" = some none)
    (z_repr : PySem.W.nsIn K mainGlobals "repr" = some none)
    (z_sorted : PySem.W.nsIn K mainGlobals "sorted" = some none)
    (z_str : PySem.W.nsIn K mainGlobals "str" = some none)
    (z_tuple : PySem.W.nsIn K mainGlobals "tuple" = some none)
    {t_MAX_ALPHABET : Tok} (y_MAX_ALPHABET : PySem.W.nsIn K mainGlobals "MAX_ALPHABET" = some (some (.int 4 t_MAX_ALPHABET)))
    {t_MAX_PIECES : Tok} (y_MAX_PIECES : PySem.W.nsIn K mainGlobals "MAX_PIECES" = some (some (.int 12 t_MAX_PIECES)))
    {t_MAX_PRICE : Tok} (y_MAX_PRICE : PySem.W.nsIn K mainGlobals "MAX_PRICE" = some (some (.int 99 t_MAX_PRICE)))
    {t_PIECE_SIGNS : Tok} (y_PIECE_SIGNS : PySem.W.nsIn K mainGlobals "PIECE_SIGNS" = some (some (.int 5 t_PIECE_SIGNS)))
    {t_TEXT_SIGNS : Tok} (y_TEXT_SIGNS : PySem.W.nsIn K mainGlobals "TEXT_SIGNS" = some (some (.int 8000 t_TEXT_SIGNS)))
    : ∃ fd : FuncData, (∀ (s : Shared) (v : Value), BindsTo s fd ⟨[v], []⟩ [("script", v)]) ∧ ∀ base : Heap, K.In base → base.Ns mainGlobals mg → FnG l.prog w K mg base CX0 12 fa fd ["script"] (spLaw K) := by
  have e := hfa.symm.trans (PySem.W.mg_of X G0 a42)
  cases e
  have T : Txt K mg C := ⟨⟨pg, hd, po, sa⟩, ⟨⟨pg, hd, po, sa⟩, iha, ihn, iht, ihm, if_pos (beq_self_eq_true _)⟩, n_own_prices, n_own_pieces, n_own_alphabet, n_own_longest, n_own_dearest, PySem.W.mg_of X G0 aC, PySem.W.mg_none_of X G0 z_abs, PySem.W.mg_none_of X G0 z_all, PySem.W.mg_none_of X G0 z_bool, PySem.W.mg_none_of X G0 z_dict, PySem.W.mg_none_of X G0 z_int, PySem.W.mg_none_of X G0 z_isinstance, PySem.W.mg_none_of X G0 z_len, PySem.W.mg_none_of X G0 z_list, PySem.W.mg_none_of X G0 z_max, PySem.W.mg_none_of X G0 z_min, PySem.W.mg_none_of X G0 z_range, PySem.W.mg_none_of X G0 z_repr, PySem.W.mg_none_of X G0 z_sorted, PySem.W.mg_none_of X G0 z_str, PySem.W.mg_none_of X G0 z_tuple, ⟨_, PySem.W.mg_of X G0 y_MAX_ALPHABET⟩, ⟨_, PySem.W.mg_of X G0 y_MAX_PIECES⟩, ⟨_, PySem.W.mg_of X G0 y_MAX_PRICE⟩, ⟨_, PySem.W.mg_of X G0 y_PIECE_SIGNS⟩, ⟨_, PySem.W.mg_of X G0 y_TEXT_SIGNS⟩⟩
  have F0 := fun_mk (st := s_is_integer) l0 c0 k0
  have b0 := F0.binds (ps := ["value"]) fun _ _ _ _ _ _ us hl => match us, hl with | [_], _ => rfl
  have F1 := fun_mk (st := s_is_word) l1 c1 k1
  have b1 := F1.binds (ps := ["value"]) fun _ _ _ _ _ _ us hl => match us, hl with | [_], _ => rfl
  have F2 := fun_mk (st := s_is_text) l2 c2 k2
  have b2 := F2.binds (ps := ["value"]) fun _ _ _ _ _ _ us hl => match us, hl with | [_], _ => rfl
  have F3 := fun_mk (st := s_is_piece) l3 c3 k3
  have b3 := F3.binds (ps := ["value"]) fun _ _ _ _ _ _ us hl => match us, hl with | [_], _ => rfl
  have F4 := fun_mk (st := s_is_integer_within) l4 c4 k4
  have b4 := F4.binds (ps := ["value", "least", "most"]) fun _ _ _ _ _ _ us hl => match us, hl with | [_, _, _], _ => rfl
  have F5 := fun_mk (st := s_is_price) l5 c5 k5
  have b5 := F5.binds (ps := ["value"]) fun _ _ _ _ _ _ us hl => match us, hl with | [_], _ => rfl
  have F6 := fun_mk (st := s_are_prices) l6 c6 k6
  have b6 := F6.binds (ps := ["value"]) fun _ _ _ _ _ _ us hl => match us, hl with | [_], _ => rfl
  have F7 := fun_mk (st := s_Book___init__) l7 c7 k7
  have b7 := F7.binds (ps := ["self", "prices"]) fun _ _ _ _ _ _ us hl => match us, hl with | [_, _], _ => rfl
  have F8 := fun_mk (st := s_prices_along) l8 c8 k8
  have b8 := F8.binds (ps := ["book", "text"]) fun _ _ _ _ _ _ us hl => match us, hl with | [_, _], _ => rfl
  have F9 := fun_mk (st := s_require_book) l9 c9 k9
  have b9 := F9.binds (ps := ["value"]) fun _ _ _ _ _ _ us hl => match us, hl with | [_], _ => rfl
  have F10 := fun_mk (st := s_is_text_over) l10 c10 k10
  have b10 := F10.binds (ps := ["book", "value"]) fun _ _ _ _ _ _ us hl => match us, hl with | [_, _], _ => rfl
  have F11 := fun_mk (st := s_require_text) l11 c11 k11
  have b11 := F11.binds (ps := ["book", "value"]) fun _ _ _ _ _ _ us hl => match us, hl with | [_, _], _ => rfl
  have F12 := fun_mk (st := s_Book_accepts) l12 c12 k12
  have b12 := F12.binds (ps := ["self", "value"]) fun _ _ _ _ _ _ us hl => match us, hl with | [_, _], _ => rfl
  have F13 := fun_mk (st := s_front_in) l13 c13 k13
  have b13 := F13.binds (ps := ["book", "text"]) fun _ _ _ _ _ _ us hl => match us, hl with | [_, _], _ => rfl
  have F14 := fun_mk (st := s_step_in) l14 c14 k14
  have b14 := F14.binds (ps := ["book", "front", "sign"]) fun _ _ _ _ _ _ us hl => match us, hl with | [_, _, _], _ => rfl
  have F15 := fun_mk (st := s_has_front_form) l15 c15 k15
  have b15 := F15.binds (ps := ["book", "value"]) fun _ _ _ _ _ _ us hl => match us, hl with | [_, _], _ => rfl
  have F16 := fun_mk (st := s_require_sign) l16 c16 k16
  have b16 := F16.binds (ps := ["book", "value"]) fun _ _ _ _ _ _ us hl => match us, hl with | [_, _], _ => rfl
  have F17 := fun_mk (st := s_Book___contains__) l17 c17 k17
  have b17 := F17.binds (ps := ["self", "value"]) fun _ _ _ _ _ _ us hl => match us, hl with | [_, _], _ => rfl
  have F18 := fun_mk (st := s__law_reel_of) l18 c18 k18
  have b18 := F18.binds (ps := ["script", "spot"]) fun _ _ _ _ _ _ us hl => match us, hl with | [_, _], _ => rfl
  have F19 := fun_mk (st := s__law_spin) l19 c19 k19
  have b19 := F19.binds (ps := ["reel", "total"]) fun _ _ _ _ _ _ us hl => match us, hl with | [_, _], _ => rfl
  have F20 := fun_mk (st := s__law_pick) l20 c20 k20
  have b20 := F20.binds (ps := ["reel", "items"]) fun _ _ _ _ _ _ us hl => match us, hl with | [_, _], _ => rfl
  have F21 := fun_mk (st := s__law_mixed) l21 c21 k21
  have b21 := F21.binds (ps := ["reel", "items"]) fun _ _ _ _ _ _ us hl => match us, hl with | [_, _], _ => rfl
  have F22 := fun_mk (st := s__law_letters) l22 c22 k22
  have b22 := F22.binds (ps := ["reel", "size"]) fun _ _ _ _ _ _ us hl => match us, hl with | [_, _], _ => rfl
  have F23 := fun_mk (st := s__law_drawn_text) l23 c23 k23
  have b23 := F23.binds (ps := ["reel", "signs", "size"]) fun _ _ _ _ _ _ us hl => match us, hl with | [_, _, _], _ => rfl
  have F24 := fun_mk (st := s__law_drawn_book) l24 c24 k24
  have b24 := F24.binds (ps := ["reel"]) fun _ _ _ _ _ _ us hl => match us, hl with | [_], _ => rfl
  have F25 := fun_mk (st := s__law_signs_of) l25 c25 k25
  have b25 := F25.binds (ps := ["book"]) fun _ _ _ _ _ _ us hl => match us, hl with | [_], _ => rfl
  have F26 := fun_mk (st := s__law_wide_of) l26 c26 k26
  have b26 := F26.binds (ps := ["book"]) fun _ _ _ _ _ _ us hl => match us, hl with | [_], _ => rfl
  have F27 := fun_mk (st := s__law_starting) l27 c27 k27
  have b27 := F27.binds (ps := ["book", "text"]) fun _ _ _ _ _ _ us hl => match us, hl with | [_, _], _ => rfl
  have F28 := fun_mk (st := s__law_prices_along) l28 c28 k28
  have b28 := F28.binds (ps := ["book", "text"]) fun _ _ _ _ _ _ us hl => match us, hl with | [_, _], _ => rfl
  have F29 := fun_mk (st := s__law_state_of) l29 c29 k29
  have b29 := F29.binds (ps := ["book", "text", "pieces"]) fun _ _ _ _ _ _ us hl => match us, hl with | [_, _, _], _ => rfl
  have F30 := fun_mk (st := s__law_beside_of) l30 c30 k30
  have b30 := F30.binds (ps := ["book", "state"]) fun _ _ _ _ _ _ us hl => match us, hl with | [_, _], _ => rfl
  have F31 := fun_mk (st := s__law_due_of) l31 c31 k31
  have b31 := F31.binds (ps := ["book", "text", "piece"]) fun _ _ _ _ _ _ us hl => match us, hl with | [_, _, _], _ => rfl
  have F32 := fun_mk (st := s__law_next) l32 c32 k32
  have b32 := F32.binds (ps := ["book", "value", "sign"]) fun _ _ _ _ _ _ us hl => match us, hl with | [_, _, _], _ => rfl
  have F33 := fun_mk (st := s_beside_in) l33 c33 k33
  have b33 := F33.binds (ps := ["book", "text", "piece"]) fun _ _ _ _ _ _ us hl => match us, hl with | [_, _, _], _ => rfl
  have F34 := fun_mk (st := s_step_beside) l34 c34 k34
  have b34 := F34.binds (ps := ["book", "beside", "sign"]) fun _ _ _ _ _ _ us hl => match us, hl with | [_, _, _], _ => rfl
  have F35 := fun_mk (st := s_has_beside_form) l35 c35 k35
  have b35 := F35.binds (ps := ["book", "value"]) fun _ _ _ _ _ _ us hl => match us, hl with | [_, _], _ => rfl
  have F36 := fun_mk (st := s_require_begun) l36 c36 k36
  have b36 := F36.binds (ps := ["book", "text", "piece"]) fun _ _ _ _ _ _ us hl => match us, hl with | [_, _, _], _ => rfl
  have F37 := fun_mk (st := s_beside_of) l37 c37 k37
  have b37 := F37.binds (ps := ["book", "text", "piece"]) fun _ _ _ _ _ _ us hl => match us, hl with | [_, _, _], _ => rfl
  have F38 := fun_mk (st := s_next_beside) l38 c38 k38
  have b38 := F38.binds (ps := ["book", "beside", "sign"]) fun _ _ _ _ _ _ us hl => match us, hl with | [_, _, _], _ => rfl
  have F39 := fun_mk (st := s__law_large) l39 c39 k39
  have b39 := F39.binds (ps := ["reel"]) fun _ _ _ _ _ _ us hl => match us, hl with | [_], _ => rfl
  have F40 := fun_mk (st := s__law_wild) l40 c40 k40
  have b40 := F40.binds (ps := ["reel", "book"]) fun _ _ _ _ _ _ us hl => match us, hl with | [_, _], _ => rfl
  have F41 := fun_mk (st := s__law_right) l41 c41 k41
  have b41 := F41.binds (ps := ["reel"]) fun _ _ _ _ _ _ us hl => match us, hl with | [_], _ => rfl
  have F42 := fun_mk (st := s_law) l42 c42 k42
  refine ⟨PySem.W.fnOf "law" "law" (defArgs s_law) (defBody s_law) (defScope s_law) .none kV42 dc42 pm42 an42 cd42 ct42, fun s v => .of_eq rfl, fun base _ _ => ?_⟩
  have h_is_integer : HasO l.prog w K mg base CX0 1 "is_integer" ["value"] (spIsI K isInteger) := .mk' F0 (PySem.W.mg_of X G0 a0) b0 (ok_is_integer F0 T)
  have h_is_word : HasO l.prog w K mg base CX0 1 "is_word" ["value"] (spIs K isWord) := .mk' F1 (PySem.W.mg_of X G0 a1) b1 (ok_is_word F1 T)
  have h_is_text : HasO l.prog w K mg base CX0 2 "is_text" ["value"] (spIs K isText) := .mk' F2 (PySem.W.mg_of X G0 a2) b2 (ok_is_text F2 T h_is_word)
  have h_is_piece : HasO l.prog w K mg base CX0 2 "is_piece" ["value"] (spIs K isPiece) := .mk' F3 (PySem.W.mg_of X G0 a3) b3 (ok_is_piece F3 T h_is_word)
  have h_is_integer_within : HasO l.prog w K mg base CX0 2 "is_integer_within" ["value", "least", "most"] (spWithin K) := .mk' F4 (PySem.W.mg_of X G0 a4) b4 (ok_is_integer_within F4 T h_is_integer)
  have h_is_price : HasO l.prog w K mg base CX0 3 "is_price" ["value"] (spIsI K isPrice) := .mk' F5 (PySem.W.mg_of X G0 a5) b5 (ok_is_price F5 T h_is_integer_within)
  have h_are_prices : HasO l.prog w K mg base CX0 4 "are_prices" ["value"] (spArePrices K) := .mk' F6 (PySem.W.mg_of X G0 a6) b6 (ok_are_prices F6 T h_is_piece h_is_price)
  have h_Book : C8.Mak l.prog w K mg base 5 "Book" C (spBook C K) [] := ⟨_, _, ["self", "prices"], [], ⟨mk, a7, i7, kc⟩, ok_Book___init__ F7 T h_are_prices, PySem.W.mg_of X G0 aC, b7, .nil⟩
  have h_prices_along : HasO l.prog w K mg base CX0 2 "prices_along" ["book", "text"] (spAlong C) := .mk' F8 (PySem.W.mg_of X G0 a8) b8 (ok_prices_along F8 T)
  have h_require_book : HasO l.prog w K mg base CX0 1 "require_book" ["value"] (spReqBook C) := .mk' F9 (PySem.W.mg_of X G0 a9) b9 (ok_require_book F9 T)
  have h_is_text_over : HasO l.prog w K mg base CX0 3 "is_text_over" ["book", "value"] (spTextOver C) := .mk' F10 (PySem.W.mg_of X G0 a10) b10 (ok_is_text_over F10 T h_is_text)
  have h_require_text : HasO l.prog w K mg base CX0 4 "require_text" ["book", "value"] (spReqText C) := .mk' F11 (PySem.W.mg_of X G0 a11) b11 (ok_require_text F11 T h_is_text_over)
  have h_Book_accepts : C8.Met l.prog w K mg base 4 C "accepts" (spTextOver C) [] := ⟨_, _, ["self", "value"], [], ⟨pg, hd, po, sa⟩, ⟨a12, i12, k12⟩, ok_Book_accepts F12 T h_is_text_over, b12, .nil⟩
  have h_front_in : HasO l.prog w K mg base CX0 3 "front_in" ["book", "text"] (spFrontIn C) := .mk' F13 (PySem.W.mg_of X G0 a13) b13 (ok_front_in F13 T h_prices_along)
  have h_step_in : HasO l.prog w K mg base CX0 2 "step_in" ["book", "front", "sign"] (spStepIn C) := .mk' F14 (PySem.W.mg_of X G0 a14) b14 (ok_step_in F14 T)
  have h_has_front_form : HasO l.prog w K mg base CX0 5 "has_front_form" ["book", "value"] (spForm C) := .mk' F15 (PySem.W.mg_of X G0 a15) b15 (ok_has_front_form F15 T h_Book_accepts h_is_integer)
  have h_require_sign : HasO l.prog w K mg base CX0 1 "require_sign" ["book", "value"] (spReqSign C) := .mk' F16 (PySem.W.mg_of X G0 a16) b16 (ok_require_sign F16 T)
  have h_Book___contains__ : C8.Met l.prog w K mg base 3 C "__contains__" (spHasKey C) [] := ⟨_, _, ["self", "value"], [], ⟨pg, hd, po, sa⟩, ⟨a17, i17, k17⟩, ok_Book___contains__ F17 T h_is_piece, b17, .nil⟩
  have h__law_reel_of : Has l.prog w K mg base CX0 1 "_law_reel_of" ["script", "spot"] (spDice K) := .mk' F18 (PySem.W.mg_of X G0 a18) b18 (ok__law_reel_of F18 T)
  have h__law_spin : Has l.prog w K mg base CX0 1 "_law_spin" ["reel", "total"] (spRollB) := .mk' F19 (PySem.W.mg_of X G0 a19) b19 (ok__law_spin F19 T)
  have h__law_pick : Has l.prog w K mg base CX0 2 "_law_pick" ["reel", "items"] (spPick K) := .mk' F20 (PySem.W.mg_of X G0 a20) b20 (ok__law_pick F20 T h__law_spin)
  have h__law_mixed : Has l.prog w K mg base CX0 2 "_law_mixed" ["reel", "items"] (spMix K) := .mk' F21 (PySem.W.mg_of X G0 a21) b21 (ok__law_mixed F21 T h__law_spin)
  have h__law_letters : Has l.prog w K mg base CX0 2 "_law_letters" ["reel", "size"] (spLettB) := .mk' F22 (PySem.W.mg_of X G0 a22) b22 (ok__law_letters F22 T h__law_spin)
  have h__law_drawn_text : Has l.prog w K mg base CX0 3 "_law_drawn_text" ["reel", "signs", "size"] (spLetters K) := .mk' F23 (PySem.W.mg_of X G0 a23) b23 (ok__law_drawn_text F23 T h__law_pick)
  have h__law_drawn_book : Has l.prog w K mg base CX0 4 "_law_drawn_book" ["reel"] (spBookB) := .mk' F24 (PySem.W.mg_of X G0 a24) b24 (ok__law_drawn_book F24 T h__law_letters h__law_pick h__law_spin h__law_drawn_text h__law_mixed)
  have h__law_signs_of : HasO l.prog w K mg base CX0 1 "_law_signs_of" ["book"] (spSignsB K) := .mk' F25 (PySem.W.mg_of X G0 a25) b25 (ok__law_signs_of F25 T)
  have h__law_wide_of : Has l.prog w K mg base CX0 1 "_law_wide_of" ["book"] (spWide) := .mk' F26 (PySem.W.mg_of X G0 a26) b26 (ok__law_wide_of F26 T)
  have h__law_starting : HasO l.prog w K mg base CX0 1 "_law_starting" ["book", "text"] (spStartB) := .mk' F27 (PySem.W.mg_of X G0 a27) b27 (ok__law_starting F27 T)
  have h__law_prices_along : Has l.prog w K mg base CX0 2 "_law_prices_along" ["book", "text"] (spCheap) := .mk' F28 (PySem.W.mg_of X G0 a28) b28 (ok__law_prices_along F28 T)
  have h__law_state_of : Has l.prog w K mg base CX0 3 "_law_state_of" ["book", "text", "pieces"] (spState) := .mk' F29 (PySem.W.mg_of X G0 a29) b29 (ok__law_state_of F29 T h__law_prices_along h__law_wide_of)
  have h__law_beside_of : Has l.prog w K mg base CX0 2 "_law_beside_of" ["book", "state"] (spBesOf) := .mk' F30 (PySem.W.mg_of X G0 a30) b30 (ok__law_beside_of F30 T h__law_wide_of)
  have h__law_due_of : Has l.prog w K mg base CX0 4 "_law_due_of" ["book", "text", "piece"] (spDue) := .mk' F31 (PySem.W.mg_of X G0 a31) b31 (ok__law_due_of F31 T h__law_beside_of h__law_state_of)
  have h__law_next : Has l.prog w K mg base CX0 2 "_law_next" ["book", "value", "sign"] (spLawNext) := .mk' F32 (PySem.W.mg_of X G0 a32) b32 (ok__law_next F32 T h__law_wide_of)
  have h_beside_in : HasO l.prog w K mg base CX0 4 "beside_in" ["book", "text", "piece"] (spBes C) := .mk' F33 (PySem.W.mg_of X G0 a33) b33 (ok_beside_in F33 T h_prices_along h_front_in)
  have h_step_beside : HasO l.prog w K mg base CX0 3 "step_beside" ["book", "beside", "sign"] (spStepBes C) := .mk' F34 (PySem.W.mg_of X G0 a34) b34 (ok_step_beside F34 T h_step_in)
  have h_has_beside_form : HasO l.prog w K mg base CX0 6 "has_beside_form" ["book", "value"] (spBForm C) := .mk' F35 (PySem.W.mg_of X G0 a35) b35 (ok_has_beside_form F35 T h_has_front_form h_is_integer)
  have h_require_begun : HasO l.prog w K mg base CX0 5 "require_begun" ["book", "text", "piece"] (spBegun C) := .mk' F36 (PySem.W.mg_of X G0 a36) b36 (ok_require_begun F36 T h_Book___contains__ h_require_book h_require_text)
  have h_beside_of : HasO l.prog w K mg base CX0 6 "beside_of" ["book", "text", "piece"] (spBes C) := .mk' F37 (PySem.W.mg_of X G0 a37) b37 (ok_beside_of F37 T h_require_begun h_beside_in)
  have h_next_beside : HasO l.prog w K mg base CX0 8 "next_beside" ["book", "beside", "sign"] (spStepBes C) := .mk' F38 (PySem.W.mg_of X G0 a38) b38 (ok_next_beside F38 T h_require_book h_has_beside_form h_require_sign h_step_beside)
  have h__law_large : Has l.prog w K mg base CX0 3 "_law_large" ["reel"] (spLargeB) := .mk' F39 (PySem.W.mg_of X G0 a39) b39 (ok__law_large F39 T h__law_pick h__law_spin)
  have h__law_wild : Has l.prog w K mg base CX0 4 "_law_wild" ["reel", "book"] (spWild) := .mk' F40 (PySem.W.mg_of X G0 a40) b40 (ok__law_wild F40 T h__law_wide_of h__law_drawn_text h__law_spin h__law_signs_of h__law_large)
  have h__law_right : Has l.prog w K mg base CX0 10 "_law_right" ["reel"] (spRight 1000) := .mk' F41 (PySem.W.mg_of X G0 a41) b41 (ok__law_right F41 T h_Book h__law_drawn_book h__law_signs_of h__law_drawn_text h__law_pick h__law_starting h_beside_of h__law_due_of h_next_beside h__law_wild h__law_next)
  exact ok_law F42 T h_Book h__law_reel_of h__law_right h_beside_of h_next_beside
end K45
open PySem PySem.W PyProof.Rows
set_option maxRecDepth 100000 in
set_option maxHeartbeats 0 in
theorem PySem.Challenge.cw_cutbehind_k45_besides_holds : PySem.Challenge.rw_cutbehind_k45_besides.Holds := by
  w_on; o_law; k_head; (case hw => w_witness2)
  k_fill
  refine G.walk_g (l := PySem.Challenge.rw_cutbehind_k45_besides) (n := 63) (k := 12) (x := "script") (sp := fun K => G.spLaw K) rfl (by decide) rfl ⟨rfl, by decide, by decide⟩ (fun w h Y => PySem.W.kIn_of Y) ?F (fun K H a ns hl _ hS => ⟨a, ns, rfl, hS, hl, fun _ => rfl⟩)
  case F =>
    intro w mg fa h KX G0 hmg
    refine' K45.all_mk (l := PySem.Challenge.rw_cutbehind_k45_besides) KX G0 hmg ?aC ?pg ?hd ?po ?sa ?mk ?kc ?iha ?ihn ?iht ?ihm ?n_own_prices ?n_own_pieces ?n_own_alphabet ?n_own_longest ?n_own_dearest ?a0 ?l0 ?c0 ?k0 ?a1 ?l1 ?c1 ?k1 ?a2 ?l2 ?c2 ?k2 ?a3 ?l3 ?c3 ?k3 ?a4 ?l4 ?c4 ?k4 ?a5 ?l5 ?c5 ?k5 ?a6 ?l6 ?c6 ?k6 ?a7 ?i7 ?l7 ?c7 ?k7 ?a8 ?l8 ?c8 ?k8 ?a9 ?l9 ?c9 ?k9 ?a10 ?l10 ?c10 ?k10 ?a11 ?l11 ?c11 ?k11 ?a12 ?i12 ?l12 ?c12 ?k12 ?a13 ?l13 ?c13 ?k13 ?a14 ?l14 ?c14 ?k14 ?a15 ?l15 ?c15 ?k15 ?a16 ?l16 ?c16 ?k16 ?a17 ?i17 ?l17 ?c17 ?k17 ?a18 ?l18 ?c18 ?k18 ?a19 ?l19 ?c19 ?k19 ?a20 ?l20 ?c20 ?k20 ?a21 ?l21 ?c21 ?k21 ?a22 ?l22 ?c22 ?k22 ?a23 ?l23 ?c23 ?k23 ?a24 ?l24 ?c24 ?k24 ?a25 ?l25 ?c25 ?k25 ?a26 ?l26 ?c26 ?k26 ?a27 ?l27 ?c27 ?k27 ?a28 ?l28 ?c28 ?k28 ?a29 ?l29 ?c29 ?k29 ?a30 ?l30 ?c30 ?k30 ?a31 ?l31 ?c31 ?k31 ?a32 ?l32 ?c32 ?k32 ?a33 ?l33 ?c33 ?k33 ?a34 ?l34 ?c34 ?k34 ?a35 ?l35 ?c35 ?k35 ?a36 ?l36 ?c36 ?k36 ?a37 ?l37 ?c37 ?k37 ?a38 ?l38 ?c38 ?k38 ?a39 ?l39 ?c39 ?k39 ?a40 ?l40 ?c40 ?k40 ?a41 ?l41 ?c41 ?k41 ?a42 ?l42 ?c42 ?k42 ?z_abs ?z_all ?z_bool ?z_dict ?z_int ?z_isinstance ?z_len ?z_list ?z_max ?z_min ?z_range ?z_repr ?z_sorted ?z_str ?z_tuple ?y_MAX_ALPHABET ?y_MAX_PIECES ?y_MAX_PRICE ?y_PIECE_SIGNS ?y_TEXT_SIGNS
    (case aC => k_is)
    (case pg => k_is)
    (case hd => k_is)
    (case po => k_is)
    (case sa => k_is)
    (case mk => k_is)
    (case kc => k_is)
    (case iha => k_is)
    (case ihn => k_is)
    (case iht => k_is)
    (case ihm => k_is)
    (case n_own_prices => k_is)
    (case n_own_pieces => k_is)
    (case n_own_alphabet => k_is)
    (case n_own_longest => k_is)
    (case n_own_dearest => k_is)
    (case a0 => k_is)
    (case l0 => k_is)
    (case c0 => k_is)
    (case k0 => k_is)
    (case a1 => k_is)
    (case l1 => k_is)
    (case c1 => k_is)
    (case k1 => k_is)
    (case a2 => k_is)
    (case l2 => k_is)
    (case c2 => k_is)
    (case k2 => k_is)
    (case a3 => k_is)
    (case l3 => k_is)
    (case c3 => k_is)
    (case k3 => k_is)
    (case a4 => k_is)
    (case l4 => k_is)
    (case c4 => k_is)
    (case k4 => k_is)
    (case a5 => k_is)
    (case l5 => k_is)
    (case c5 => k_is)
    (case k5 => k_is)
    (case a6 => k_is)
    (case l6 => k_is)
    (case c6 => k_is)
    (case k6 => k_is)
    (case a7 => k_is)
    (case i7 => k_is)
    (case l7 => k_is)
    (case c7 => k_is)
    (case k7 => k_is)
    (case a8 => k_is)
    (case l8 => k_is)
    (case c8 => k_is)
    (case k8 => k_is)
    (case a9 => k_is)
    (case l9 => k_is)
    (case c9 => k_is)
    (case k9 => k_is)
    (case a10 => k_is)
    (case l10 => k_is)
    (case c10 => k_is)
    (case k10 => k_is)
    (case a11 => k_is)
    (case l11 => k_is)
    (case c11 => k_is)
    (case k11 => k_is)
    (case a12 => k_is)
    (case i12 => k_is)
    (case l12 => k_is)
    (case c12 => k_is)
    (case k12 => k_is)
    (case a13 => k_is)
    (case l13 => k_is)
    (case c13 => k_is)
    (case k13 => k_is)
    (case a14 => k_is)
    (case l14 => k_is)
    (case c14 => k_is)
    (case k14 => k_is)
    (case a15 => k_is)
    (case l15 => k_is)
    (case c15 => k_is)
    (case k15 => k_is)
    (case a16 => k_is)
    (case l16 => k_is)
    (case c16 => k_is)
    (case k16 => k_is)
    (case a17 => k_is)
    (case i17 => k_is)
    (case l17 => k_is)
    (case c17 => k_is)
    (case k17 => k_is)
    (case a18 => k_is)
    (case l18 => k_is)
    (case c18 => k_is)
    (case k18 => k_is)
    (case a19 => k_is)
    (case l19 => k_is)
    (case c19 => k_is)
    (case k19 => k_is)
    (case a20 => k_is)
    (case l20 => k_is)
    (case c20 => k_is)
    (case k20 => k_is)
    (case a21 => k_is)
    (case l21 => k_is)
    (case c21 => k_is)
    (case k21 => k_is)
    (case a22 => k_is)
    (case l22 => k_is)
    (case c22 => k_is)
    (case k22 => k_is)
    (case a23 => k_is)
    (case l23 => k_is)
    (case c23 => k_is)
    (case k23 => k_is)
    (case a24 => k_is)
    (case l24 => k_is)
    (case c24 => k_is)
    (case k24 => k_is)
    (case a25 => k_is)
    (case l25 => k_is)
    (case c25 => k_is)
    (case k25 => k_is)
    (case a26 => k_is)
    (case l26 => k_is)
    (case c26 => k_is)
    (case k26 => k_is)
    (case a27 => k_is)
    (case l27 => k_is)
    (case c27 => k_is)
    (case k27 => k_is)
    (case a28 => k_is)
    (case l28 => k_is)
    (case c28 => k_is)
    (case k28 => k_is)
    (case a29 => k_is)
    (case l29 => k_is)
    (case c29 => k_is)
    (case k29 => k_is)
    (case a30 => k_is)
    (case l30 => k_is)
    (case c30 => k_is)
    (case k30 => k_is)
    (case a31 => k_is)
    (case l31 => k_is)
    (case c31 => k_is)
    (case k31 => k_is)
    (case a32 => k_is)
    (case l32 => k_is)
    (case c32 => k_is)
    (case k32 => k_is)
    (case a33 => k_is)
    (case l33 => k_is)
    (case c33 => k_is)
    (case k33 => k_is)
    (case a34 => k_is)
    (case l34 => k_is)
    (case c34 => k_is)
    (case k34 => k_is)
    (case a35 => k_is)
    (case l35 => k_is)
    (case c35 => k_is)
    (case k35 => k_is)
    (case a36 => k_is)
    (case l36 => k_is)
    (case c36 => k_is)
    (case k36 => k_is)
    (case a37 => k_is)
    (case l37 => k_is)
    (case c37 => k_is)
    (case k37 => k_is)
    (case a38 => k_is)
    (case l38 => k_is)
    (case c38 => k_is)
    (case k38 => k_is)
    (case a39 => k_is)
    (case l39 => k_is)
    (case c39 => k_is)
    (case k39 => k_is)
    (case a40 => k_is)
    (case l40 => k_is)
    (case c40 => k_is)
    (case k40 => k_is)
    (case a41 => k_is)
    (case l41 => k_is)
    (case c41 => k_is)
    (case k41 => k_is)
    (case a42 => k_is)
    (case l42 => k_is)
    (case c42 => k_is)
    (case k42 => k_is)
    (case z_abs => k_is)
    (case z_all => k_is)
    (case z_bool => k_is)
    (case z_dict => k_is)
    (case z_int => k_is)
    (case z_isinstance => k_is)
    (case z_len => k_is)
    (case z_list => k_is)
    (case z_max => k_is)
    (case z_min => k_is)
    (case z_range => k_is)
    (case z_repr => k_is)
    (case z_sorted => k_is)
    (case z_str => k_is)
    (case z_tuple => k_is)
    (case y_MAX_ALPHABET => k_is)
    (case y_MAX_PIECES => k_is)
    (case y_MAX_PRICE => k_is)
    (case y_PIECE_SIGNS => k_is)
    (case y_TEXT_SIGNS => k_is)
#print axioms PySem.Challenge.cw_cutbehind_k45_besides_holds
