import PyProof.Rows.All
import Wide.All
import OpenK.AllK
import Wide.FinOn
import PyProof.EqAt
import PyProof.EqKinds
import PyProof.TupleCall
import HandS.ForMost
import HandS.Wide
import HandS.IsInst
import HandS.Walk
import HandS.Style
import HandS.More
import HandS.TupAny
import HandS.TupMul
import HandS.Set
import HandS.SetTxt0
import HandS.SetTxtIn
import HandS.SetFor
import HandS.DictComp
import HandS.ListItems
import HandS.Property
import KE.KDictCopyH
import HandS.Codes
import HandS.DictTup
import KE.KSortTup
import PyProof.Rows.SortKeyStr
import HandS.OwnEq
import HandS.Exc
import HandS.ExcOwn
import HandS.TryMany
import HandS.WordsExc
import HandS.RevTup
import HandS.List
import HandS.Base
import KE.KDictItemsList
import KE.KDictExact
import KE.KNest
import KE.KNestM
import HandS.Lambda
import HandS.EndTab
import HandS.EndOwn
import HandS.ExcIs
import PyProof.SliceStr2
import KE.KRevSl
import HandS.Text
import HandS.SortKw
import KE.SortKeyHeap
import PyProof.Rows.SortShellAny
import HandS.MakeKwOnly
import HandS.CallSlots
import HandS.SetBool
import HandS.Strs
import HandS.SortInts
import HandS.ListEq
import HandS.Star
import HandS.ClsMeth
import HandS.Zip
import HandS.Small
import HandS.RevRange
import PySem.Challenge.RW_cutbehind_k61_whole_edits_move_what_was
set_option Elab.async false
set_option linter.all false
set_option maxRecDepth 100000
set_option maxHeartbeats 4000000
/-! The part that every claim shares: defs that are run where no repr is under way (FnG), and rules for what the hand layer lacks. -/
namespace G
open PySem PySem.Spec PyProof.Rows L2
/-! ### a def's promise where no guarded builtin is running -/
structure FnG (P : Program) (w : World) (K : PySem.W.Frag) (mg : Str → Option Value) (base : Heap) (CX : CXT) (k : Nat) (f : Addr) (fd : FuncData) (ps : List Str) (sp : Sp) : Prop where
  cnt : ∀ {vs H Q E}, sp vs H Q E → vs.length = ps.length
  go : ∀ {A : Around} {outer : List Env} {s : Shared} {H : Hp} {args : Args} {us : List Value} {vs : List V} {Q : VK} {E : XK}, A.guards = some [] → Room k A → Env0 P w K mg base A outer s H →
    BindsTo s fd args (ps.zip us) → Vals vs us → sp vs H Q E → codeAny (model P w) A (.call (.ref f) args) (CR CX outer P w H s Q E) s
section
variable {P : Program} {w : World} {K : PySem.W.Frag} {mg : Str → Option Value} {base : Heap} {CX : CXT} {k : Nat} {f : Addr} {fd : FuncData} {ps : List Str} {sp : Sp}
theorem FnG.of (F : FnOk P w K mg base CX k f fd ps sp) : FnG P w K mg base CX k f fd ps sp :=
  ⟨fun h => F.len _ _ _ _ h, fun {A outer s H args us vs Q E} _ hr e0 hb hv hs => F.run A outer s H args us vs Q E hr e0 hb hv hs⟩
theorem FnG.mono {j : Nat} (F : FnG P w K mg base CX j f fd ps sp) (h : j ≤ k) : FnG P w K mg base CX k f fd ps sp :=
  ⟨F.cnt, fun hg hr => F.go hg (hr.mono h)⟩
end
/-- the rule for a def of the text, by its body; the body's reader is told that nothing guarded runs -/
theorem fn_gK {CX : CXT} {P : Program} {w : World} {K : PySem.W.Frag} {mg : Str → Option Value} {base : Heap} {k : Nat} {f : Addr} {x qual : Str} {st : Stmt} {fd : FuncData} {N ps : List Str} {sp : Sp}
    (F : Fun K x qual st f fd) (S : FnScope N ps (defScope st)) (cnt : ∀ vs H Q E, sp vs H Q E → vs.length = ps.length)
    (body : ∀ (cdv : Value), fd.code = cdv → ∀ (A : Around) (outer : List Env) (s : Shared) (H : Hp) (vs : List V) (Q : VK) (E : XK), (A.deeper (envOfC qual (defScope st) s.heap.objs.size f cdv)).guards = some [] →
      Room k (A.deeper (envOfC qual (defScope st) s.heap.objs.size f cdv)) → sp vs H Q E →
      ∃ t, PSs (cxOf CX P w K mg base N qual (defScope st) f cdv A outer s H E) (defBody st) t ∧ t { nx := fun _ H' => Q .non H', rt := Q } (start N vs) H) :
    FnG P w K mg base CX (k + 1) f fd ps sp := by
  obtain ⟨oc, od, kV, doc, pm, an, cdv, ct, osl, hfd, look, code⟩ := F.ex
  subst hfd
  refine ⟨fun h => cnt _ _ _ _ h, ?_⟩
  intro A outer s H args us vs Q E hg room env0 hbind hvals want
  have kin : K.In s.heap := env0.mod.kin.keeps fun b o q => (env0.bs b o q).1
  have nolim : s.heap.NoLimit := env0.mod.nolimit.keeps fun b o q => (env0.bs b o q).1
  have kinds : ∀ y ∈ ps.zip us, (defScope st).names.lookup y.1 = some .local ∨ ((defScope st).names.lookup y.1 = some .cell ∧ ((cellsFrom (s.heap.objs.size + 1) (defScope st).names []).lookup y.1).isSome = true) := by
    rintro ⟨n, v⟩ hy
    cases S.par n (List.of_mem_zip hy).1 with
    | inl q => exact Or.inl q
    | inr q => exact Or.inr ⟨q, PySem.W.cellsFrom_some _ _ _ (Or.inl q)⟩
  refine codeAny_call_function room.depth (kin _ _ look) rfl S.co S.gen rfl (PySem.W.codeRec_of kin code) (hbind _ _ _ _ ?_)
  refine wpAny_newFunctionEnv_cells S.kind kinds ?_
  intro env he s1 z
  subst he
  refine ⟨nolim.keeps z.toInCall.keep, codeAny_func ?_⟩
  obtain ⟨t, ht, hq⟩ := body cdv rfl A outer s H vs Q E hg (room.deeper _) want
  have I0 := inv_start (CX := CX) (P := P) (w := w) (mg := mg) (base := base) (qual := qual) (E := E) S room.hd env0 (cnt _ _ _ _ want) hvals z
  refine wpAny_mono (ht.run [] s1 (start N vs) H _ I0 hq) ?_ (fun _ _ q => q)
  intro fl s' hs
  cases fl with
  | ret u =>
    obtain ⟨v, σ', H', J, rv, q⟩ := hs
    exact ⟨v, H', J.os, J.bare, J.base, J.hok, rv, q⟩
  | next =>
    obtain ⟨σ', H', J, q⟩ := hs
    exact ⟨V.non, H', J.os, J.bare, J.base, J.hok, rfl, q⟩
  | brk => exact hs.elim fun _ z => z.elim fun _ z => False.elim z.2
  | cont => exact hs.elim fun _ z => z.elim fun _ z => False.elim z.2
theorem fn_g {CX : CXT} {P : Program} {w : World} {K : PySem.W.Frag} {mg : Str → Option Value} {base : Heap} {k : Nat} {f : Addr} {x qual : Str} {st : Stmt} {fd : FuncData} {N ps : List Str} {sp : Sp}
    (F : Fun K x qual st f fd) (S : FnScope N ps (defScope st)) (cnt : ∀ vs H Q E, sp vs H Q E → vs.length = ps.length)
    (body : ∀ (cdv : Value) (A : Around) (outer : List Env) (s : Shared) (H : Hp) (vs : List V) (Q : VK) (E : XK), (A.deeper (envOfC qual (defScope st) s.heap.objs.size f cdv)).guards = some [] →
      Room k (A.deeper (envOfC qual (defScope st) s.heap.objs.size f cdv)) → sp vs H Q E →
      ∃ t, PSs (cxOf CX P w K mg base N qual (defScope st) f cdv A outer s H E) (defBody st) t ∧ t { nx := fun _ H' => Q .non H', rt := Q } (start N vs) H) :
    FnG P w K mg base CX (k + 1) f fd ps sp := fn_gK F S cnt fun cdv _ => body cdv
/-- a def that lets nothing out, its code object known -/
theorem fn_gC {P : Program} {w : World} {K : PySem.W.Frag} {mg : Str → Option Value} {base : Heap} {k : Nat} {f c : Addr} {x qual : Str} {st : Stmt} {fd : FuncData} {N ps : List Str} {sp : Sp}
    (F : Fun K x qual st f fd) (hc : fd.code = .ref c) (S : FnScope N ps (defScope st)) (cnt : ∀ vs H Q E, sp vs H Q E → vs.length = ps.length)
    (body : ∀ (A : Around) (outer : List Env) (s : Shared) (H : Hp) (vs : List V) (Q : VK) (E : XK), (A.deeper (envOfC qual (defScope st) s.heap.objs.size f (.ref c))).guards = some [] →
      Room k (A.deeper (envOfC qual (defScope st) s.heap.objs.size f (.ref c))) → sp vs H Q E →
      ∃ t, PSs (cxOf CX0 P w K mg base N qual (defScope st) f (.ref c) A outer s H E).nox (defBody st) t ∧ t { nx := fun _ H' => Q .non H', rt := Q } (start N vs) H) :
    FnG P w K mg base CX0 (k + 1) f fd ps sp := fn_gK F S cnt fun cdv e A outer s H vs Q E hg hr h => by
  rw [hc] at e
  subst e
  obtain ⟨t, ht, hq⟩ := body A outer s H vs Q E hg hr h
  exact ⟨t, ht.nox, hq⟩
/-- a def that lets nothing out -/
theorem fn_g0 {P : Program} {w : World} {K : PySem.W.Frag} {mg : Str → Option Value} {base : Heap} {k : Nat} {f : Addr} {x qual : Str} {st : Stmt} {fd : FuncData} {N ps : List Str} {sp : Sp}
    (F : Fun K x qual st f fd) (S : FnScope N ps (defScope st)) (cnt : ∀ vs H Q E, sp vs H Q E → vs.length = ps.length)
    (body : ∀ (cdv : Value) (A : Around) (outer : List Env) (s : Shared) (H : Hp) (vs : List V) (Q : VK) (E : XK), (A.deeper (envOfC qual (defScope st) s.heap.objs.size f cdv)).guards = some [] →
      Room k (A.deeper (envOfC qual (defScope st) s.heap.objs.size f cdv)) → sp vs H Q E →
      ∃ t, PSs (cxOf CX0 P w K mg base N qual (defScope st) f cdv A outer s H E).nox (defBody st) t ∧ t { nx := fun _ H' => Q .non H', rt := Q } (start N vs) H) :
    FnG P w K mg base CX0 (k + 1) f fd ps sp := fn_g F S cnt fun cdv A outer s H vs Q E hg hr h => by
  obtain ⟨t, ht, hq⟩ := body cdv A outer s H vs Q E hg hr h
  exact ⟨t, ht.nox, hq⟩

/-! ### a def as its callers use it -/
structure Has (P : Program) (w : World) (K : PySem.W.Frag) (mg : Str → Option Value) (base : Heap) (CX : CXT) (k : Nat) (x : Str) (ps : List Str) (sp : Sp) : Prop where
  ex : ∃ f fd, FnG P w K mg base CX k f fd ps sp ∧ mg x = some (.ref f) ∧ PySem.W.keepIn K (.ref f) = true ∧ Binds K fd ps []
theorem Has.mono {P : Program} {w : World} {K : PySem.W.Frag} {mg : Str → Option Value} {base : Heap} {CX : CXT} {j k : Nat} {x : Str} {ps : List Str} {sp : Sp} (F : Has P w K mg base CX j x ps sp) (h : j ≤ k) : Has P w K mg base CX k x ps sp := by
  obtain ⟨f, fd, G, r⟩ := F.ex
  exact ⟨f, fd, G.mono h, r⟩
theorem Has.mk' {P : Program} {w : World} {K : PySem.W.Frag} {mg : Str → Option Value} {base : Heap} {CX : CXT} {k : Nat} {x qual : Str} {ps : List Str} {sp : Sp} {f : Addr} {fd : FuncData} {st : Stmt} (F : Fun K x qual st f fd) (hm : mg x = some (.ref f)) (hb : Binds K fd ps [])
    (G : FnG P w K mg base CX k f fd ps sp) : Has P w K mg base CX k x ps sp := ⟨f, fd, G, hm, F.kp, hb⟩
section
variable {X : Cx} {CX : CXT} {k : Nat} {x : Str} {ps : List Str} {sp : Sp} {E : XK} {p pos : Pos} {e : Expr} {es : List Expr} {t : TA}
theorem run_g {f : Addr} {fd : FuncData} {pins : List (Addr × Obj)} {σ : L2.St} {H : Hp} {s : Shared} {Q : VK} {us : List Value} {vs : List V} (F : FnG X.prog X.w X.K X.mg X.base CX k f fd ps sp) (hg : X.A.guards = some []) (hr : Room k X.A) (hb : Binds X.K fd ps []) (hx : Passes CX X E)
    (I : Inv X pins σ H s) (r : Vals vs us) (h : sp vs H Q E) : wpAny (model X.prog X.w) X.A (call (.ref f) us) (EP X pins σ Q) X.xe s := by
  have hl : (us ++ []).length = ps.length := by
    rw [List.append_nil, ← r.length]
    exact F.cnt h
  have hb' := hb s us I.kIn hl
  rw [List.append_nil] at hb'
  refine wpAny_call (codeAny_mono (F.go hg hr I.env0 hb' r h) ?_)
  intro res s' q
  cases res with
  | error err => exact hx pins σ H s err s' I q
  | ok fl =>
    cases fl with
    | ret u => exact I.after q
    | next => exact q.elim
    | brk => exact q.elim
    | cont => exact q.elim
theorem pe_has (F : Has X.prog X.w X.K X.mg X.base CX k x ps sp) (hg : X.A.guards = some []) (hr : Room k X.A) (hx : Passes CX X E) (ha : PA X (e :: es) t) (hl : Gl X x := by rfl)
    (hdb : (x == ("__debug__" : Str)) = false := by decide) (he : starEach (e :: es) X.env = (false, eval e X.env) :: starEach es X.env := by rfl) (hpl : (backTo pos (starEach es X.env)).any (·.1) = false := by rfl) :
    PE X (.Call (.Name x p) (e :: es) [] pos) (tCall sp [] E t) := by
  obtain ⟨f, fd, G, hm, hk, hb⟩ := F.ex
  constructor
  intro pins s σ H Q I h
  refine wpAny_Call_Name_kw (ld_glob I hl hm ?_ hdb)
  refine PySem.W.callWith_K (h₀ := X.base) I.ok.mod.kin hk (thn (ha.run pos pins s σ H _ I h) ?_) he hpl
  rintro us s1 ⟨vs, H1, I1, r, q⟩
  refine ⟨I1.kIn, run_g G hg hr hb hx I1 r ?_⟩
  have q' : sp (vs ++ []) H1 Q E := q
  rw [List.append_nil] at q'
  exact q'
theorem pe_has0 (F : Has X.prog X.w X.K X.mg X.base CX k x ps sp) (hg : X.A.guards = some []) (hr : Room k X.A) (hx : Passes CX X E) (hl : Gl X x := by rfl) (hdb : (x == ("__debug__" : Str)) = false := by decide) :
    PE X (.Call (.Name x p) [] [] pos) (tCall sp [] E tNil) := by
  obtain ⟨f, fd, G, hm, hk, hb⟩ := F.ex
  constructor
  intro pins s σ H Q I h
  refine wpAny_Call_Name_kw (ld_glob I hl hm ?_ hdb)
  exact PySem.W.callWith_K0 I.kIn hk (run_g (us := []) (vs := []) G hg hr hb hx I .nil h)
end

/-! ### rules for ints of any size, texts, lists, repr -/
section
variable {X : Cx}
def CPowW (i j : Int) : Prop := 0 ≤ j ∧ (Builtin.Int.intBits i : Int) * j ≤ 2 ^ 27
theorem op_powW : OpR X (binaryOp .Pow) (rI CPowW fun i j => .int (i ^ j.toNat)) := by
  intro pins s σ H x y v u Q I rx ry h
  obtain ⟨i, j, rfl, rfl, ⟨h1, h2⟩, q⟩ := h
  obtain ⟨t1, rfl⟩ := rx
  obtain ⟨t2, rfl⟩ := ry
  exact pow_int h1 h2 ⟨V.int _, H, I.tok _, ⟨_, rfl⟩, q⟩
/-- a text said n times, n at least 2 -/
def sRep (z : Str) (n : Nat) : Str := ⟨(List.replicate n z.cps).foldl (· ++ ·) #[]⟩
def rMulS : R2 := fun x y H Q => ∃ (z : Str) (n : Int), x = .str z ∧ y = .int n ∧ 1 < n ∧ n < 2 ^ 40 ∧ 0 < z.length ∧ z.length * n.toNat ≤ sizeLine ∧ Q (.str (sRep z n.toNat)) H
theorem op_mulS : OpR X (binaryOp .Mult) rMulS := by
  intro pins s σ H x y v u Q I rx ry h
  obtain ⟨z, n, rfl, rfl, h1, h2, h3, h4, q⟩ := h
  obtain ⟨t1, rfl⟩ := rx
  obtain ⟨t2, rfl⟩ := ry
  have hz : sizeLine = 16777216 := sizeLine_eq
  have c0 : ¬ n < 1 := by omega
  have c1 : (n == 1 || z.length == 0) = false := by
    have a : (n == 1) = false := beq_eq_false_iff_ne.mpr (by omega)
    have b : (z.length == 0) = false := beq_eq_false_iff_ne.mpr (by omega)
    rw [a, b]
    rfl
  have h5 : (z.length * n.toNat : Nat) ≤ 16777216 := by rw [← hz]; exact h4
  refine PySem.P.mul_str ?_ ?_ ?_ ?_
  · have a : ¬ n < -(2 ^ 63 : Int) := by omega
    have b : ¬ n ≥ 2 ^ 63 := by omega
    rw [decide_eq_false a, decide_eq_false b]
    rfl
  · intro _ _ hgt
    have hn0 : (0 : Int) < n := by omega
    have e1 : (z.length : Int) ≤ 16777216 := by
      have : z.length * 1 ≤ z.length * n.toNat := Nat.mul_le_mul_left _ (by omega)
      omega
    have e2 : (8388608 : Int) ≤ (2 ^ 63 - 1) / n := by
      rw [Int.le_ediv_iff_mul_le hn0]
      have : 8388608 * n < 8388608 * 2 ^ 40 := by omega
      have e3 : (8388608 : Int) * 2 ^ 40 = 2 ^ 63 := by decide
      omega
    have e4 : (z.length : Int) ≤ 8388608 := by
      have : z.length * 2 ≤ z.length * n.toNat := Nat.mul_le_mul_left _ (by omega)
      omega
    omega
  · intro _ _
    unfold Builtin.Str.tooLong
    have : ¬ (z.length * n.toNat) > sizeLine := by omega
    simpa using this
  · rw [if_neg c0, c1]
    exact ⟨by
      show (sRep z n.toNat).length ≤ sizeLine
      exact fits_reps (by unfold Builtin.Str.tooLong; simpa using (show ¬ (z.length * n.toNat) > sizeLine by omega)), ⟨V.str _, H, I.tok _, ⟨_, rfl⟩, q⟩⟩

/-- the signs of a text, each a text -/
def signsV (z : Str) : List V := z.cps.toList.map fun c => V.str ⟨#[c]⟩
def rListS : List V → Hp → VK → Prop := fun xs H Q => ∃ z : Str, xs = [.str z] ∧ z.length ≤ sizeLine ∧ ∀ p, H p = none → Q (.ref p) (upd H p (.lst (signsV z)))
theorem vals_at : ∀ (xs : List V) (us : List Value), us.length = xs.length → (∀ (j : Nat) (u : Value), us[j]? = some u → ∃ x, xs[j]? = some x ∧ RelV x u) → Vals xs us
  | [], [], _, _ => .nil
  | [], _ :: _, n, _ => by cases n
  | _ :: _, [], n, _ => by cases n
  | x :: xs, u :: us, n, at' => by
    obtain ⟨y, ey, ry⟩ := at' 0 u rfl
    cases ey
    refine .cons ry (vals_at xs us (Nat.succ.inj n) ?_)
    intro j v hv
    exact at' (j + 1) v hv
theorem call_list_str (hc : X.calm = true) : CallR X (.type "list") rListS := by
  intro pins s σ H xs us Q I r h
  obtain ⟨z, rfl, hz, q⟩ := h
  obtain ⟨u, rfl, t, rfl⟩ := vals1 r
  refine PySem.call_list_str (I.ok.hd hc) z t ?_ hz
  intro h' tk acc c' keeps at' items
  have lenA : acc.toList.length = (signsV z).length := by
    unfold signsV
    rw [List.length_map, Array.length_toList, Array.length_toList]
    exact items.1
  have va : Vals (signsV z) acc.toList := vals_at _ _ lenA fun j u hu => by
    have hj : acc[j]? = some u := by simpa using hu
    obtain ⟨c, tk2, e1, rfl⟩ := items.2 j u hj
    refine ⟨V.str ⟨#[c]⟩, ?_, ⟨tk2, rfl⟩⟩
    unfold signsV
    have e2 : z.cps.toList[j]? = some c := by simpa using e1
    rw [List.getElem?_map, e2]
    rfl
  have lz : (signsV z).length ≤ sizeLine := by
    unfold signsV
    rw [List.length_map, Array.length_toList]
    exact hz
  refine ⟨.ref s.heap.objs.size, _, I.laid (t' := tk) (o := .lst (signsV z)) keeps (Nat.le_refl _) ?_, rfl, q _ (I.hok.fresh (Nat.le_refl _))⟩
  exact ⟨lz, acc.toList, c', va, by simpa using at'⟩

/-- repr of data of any depth (no dict within) -/
def rRepr (K : PySem.W.Frag) : List V → Hp → VK → Prop := fun xs H Q => ∃ x d, xs = [x] ∧ Dp K H x d ∧ d.showable = true ∧ d.hasDict = false ∧ d.depth ≤ 60 ∧ d.shown.length ≤ sizeLine ∧ Q (.str d.shown) H
theorem call_repr (hg : X.A.guards = some []) (hu : X.A.units + 64 < cLine) : CallR X (.builtin "repr") (rRepr X.K) := by
  intro pins s σ H xs us Q I r h
  obtain ⟨x, d, rfl, hd, hs, hD, hdep, hz, q⟩ := h
  obtain ⟨u, rfl, rx⟩ := vals1 r
  obtain ⟨as, rd⟩ := Dp.reads I d x u hd rx
  have fin : ∀ h' t tk, (∀ b o, s.heap.get? b = some o → h'.get? b = some o) → EP X pins σ Q (.str d.shown t) { s with heap := h', toks := tk } := fun h' t tk keeps =>
    ⟨V.str d.shown, H, I.kept keeps, ⟨t, rfl⟩, q⟩
  cases rd with
  | none =>
    simp only [PyData.shown] at fin
    exact PySem.P.repr_of_none (fin _ _ _ fun _ _ e => e)
  | bool b =>
    simp only [PyData.shown] at fin
    exact PySem.P.repr_of_bool (fin _ _ _ fun _ _ e => e)
  | int i t =>
    simp only [PyData.shown] at fin
    exact PySem.P.repr_of_int (by simpa [PyData.showable] using hs) (fin _ _ _ fun _ _ e => e)
  | str z t =>
    simp only [PyData.shown] at fin hz
    exact PySem.P.repr_of_str (fin _ _ _ fun _ _ e => e) hz
  | list a b c e => exact repr_of_reads' (.list a b c e) hs (PyData.noDict_hsm hD) hg (by omega) (fun _ _ e => e) fin hz
  | tuple a b c e => exact repr_of_reads' (.tuple a b c e) hs (PyData.noDict_hsm hD) hg (by omega) (fun _ _ e => e) fin hz
  | dict a b c e f => cases hD
end

/-! ### the end of a law row, for a law that is run where nothing guarded runs -/
theorem end_g {P : Program} {w : World} {K : PySem.W.Frag} {mg mb : Str → Option Value} {k : Nat} {fa a : Addr} {fd : FuncData} {x : Str} {sp : Sp} {s₁ : Shared} {vs : List Value} {ns : List Int}
    (kin : K.In s₁.heap) (nsM : s₁.heap.Ns mainGlobals mg) (nsB : s₁.heap.Ns builtinsNs mb) (plainB : ∀ x : Str, x ≠ "__name__" → mb x = bootBuiltins x) (nolim : s₁.heap.NoLimit) (gens : s₁.gens = #[])
    (at' : s₁.heap.get? a = some { cls := .type "list", data := .seq vs.toArray }) (areI : IntsAre vs ns) (short : ns.length ≤ sizeLine) (room : Room k callerA)
    (F : ∀ base : Heap, K.In base → base.Ns mainGlobals mg → FnG P w K mg base CX0 k fa fd [x] sp) (bind : ∀ (s : Shared) (u : Value), BindsTo s fd ⟨[u], []⟩ [(x, u)])
    (prom : ∀ H : Hp, Only H → SqL K H a (ns.map V.int) → sp [.ref a] H (fun v _ => v = .bl true) fun _ _ _ => False) :
    codeAny (model P w) callerA (.call (.ref fa) ⟨[.ref a], []⟩) (fun r s' => r = .ok (.ret (.bool true)) ∧ OldK s₁.heap s'.heap ∧ s'.os = s₁.os ∧ AllBare s'.gens) s₁ := by
  have hv := vals_ints areI
  have hlen := areI.length
  have go : ∀ H : Hp, Only H → SqL K H a (ns.map V.int) → HOk P w H s₁.heap → (∀ b, H b ≠ none → b = a) → (H a ≠ none → K.lookup a = none) →
      codeAny (model P w) callerA (.call (.ref fa) ⟨[.ref a], []⟩) (fun r s' => r = .ok (.ret (.bool true)) ∧ OldK s₁.heap s'.heap ∧ s'.os = s₁.os ∧ AllBare s'.gens) s₁ := by
    intro H only sq hok one notK
    have dictFree : ∀ {b : Addr} {o : Obj} {es : Array DictEntry} {ep : Nat}, s₁.heap.get? b = some o → o.data = .dict es ep → H b = none := by
      intro b o es ep e d
      match hb : H b with
      | none => rfl
      | some u =>
        have eb := one b (by rw [hb]; exact fun z => by cases z)
        rw [eb, at'] at e
        cases e
        exact absurd d (fun z => by cases z)
    have nsT : ∀ {b : Addr} {m : Str → Option Value}, s₁.heap.Ns b m → (hidT s₁.heap H).Ns b m := by
      rintro b m ⟨o, es, ep, e, d, rest⟩
      exact ⟨o, es, ep, hidT_get e (dictFree e d), d, rest⟩
    have kinT : K.In (hidT s₁.heap H) := by
      intro b o e
      refine hidT_get (kin b o e) ?_
      match hb : H b with
      | none => rfl
      | some u =>
        have nz : H b ≠ none := by rw [hb]; exact fun z => by cases z
        have eb := one b nz
        rw [eb] at nz e
        rw [notK nz] at e
        cases e
    have modT : Mod K mg (hidT s₁.heap H) := by
      refine ⟨kinT, nsT nsM, ⟨mb, nsT nsB, plainB⟩, ?_⟩
      obtain ⟨mc, l1, l2⟩ := nolim
      exact ⟨mc, nsT l1, l2⟩
    have start0 : Env0 P w K mg (hidT s₁.heap H) callerA [] s₁ H :=
      ⟨rfl, modT, fun _ _ e => of_hidT e, Nat.le_of_eq (hidT_size _ _), trivial, fun _ z => (List.not_mem_nil z).elim, hok, .of_eq gens⟩
    have ran := (F _ kinT (nsT nsM)).go (args := ⟨[.ref a], []⟩) (us := [.ref a]) (vs := [.ref a]) rfl room start0 (bind s₁ (.ref a)) (.cons rfl .nil) (prom H only sq)
    refine codeAny_mono ran ?_
    intro r s' h
    match r, h with
    | .ok (.ret u), ⟨v, H', os, bare, un, hok', rel, val⟩ =>
      have val' : v = .bl true := val
      subst val'
      have eu : u = Value.bool true := rel
      subst eu
      refine ⟨rfl, OldK.of_keep ?_, os, bare⟩
      intro b o e
      match hb : H b with
      | none => exact un.keep b o e hb (fun z => (List.not_mem_nil z).elim) (fun z => (List.not_mem_nil z).elim)
      | some _ =>
        rcases only b with z | ⟨ob, xs, z⟩
        · rw [hb] at z
          cases z
        · have old := (hok b _ z).1
          have new := (hok' b _ (un.frzs b ob _ z)).1
          rw [e] at old
          cases old
          exact new
    | .ok .next, z => exact False.elim z
    | .ok .brk, z => exact False.elim z
    | .ok .cont, z => exact False.elim z
    | .error _, z => exact False.elim z
  match hk : K.lookup a with
  | some o =>
    have e := kin a o hk
    rw [at'] at e
    cases e
    refine go (fun _ => none) (fun _ => Or.inl rfl) (Or.inr ⟨_, vs.toArray, _, hk, rfl, rfl, rfl, ?_, by simpa using hv⟩) (fun _ _ z => by cases z) (fun _ z => absurd rfl z) fun z => absurd rfl z
    rw [List.size_toArray, hlen]
    exact short
  | none =>
    let H1 : Hp := fun b => if b = a then some (.frz { cls := .type "list", data := .seq vs.toArray } (.lst (ns.map V.int))) else none
    have here : H1 a = some (.frz { cls := .type "list", data := .seq vs.toArray } (.lst (ns.map V.int))) := if_pos rfl
    have away : ∀ {b}, b ≠ a → H1 b = none := fun hb => if_neg hb
    refine go H1 (fun b => ?_) (Or.inl (Or.inr ⟨_, here⟩)) (fun b u z => ?_) (fun b z => ?_) fun _ => hk
    · by_cases hb : b = a
      · rw [hb]
        exact Or.inr ⟨_, _, here⟩
      · exact Or.inl (away hb)
    · by_cases hb : b = a
      · rw [hb] at z ⊢
        rw [here] at z
        cases z
        exact ⟨at', by rw [List.length_map]; exact short, vs, _, hv, at'⟩
      · rw [away hb] at z
        cases z
    · by_cases hb : b = a
      · exact hb
      · exact absurd (away hb) z
theorem walk_g {l : PySem.W.OpenLaw} {n k : Nat} {q : Program} {loose : List Str} {XP : (Str → Option Value) → Heap → Prop} {YP : World → Heap → Prop} {d : DefRec} {K : Params → PySem.W.Frag} {sp : PySem.W.Frag → Sp} {x : Str}
    (many : l.most = some n) (fits : n ≤ sizeLine) (plain : d.params.defaults = []) (room : Room k callerA) (hY : ∀ (w : World) (h : Heap), YP w h → (K w.params).In h)
    (F : ∀ (w : World) (mg : Str → Option Value) (fa : Addr) (h : Heap), (K w.params).In h → h.Ns mainGlobals mg → mg d.name = some (.ref fa) →
      ∃ fd : FuncData, (∀ (s : Shared) (u : Value), BindsTo s fd ⟨[u], []⟩ [(x, u)]) ∧ ∀ base : Heap, (K w.params).In base → base.Ns mainGlobals mg → FnG l.prog w (K w.params) mg base CX0 k fa fd [x] (sp (K w.params)))
    (prom : ∀ (K : PySem.W.Frag) (H : Hp) (a : Addr) (ns : List Int), ns.length ≤ n → Only H → SqL K H a (ns.map V.int) → sp K [.ref a] H (fun v _ => v = .bl true) fun _ _ _ => False) :
    PySem.W.WalkO q loose XP YP l.row.toRowW d [] (fun f vs => PySem.call f vs) := by
  refine Att.attach_call many plain ?_
  intro w s₀ s₁ mg mb fa o pm cd doc a vs ns G Y ho hd hcd hmg hobj hints hlen hgens
  obtain ⟨fd, bind, hF⟩ := F w mg fa _ (hY w _ Y) G.T.g hmg
  exact end_g (hY w _ Y) G.T.g G.T.b G.T.builtins G.T.nolimit hgens hobj hints (Nat.le_trans hlen fits) room hF bind fun H only sq => prom _ H a ns hlen only sq
end G
/-! The layer's rules with the written part K named, so that they serve within a comprehension. -/
namespace G
open PySem PySem.Spec PyProof.Rows L2
section
variable {X : Cx} (K : PySem.W.Frag)
theorem g_ix_list (e : X.K = K := by rfl) : IxR X (rIxL K) := by
  subst e
  exact ix_list
theorem g_ix_tup (e : X.K = K := by rfl) : IxR X (rIxT K) := by
  subst e
  exact ix_tup
theorem g_ix_seq (e : X.K = K := by rfl) : IxR X (rIx K) := by
  subst e
  exact ix_seq
def rLenQ : List V → Hp → VK → Prop := fun xs H Q => ∃ p ys, xs = [.ref p] ∧ (SqL K H p ys ∨ SqT K H p ys) ∧ Q (.int (ys.length : Int)) H
theorem g_len_seq (e : X.K = K := by rfl) : CallR X (.builtin "len") (rLenQ K) := by
  subst e
  exact call_len_seq
def rLenG : List V → Hp → VK → Prop := fun xs H Q => ∃ x n, xs = [x] ∧ LenV K x H n ∧ Q (.int (n : Int)) H
theorem g_len (e : X.K = K := by rfl) : CallR X (.builtin "len") (rLenG K) := by
  subst e
  exact call_len
def rListQ : List V → Hp → VK → Prop := fun xs H Q => ∃ p ys, xs = [.ref p] ∧ (SqL K H p ys ∨ SqT K H p ys) ∧ ∀ l, H l = none → Q (.ref l) (upd H l (.lst ys))
theorem g_list_of (e : X.K = K := by rfl) : CallR X (.type "list") (rListQ K) := by
  subst e
  exact call_list_of
def rListAny : List V → Hp → VK → Prop := fun xs H Q => rListS xs H Q ∨ rListQ K xs H Q
theorem g_list_any (hc : X.calm = true) (e : X.K = K := by rfl) : CallR X (.type "list") (rListAny K) := fun pins s σ H xs us Q I r h => by
  rcases h with h | h
  · exact call_list_str hc pins s σ H xs us Q I r h
  · exact g_list_of K e pins s σ H xs us Q I r h
def rDictP : List V → Hp → VK → Prop := fun xs H Q => ∃ (a : Addr) (ps : List Addr) (kvs : List (Key × V)), xs = [.ref a] ∧ SqL K H a (ps.map V.ref) ∧ Paired (fun p kv => SqT K H p [kV kv.1, kv.2]) ps kvs ∧ ∀ p, H p = none → Q (.ref p) (upd H p (.dK (mergeK [] kvs)))
theorem g_dictP (hc : X.calm = true) (e : X.K = K := by rfl) : CallR X (.type "dict") (rDictP K) := by
  subst e
  exact call_dictP hc
def rTupQ : List V → Hp → VK → Prop := fun xs H Q => ∃ p ys, xs = [.ref p] ∧ ((SqL K H p ys ∧ ∀ l, H l = none → Q (.ref l) (upd H l (.tup ys))) ∨ (SqT K H p ys ∧ Q (.ref p) H))
theorem g_tuple_of (e : X.K = K := by rfl) : CallR X (.type "tuple") (rTupQ K) := by
  subst e
  exact call_tuple_of
theorem g_isi (e : X.K = K := by rfl) : CallR X (.builtin "isinstance") (rIsi K) := by
  subst e
  exact call_isi
theorem g_isiT (e : X.K = K := by rfl) : CallR X (.builtin "isinstance") (rIsiT K) := by
  subst e
  exact call_isiT
theorem g_all (hc : X.calm = true) (e : X.K = K := by rfl) : CallR X (.builtin "all") (rAll K) := by
  subst e
  exact cr_all hc
theorem g_any (hc : X.calm = true) (e : X.K = K := by rfl) : CallR X (.builtin "any") (rAny K) := by
  subst e
  exact cr_any hc
theorem g_sum (hc : X.calm = true) (e : X.K = K := by rfl) : CallR X (.builtin "sum") (rSum K) := by
  subst e
  exact cr_sum hc
theorem g_max (hc : X.calm = true) (e : X.K = K := by rfl) : CallR X (.builtin "max") (rMax K) := by
  subst e
  exact cr_max hc
theorem g_min (hc : X.calm = true) (e : X.K = K := by rfl) : CallR X (.builtin "min") (rMin K) := by
  subst e
  exact cr_min hc
theorem g_sortedS (e : X.K = K := by rfl) : CallR X (.builtin "sorted") (rSortedS K) := by
  subst e
  exact cr_sortedS
theorem g_in_seq (e : X.K = K := by rfl) : OpR X (compareOp .In) (rIn K false) := by
  subst e
  exact op_in_seq
theorem g_notIn_seq (e : X.K = K := by rfl) : OpR X (compareOp .NotIn) (rIn K true) := by
  subst e
  exact op_notIn_seq
theorem g_eqD (hu : X.A.units + 64 < cLine) (e : X.K = K := by rfl) : OpR X (compareOp .Eq) (rEqD K) := by
  subst e
  exact op_eqD hu
theorem g_neD (hu : X.A.units + 64 < cLine) (e : X.K = K := by rfl) : OpR X (compareOp .NotEq) (rNeD K) := by
  subst e
  exact op_neD hu
theorem g_sl_list (e : X.K = K := by rfl) : SlR X (rSlL K) := by
  subst e
  exact sl_list
theorem g_sl_tup (e : X.K = K := by rfl) : SlR X (rSlA K) := by
  subst e
  exact sl_tupA
theorem g_repr (hg : X.A.guards = some []) (hu : X.A.units + 64 < cLine) (e : X.K = K := by rfl) : CallR X (.builtin "repr") (rRepr K) := by
  subst e
  exact call_repr hg hu
theorem g_fld {x : Expr} {f : Str} {pos : Pos} {ta : TE} (he : PE X x ta) (hb : attributeBase x f X.env (eval x X.env) = eval x X.env := by rfl) (e : X.K = K := by rfl) : PE X (.Attribute x f pos) (tFld K ta f) := by
  subst e
  exact pe_fld he hb
theorem g_list {tg l : Expr} {tl : TE} (hl : PE X l tl) (e : X.K = K := by rfl) : PI X tg l (iList K tl) := by
  subst e
  exact pi_list hl
theorem g_tuple {tg l : Expr} {tl : TE} (hl : PE X l tl) (e : X.K = K := by rfl) : PI X tg l (iTup K tl) := by
  subst e
  exact pi_tup hl
theorem g_tup {es : List Expr} {k : Nat} {t : TGs} {n : Nat} {pos : Pos} (hc : X.calm = true) (h : PGs X es t) (hn : (assignEach es X.env).length = n := by rfl) (hst : (assignEach es X.env).findIdx? (·.1) = none := by rfl) (e : X.K = K := by rfl) :
    PG X (.Tuple es k pos) (gTup K n t) := by
  subst e
  exact pg_tup hc h hn hst
/-- sep.join(a list or a tuple of texts) -/
def rJoin : V → List V → Hp → VK → Prop := fun x xs H Q => ∃ a p, ∃ ys : List Str, x = .str a ∧ xs = [.ref p] ∧ (SqL K H p (ys.map V.str) ∨ SqT K H p (ys.map V.str)) ∧ (ys.map (·.length)).sum + ys.length * a.length ≤ 16777216 ∧ Q (.str (Txt.join a ys)) H
theorem g_join {o x : Expr} {to te : TE} {apos pos : Pos} (ho : PE X o to) (he : PE X x te) (hs : starEach [x] X.env = [(false, eval x X.env)] := by rfl) (hbase : attributeBase o "join" X.env (eval o X.env) = eval o X.env := by rfl) (hline : (apos.endLine == pos.line) = true := by rfl) (e : X.K = K := by rfl) :
    PE X (.Call (.Attribute o "join" apos) [x] [] pos) (tM1 (rJoin K) to te) := by
  subst e
  exact pe_join ho he hs hbase hline
theorem g_bm0 {T name id : String} {o : Expr} {to : TE} {r : V → List V → Hp → VK → Prop} {apos cpos : Pos} (pa : PlainAttrs T) (slot : Slot T name id) (hty : typeOf (.builtin id) = pure (.type "method_descriptor")) (hm : MtR X id r) (ho : PE X o to)
    (hb : attributeBase o name X.env (eval o X.env) = eval o X.env := by rfl) (hl : (apos.endLine == cpos.line) = true := by rfl) (e : X.K = K := by rfl) : PE X (.Call (.Attribute o name apos) [] [] cpos) (tBM0 K T r to) := by
  subst e
  exact pe_bm0 pa slot hty hm ho hb hl
theorem g_bm {T name id : String} {o x : Expr} {xs : List Expr} {to : TE} {t : TA} {r : V → List V → Hp → VK → Prop} {apos cpos : Pos} (pa : PlainAttrs T) (slot : Slot T name id) (hty : typeOf (.builtin id) = pure (.type "method_descriptor")) (hm : MtR X id r) (ho : PE X o to) (ha : PA X (x :: xs) t)
    (hb : attributeBase o name X.env (eval o X.env) = eval o X.env := by rfl) (hf : ((backTo cpos (starEach (x :: xs) X.env)).all (fun y => !y.1) && (backToKw cpos (keywordEach [] X.env)).all (fun y => y.1.isSome) &&
      decide ((x :: xs).length + ([] : List Keyword).length + (if ([] : List Keyword).isEmpty then 0 else 1) < 30)) = true := by rfl)
    (hl : (apos.endLine == cpos.line) = true := by rfl) (hs : starEach (x :: xs) X.env = (false, eval x X.env) :: starEach xs X.env := by rfl) (hp : (backTo cpos (starEach xs X.env)).any (·.1) = false := by rfl) (e : X.K = K := by rfl) :
    PE X (.Call (.Attribute o name apos) (x :: xs) [] cpos) (tBM K T r to t) := by
  subst e
  exact pe_bm pa slot hty hm ho ha hb hf hl hs hp
end
end G
namespace G
open PySem PySem.Spec PyProof.Rows L2
theorem itT {c : Bool} {A B : Prop} (hc : c = true) (h : A) : if c = true then A else B := by
  rw [if_pos hc]
  exact h
theorem itF {c : Bool} {A B : Prop} (hc : c = false) (h : B) : if c = true then A else B := by
  rw [hc, if_neg Bool.false_ne_true]
  exact h
/-- an if on a Bool that is not known -/
theorem itB {c : Bool} {A B : Prop} (h1 : c = true → A) (h2 : c = false → B) : if c = true then A else B := by
  cases c
  · exact itF rfl (h2 rfl)
  · exact itT rfl (h1 rfl)
/-! ### kinds of values -/
def isStr : V → Bool | .str _ => true | _ => false
def isBl : V → Bool | .bl _ => true | _ => false
def isIntB : V → Bool | .int _ => true | .bl _ => true | _ => false
def Tyd (K : PySem.W.Frag) (H : Hp) (x : V) : Prop := ∃ t, TyX K H x t ∧ PySem.W.kitOne K t (.type "str") = some (isStr x) ∧ PySem.W.kitOne K t (.type "int") = some (isIntB x) ∧ PySem.W.kitOne K t (.type "bool") = some (isBl x)
section
variable {K : PySem.W.Frag} {H : Hp} {x : V}
theorem tyd_of {T : String} {a b c : Bool} (h : TyX K H x (.type T)) (ha : kitB T "str" = some a) (hb : kitB T "int" = some b) (hc : kitB T "bool" = some c) (ea : isStr x = a) (eb : isIntB x = b) (ec : isBl x = c) : Tyd K H x :=
  ⟨_, h, by rw [ea]; exact kit_ty ha, by rw [eb]; exact kit_ty hb, by rw [ec]; exact kit_ty hc⟩
theorem tyd_non  : Tyd K H .non := tyd_of (a := false) (b := false) (c := false) (.base .non) (by decide +kernel) (by decide +kernel) (by decide +kernel) rfl rfl rfl
theorem tyd_bl (b : Bool) : Tyd K H (.bl b) := tyd_of (a := false) (b := true) (c := true) (.base (.bl b)) (by decide +kernel) (by decide +kernel) (by decide +kernel) rfl rfl rfl
theorem tyd_int (i : Int) : Tyd K H (.int i) := tyd_of (a := false) (b := true) (c := false) (.base (.int i)) (by decide +kernel) (by decide +kernel) (by decide +kernel) rfl rfl rfl
theorem tyd_str (z : Str) : Tyd K H (.str z) := tyd_of (a := true) (b := false) (c := false) (.base (.str z)) (by decide +kernel) (by decide +kernel) (by decide +kernel) rfl rfl rfl
theorem tyd_lst {a : Addr} {xs : List V} (h : H a = some (.lst xs)) : Tyd K H (.ref a) := tyd_of (a := false) (b := false) (c := false) (.base (.lst h)) (by decide +kernel) (by decide +kernel) (by decide +kernel) rfl rfl rfl
theorem tyd_tup {a : Addr} {xs : List V} (h : H a = some (.tup xs)) : Tyd K H (.ref a) := tyd_of (a := false) (b := false) (c := false) (.base (.tup h)) (by decide +kernel) (by decide +kernel) (by decide +kernel) rfl rfl rfl
theorem tyd_dK {a : Addr} {kvs : List (Key × V)} (h : H a = some (.dK kvs)) : Tyd K H (.ref a) := tyd_of (a := false) (b := false) (c := false) (.base (.dK h)) (by decide +kernel) (by decide +kernel) (by decide +kernel) rfl rfl rfl
end
/-! ### texts as lists of codes -/
abbrev cs (z : Str) : List Nat := z.cps.toList
theorem cs_len (z : Str) : (cs z).length = z.length := by
  show z.cps.toList.length = z.cps.size
  simp
theorem str_ext {x y : Str} (h : cs x = cs y) : x = y := by
  obtain ⟨a⟩ := x
  obtain ⟨b⟩ := y
  have : a = b := Array.toList_inj.mp h
  rw [this]
theorem cs_app (x y : Str) : cs (x ++ y) = cs x ++ cs y := by
  show (x.cps ++ y.cps).toList = _
  simp
def lett (c : Nat) : Bool := decide (97 ≤ c) && decide (c ≤ 122)
def isWord : V → Bool | .str z => !(cs z).isEmpty && (cs z).all lett | _ => false
def isSign : V → Bool | .str z => decide ((cs z).length = 1) && (cs z).all lett | _ => false
def isText : V → Bool | .str z => decide ((cs z).length ≤ 8000) && (cs z).all lett | _ => false
def isPiece : V → Bool | .str z => decide (1 ≤ (cs z).length) && decide ((cs z).length ≤ 5) && (cs z).all lett | _ => false
def isInteger : V → Bool | .int i => decide (i.natAbs < 10 ^ 60) | _ => false
theorem lt_one {a b : Nat} : decide (([a] : List Nat) < [b]) = decide (a < b) := by
  by_cases h : a < b
  · rw [decide_eq_true h, decide_eq_true (List.cons_lt_cons_iff.mpr (Or.inl h))]
  · rw [decide_eq_false h, decide_eq_false (fun z => ?_)]
    rcases List.cons_lt_cons_iff.mp z with z | ⟨_, z⟩
    · exact h z
    · cases z
theorem lett_eq (c : Nat) : (!decide (([c] : List Nat) < [97])) = decide (97 ≤ c) ∧ (!decide (([122] : List Nat) < [c])) = decide (c ≤ 122) := by
  rw [lt_one, lt_one]
  constructor
  · by_cases h : c < 97
    · rw [decide_eq_true h, decide_eq_false (by omega)]
      rfl
    · rw [decide_eq_false h, decide_eq_true (by omega)]
      rfl
  · by_cases h : 122 < c
    · rw [decide_eq_true h, decide_eq_false (by omega)]
      rfl
    · rw [decide_eq_false h, decide_eq_true (by omega)]
      rfl
theorem abs_lt (i : Int) : decide ((if i < 0 then -i else i) < (10 : Int) ^ (60 : Int).toNat) = isInteger (.int i) := by
  show _ = decide (i.natAbs < 10 ^ 60)
  have e : (10 : Int) ^ (60 : Int).toNat = ((10 ^ 60 : Nat) : Int) := by decide +kernel
  rw [e]
  generalize (10 ^ 60 : Nat) = m
  by_cases h : i.natAbs < m
  · rw [decide_eq_true h, decide_eq_true]
    split <;> omega
  · rw [decide_eq_false h, decide_eq_false]
    split <;> omega
def szV : V → Prop | .str z => z.length ≤ 100000 | _ => True
theorem fits_sz {n : Nat} (h : n ≤ 100000) : n ≤ sizeLine := Nat.le_trans h (by decide)
theorem same_new {H : Hp} {p : Addr} {o : HO} (h : H p = none) : Same H (upd H p o) := fun b u e => by
  rw [upd_ne (ne_of_none e h)]
  exact e
/-- is_integer, is_word and the like: any value, told by a function on values -/
def spIs (K : PySem.W.Frag) (p : V → Bool) : Sp := fun vs H Q _ => ∃ x, vs = [x] ∧ Tyd K H x ∧ szV x ∧ ∀ H', Same H H' → Q (.bl (p x)) H'
theorem v_str_ne {z : Str} : (!decide (V.str z = V.str "")) = !(cs z).isEmpty := by
  by_cases h : cs z = []
  · have e : z = "" := str_ext (by rw [h]; rfl)
    rw [e]
    rfl
  · have e : V.str z ≠ V.str "" := fun q => h (by rw [V.str.inj q]; rfl)
    rw [decide_eq_false e]
    cases hz : cs z with
    | nil => exact absurd hz h
    | cons a l => rfl
theorem v_str_eq {z : Str} : decide (V.str z = V.str "") = (cs z).isEmpty := by
  have := v_str_ne (z := z)
  cases h1 : decide (V.str z = V.str "") <;> cases h2 : (cs z).isEmpty <;> rw [h1, h2] at this <;> first | rfl | cases this
theorem lett_of {c : Nat} (h : decide (97 ≤ c) = true) : lett c = decide (c ≤ 122) := by
  unfold lett
  rw [h]
  rfl
theorem lett_no {c : Nat} (h : decide (97 ≤ c) = false) : lett c = false := by
  unfold lett
  rw [h]
  rfl
theorem one_sign {z : Str} (h : (cs z).length = 1) : ∃ c, z = ⟨#[c]⟩ := by
  match hz : cs z, h with
  | [c], _ => exact ⟨c, str_ext (by rw [hz])⟩
theorem v_len_eq {z : Str} {n : Nat} : decide (V.int (z.length : Int) = V.int (n : Int)) = decide ((cs z).length = n) := by
  rw [cs_len]
  by_cases h : z.length = n
  · rw [decide_eq_true h, decide_eq_true (by rw [h])]
  · rw [decide_eq_false h, decide_eq_false (fun q => h (by have := V.int.inj q; omega))]
theorem v_len_eq1 {z : Str} : decide (V.int (z.length : Int) = V.int 1) = decide ((cs z).length = 1) := v_len_eq (n := 1)
theorem sign_one (c : Nat) : isSign (.str ⟨#[c]⟩) = lett c := by
  show (decide (([c] : List Nat).length = 1) && ([c] : List Nat).all lett) = lett c
  simp
/-! ### a comprehension whose element changes nothing -/
theorem wipe_set {σ : L2.St} {j : Nat} {v : V} : wipe ((wipe σ [j]).set j (some v)) [j] = wipe σ [j] := by
  show ((σ.set j none).set j (some v)).set j none = σ.set j none
  rw [List.set_set, List.set_set]
theorem lcp_str {z : Str} {te : TE} {j : Nat} {σ : L2.St} {H1 : Hp} {D : Addr} {Qd : Hp → Prop} (f : Nat → V) (hz : z.length ≤ sizeLine)
    (hs : ∀ (c : Nat) (acc : List V) (N : VK), c ∈ cs z → N (f c) (upd H1 D (.lst acc)) → te ((wipe σ [j]).set j (some (.str ⟨#[c]⟩))) (upd H1 D (.lst acc)) N) (hd : Qd (upd H1 D (.lst ((cs z).map f)))) :
    ∃ W : Nat → Nat → Hp → Prop, (∃ m, W 0 m (upd H1 D (.lst []))) ∧ ∀ i m H, W i m H →
      ((Its z).stop i H ∧ Qd H) ∨ ((Its z).go i H ∧ ∃ Nx : Hp → Prop, (∀ H', Nx H' → ∃ m', m' < m ∧ W (i + 1) m' H') ∧ ∀ x H', (Its z).yld i H x H' → gName j x (wipe σ [j]) H' fun σ2 H2 => wipe σ2 [j] = wipe σ [j] ∧ tYes σ2 H2 fun b H3 =>
        if b = true then te σ2 H3 fun y H4 => ∃ acc, H4 D = some (.lst acc) ∧ acc.length < sizeLine ∧ Nx (upd H4 D (.lst (acc ++ [y]))) else Nx H3) := by
  have hl := cs_len z
  refine ⟨fun i m H => m = (cs z).length - i ∧ i ≤ (cs z).length ∧ H = upd H1 D (.lst (((cs z).take i).map f)), ⟨_, rfl, Nat.zero_le _, rfl⟩, ?_⟩
  rintro i m H ⟨rfl, hi, rfl⟩
  by_cases hlt : i < (cs z).length
  · have hlt' : i < z.cps.size := by rw [hl] at hlt; exact hlt
    refine .inr ⟨hlt', fun H' => H' = upd H1 D (.lst (((cs z).take (i + 1)).map f)), fun H' e => ⟨(cs z).length - (i + 1), by omega, rfl, hlt, e⟩, ?_⟩
    rintro x H' ⟨rfl, c, hc, rfl⟩
    have hc' : (cs z)[i]? = some c := by simpa [cs] using hc
    refine ⟨wipe_set, hs c _ _ (List.mem_of_getElem? hc') ⟨_, upd_same, ?_, ?_⟩⟩
    · rw [List.length_map, List.length_take]
      omega
    · rw [upd_upd]
      have : (cs z).take (i + 1) = (cs z).take i ++ [c] := by
        rw [List.take_add_one, hc']
        rfl
      rw [this, List.map_append]
      rfl
  · have e : i = (cs z).length := by omega
    refine .inl ⟨by show z.cps.size ≤ i; rw [e, hl]; exact Nat.le_refl _, ?_⟩
    rw [e, List.take_length]
    exact hd

/-! ### the dice of the laws: a list of three ints -/
def Big (i : Int) : Prop := 0 ≤ i ∧ i.natAbs < 2 ^ 2500
/-- dice at l, good for n further rolls -/
def Dice (H : Hp) (l : Addr) (n : Nat) : Prop := ∃ d0 d1 d2 : Int, H l = some (.lst [.int d0, .int d1, .int d2]) ∧ Big d0 ∧ Big d1 ∧ 0 ≤ d2 ∧ d2 + n ≤ 2 ^ 62
/-- all but l is as it was -/
def Kp (l : Addr) (H H' : Hp) : Prop := ∀ b o, H b = some o → b ≠ l → H' b = some o
theorem Kp.refl (l : Addr) (H : Hp) : Kp l H H := fun _ _ e _ => e
theorem Kp.trans {l : Addr} {H H1 H2 : Hp} (a : Kp l H H1) (b : Kp l H1 H2) : Kp l H H2 := fun c o e n => b c o (a c o e n) n
theorem Kp.of {l : Addr} {H H' : Hp} (a : Same H H') : Kp l H H' := fun c o e _ => a c o e
theorem Kp.upd {l : Addr} {H : Hp} {o : HO} : Kp l H (upd H l o) := fun b u e n => by
  rw [upd_ne n]
  exact e
theorem Kp.new {l p : Addr} {H H' : Hp} {o : HO} (a : Kp l H H') (h : H' p = none) : Kp l H (L2.upd H' p o) := a.trans (.of (same_new h))
/-- what was not there ahead may change -/
theorem Kp.mut {l p : Addr} {H H' : Hp} {o : HO} (a : Kp l H H') (h : H p = none) : Kp l H (L2.upd H' p o) := fun b u e n => by
  rw [upd_ne (ne_of_none e h)]
  exact a b u e n
theorem Kp.seq {K : PySem.W.Frag} {l a : Addr} {H H' : Hp} {xs : List V} (k : Kp l H H') (n : a ≠ l) (h : SqL K H a xs) : SqL K H' a xs := by
  rcases h with (h | ⟨o, h⟩) | h
  · exact Or.inl (Or.inl (k _ _ h n))
  · exact Or.inl (Or.inr ⟨o, k _ _ h n⟩)
  · exact Or.inr h
theorem Kp.tup {K : PySem.W.Frag} {l a : Addr} {H H' : Hp} {xs : List V} (k : Kp l H H') (n : a ≠ l) (h : SqT K H a xs) : SqT K H' a xs := by
  rcases h with (h | ⟨o, h⟩) | h
  · exact Or.inl (Or.inl (k _ _ h n))
  · exact Or.inl (Or.inr ⟨o, k _ _ h n⟩)
  · exact Or.inr h
theorem Dice.ne {H : Hp} {l p : Addr} {n : Nat} (d : Dice H l n) (h : H p = none) : p ≠ l := by
  obtain ⟨_, _, _, e, _⟩ := d
  exact (ne_of_none e h).symm
theorem Dice.le {H : Hp} {l : Addr} {n m : Nat} (d : Dice H l n) (h : m ≤ n) : Dice H l m := by
  obtain ⟨d0, d1, d2, e, h0, h1, h2, h3⟩ := d
  exact ⟨d0, d1, d2, e, h0, h1, h2, by omega⟩
theorem Dice.same {H H' : Hp} {l : Addr} {n : Nat} (d : Dice H l n) (s : Same H H') : Dice H' l n := by
  obtain ⟨d0, d1, d2, e, r⟩ := d
  exact ⟨d0, d1, d2, s _ _ e, r⟩
theorem Dice.upd {H : Hp} {l p : Addr} {o : HO} {n : Nat} (d : Dice H l n) (h : p ≠ l) : Dice (L2.upd H p o) l n := by
  obtain ⟨d0, d1, d2, e, r⟩ := d
  exact ⟨d0, d1, d2, by rw [upd_ne h.symm]; exact e, r⟩
theorem big_mod {x : Int} {m : Int} (h : 0 < m) (hm : m.natAbs ≤ 2 ^ 2420) : 0 ≤ x % m ∧ (x % m).natAbs < 2 ^ 2420 := by
  have h1 := Int.emod_nonneg x (by omega : m ≠ 0)
  have h2 := Int.emod_lt_of_pos x h
  refine ⟨h1, ?_⟩
  generalize (2 ^ 2420 : Nat) = M at hm
  omega
theorem pow_mono2 : (2 : Nat) ^ 2420 * 4 + 2 ^ 2420 ≤ 2 ^ 2500 := by decide +kernel
theorem big_of {x : Int} (h0 : 0 ≤ x) (h : x.natAbs < 2 ^ 2420) : Big x := ⟨h0, by
  have := pow_mono2
  generalize (2 ^ 2420 : Nat) = M at *
  generalize (2 ^ 2500 : Nat) = N at *
  omega⟩
theorem big_zero : Big 0 := ⟨Int.le_refl _, by decide +kernel⟩
theorem one_small : (131071 * 64 + 5 : Nat) ≤ 2 ^ 2420 := by decide +kernel
theorem big_seed {x b s : Int} (h0 : 0 ≤ x) (h : x.natAbs < 2 ^ 2420) (hb : 0 ≤ b ∧ b ≤ 1) (hs : 0 ≤ s ∧ s ≤ 64) : Big (2 * x + b + 131071 * s + 3) := by
  have h1 := pow_mono2
  have h2 := one_small
  refine ⟨by omega, ?_⟩
  generalize (2 ^ 2420 : Nat) = M at *
  generalize (2 ^ 2500 : Nat) = N at *
  omega
theorem big_div {x u : Int} (h : Big x) (hu : 1 ≤ u) : Big (x / u) := by
  obtain ⟨h0, h1⟩ := h
  have a := Int.ediv_nonneg h0 (by omega : (0 : Int) ≤ u)
  have b : x / u ≤ x := Int.ediv_le_self u h0
  refine ⟨a, ?_⟩
  generalize (2 ^ 2500 : Nat) = N at *
  omega
/-- an expression with two ways, joined: an int under p on both -/
theorem tif_int {t : TT} {ta tb : TE} {σ : L2.St} {H : Hp} {Q : VK} {c : Bool} (p : Int → Prop) (ht : ∀ N : Bool → Hp → Prop, N c H → t σ H N)
    (ha : c = true → ∀ N : VK, (∀ i, p i → N (.int i) H) → ta σ H N) (hb : c = false → ∀ N : VK, (∀ i, p i → N (.int i) H) → tb σ H N) (hq : ∀ i, p i → Q (.int i) H) : tIf t ta tb σ H Q := by
  refine ht _ ?_
  exact itB (fun e => ha e _ hq) (fun e => hb e _ hq)
/-- _law_dice -/
def spDice (K : PySem.W.Frag) : Sp := fun vs H Q _ => ∃ (a : Addr) (ns : List Int) (s : Int), vs = [.ref a, .int s] ∧ SqL K H a (ns.map V.int) ∧ ns.length ≤ 63 ∧ 0 ≤ s ∧ s ≤ 64 ∧ ∀ l H', H l = none → Same H H' → Dice H' l (2 ^ 60) → Q (.ref l) H'
/-- _law_roll -/
def spRoll : Sp := fun vs H Q _ => ∃ (l : Addr) (u : Int) (n : Nat), vs = [.ref l, .int u] ∧ 1 ≤ u ∧ u ≤ 2 ^ 40 ∧ Dice H l (n + 1) ∧ ∀ r H', 0 ≤ r → r < u → Kp l H H' → Dice H' l n → Q (.int r) H'
/-- what the laws pick from: a list, a tuple, a text -/
inductive Seq (K : PySem.W.Frag) (H : Hp) (l : Addr) : V → List V → Prop
  | lst {a : Addr} {ys : List V} (n : a ≠ l) (h : SqL K H a ys) : Seq K H l (.ref a) ys
  | tup {a : Addr} {ys : List V} (n : a ≠ l) (h : SqT K H a ys) : Seq K H l (.ref a) ys
  | str {z : Str} {ys : List V} (h : z.length ≤ 1000) (e : ys = signsV z) : Seq K H l (.str z) ys
theorem Seq.kp {K : PySem.W.Frag} {H H' : Hp} {l : Addr} {x : V} {ys : List V} (s : Seq K H l x ys) (k : Kp l H H') : Seq K H' l x ys := by
  cases s with
  | lst n h => exact .lst n (k.seq n h)
  | tup n h => exact .tup n (k.tup n h)
  | str h e => exact .str h e
/-- _law_pick -/
def spPick (K : PySem.W.Frag) : Sp := fun vs H Q _ => ∃ (l : Addr) (x : V) (ys : List V) (n : Nat), vs = [.ref l, x] ∧ Seq K H l x ys ∧ ys ≠ [] ∧ ys.length ≤ 1000 ∧ Dice H l (n + 1) ∧ ∀ y H', y ∈ ys → Kp l H H' → Dice H' l n → Q y H'
theorem signsV_len (z : Str) : (signsV z).length = z.length := by
  unfold signsV
  rw [List.length_map, cs_len]

abbrev ch (c : Nat) : Str := ⟨#[c]⟩
abbrev chV (c : Nat) : V := .str (ch c)
def sOf (l : List Nat) : Str := ⟨l.toArray⟩
theorem cs_sOf (l : List Nat) : cs (sOf l) = l := by simp [sOf]
theorem sOf_cs (z : Str) : sOf (cs z) = z := str_ext (cs_sOf _)
theorem sOf_len (l : List Nat) : (sOf l).length = l.length := by rw [← cs_len, cs_sOf]
theorem signsV_eq (z : Str) : signsV z = (cs z).map chV := rfl
theorem joinL_one : ∀ l : List Nat, TL.joinL [] (l.map fun c => [c]) = l
  | [] => rfl
  | [a] => rfl
  | a :: b :: r => by
    show [a] ++ ([] ++ TL.joinL [] ((b :: r).map fun c => [c])) = a :: b :: r
    rw [joinL_one (b :: r)]
    rfl
theorem join_ch (l : List Nat) : Txt.join "" (l.map ch) = sOf l := by
  refine str_ext ?_
  rw [cs_sOf, TL.join_eq]
  have h := TL.tl_join "" (l.map ch)
  rw [List.map_map] at h
  exact h.trans (joinL_one l)
theorem sum_ch (l : List Nat) : ((l.map ch).map (·.length)).sum = l.length := by
  induction l with
  | nil => rfl
  | cons a r ih =>
    rw [List.map_cons, List.map_cons, List.sum_cons, ih]
    show 1 + r.length = r.length + 1
    omega
/-- _law_letters -/
def spLetters (K : PySem.W.Frag) : Sp := fun vs H Q _ => ∃ (l : Addr) (x : V) (cl : List Nat) (m n : Nat), vs = [.ref l, x, .int (m : Int)] ∧ Seq K H l x (cl.map chV) ∧ cl ≠ [] ∧ cl.length ≤ 1000 ∧ m ≤ 10000 ∧ Dice H l (n + m) ∧
  ∀ (zs : List Nat) H', zs.length = m → (∀ c ∈ zs, c ∈ cl) → Kp l H H' → Dice H' l n → Q (.str (sOf zs)) H'

/-! ### what repr shows -/
structure Shw (d : PyData) (k n : Nat) : Prop where
  s : d.showable = true
  h : d.hasDict = false
  dp : d.depth ≤ k
  len : d.shown.length ≤ n
theorem shw_bool (b : Bool) : Shw (.bool b) 0 5 := ⟨by simp [PyData.showable], by simp [PyData.hasDict], by simp [PyData.depth], by cases b <;> simp only [PyData.shown] <;> decide +kernel⟩
theorem shw_none : Shw .none 0 4 := ⟨by simp [PyData.showable], by simp [PyData.hasDict], by simp [PyData.depth], by simp only [PyData.shown]; decide +kernel⟩
theorem shw_int {i : Int} (h : i.natAbs.log2 < 1920) : Shw (.int i) 0 1921 := ⟨by simpa [PyData.showable] using h, by simp [PyData.hasDict], by simp [PyData.depth], by simp only [PyData.shown]; exact int_text_len_1921 h⟩
theorem Shw.le {d : PyData} {k n k' n' : Nat} (a : Shw d k n) (hk : k ≤ k') (hn : n ≤ n') : Shw d k' n' := ⟨a.s, a.h, Nat.le_trans a.dp hk, Nat.le_trans a.len hn⟩
theorem shownAll_map : ∀ ds : List PyData, PyData.shownAll ds = ds.map PyData.shown
  | [] => by simp [PyData.shownAll]
  | d :: r => by simp [PyData.shownAll, shownAll_map r]
theorem textFrom_le : ∀ (ts : List Str) (k : Nat) (acc : Str) (n : Nat), (∀ t ∈ ts, t.length ≤ n) → (textFrom k acc ts).length ≤ acc.length + ts.length * (n + 2)
  | [], k, acc, n, _ => by
    show acc.length ≤ acc.length + 0 * (n + 2)
    omega
  | t :: r, k, acc, n, h => by
    have h1 := textFrom_le r (k + 1) (acc ++ (if k > 0 then ", " else "" : String) ++ t) n fun x hx => h x (List.mem_cons_of_mem _ hx)
    have h2 := h t List.mem_cons_self
    rw [strLen_append, strLen_append] at h1
    have h3 : ((if k > 0 then ", " else "" : String) : Str).length ≤ 2 := by split <;> decide +kernel
    show (textFrom (k + 1) _ r).length ≤ acc.length + (r.length + 1) * (n + 2)
    rw [Nat.add_mul]
    omega
theorem shwAll {ds : List PyData} {k n : Nat} (h : ∀ d ∈ ds, Shw d k n) : PyData.showableAll ds = true ∧ PyData.hasDictAll ds = false ∧ PyData.depthAll ds ≤ k ∧ ∀ t ∈ PyData.shownAll ds, t.length ≤ n := by
  induction ds with
  | nil => exact ⟨by simp [PyData.showableAll], by simp [PyData.hasDictAll], by simp [PyData.depthAll], by simp [PyData.shownAll]⟩
  | cons d r ih =>
    obtain ⟨a1, a2, a3, a4⟩ := h d List.mem_cons_self
    obtain ⟨b1, b2, b3, b4⟩ := ih fun x hx => h x (List.mem_cons_of_mem _ hx)
    refine ⟨by simp [PyData.showableAll, a1, b1], by simp [PyData.hasDictAll, a2, b2], ?_, ?_⟩
    · simp only [PyData.depthAll]
      omega
    · intro t ht
      simp only [PyData.shownAll] at ht
      rcases List.mem_cons.mp ht with rfl | ht
      · exact a4
      · exact b4 t ht
theorem shw_list {ds : List PyData} {k n : Nat} (h : ∀ d ∈ ds, Shw d k n) : Shw (.list ds) (k + 1) (ds.length * (n + 2) + 2) := by
  obtain ⟨b1, b2, b3, b4⟩ := shwAll h
  refine ⟨by simpa [PyData.showable] using b1, by simpa [PyData.hasDict] using b2, by simp only [PyData.depth]; omega, ?_⟩
  simp only [PyData.shown]
  unfold listText
  rw [strLen_append]
  have h1 := textFrom_le _ 0 "[" n b4
  rw [shownAll_map, List.length_map] at h1
  rw [shownAll_map]
  have h2 : ((("[" : String) : Str)).length = 1 := by decide +kernel
  have h3 : ((("]" : String) : Str)).length = 1 := by decide +kernel
  omega
/-- a list of truths as data -/
def dBools (bs : List Bool) : PyData := .list (bs.map PyData.bool)
theorem shw_bools (bs : List Bool) : Shw (dBools bs) 1 (bs.length * 7 + 2) := by
  have h := shw_list (ds := bs.map PyData.bool) (k := 0) (n := 5) fun d hd => by
    obtain ⟨b, _, rfl⟩ := List.mem_map.mp hd
    exact shw_bool b
  rw [List.length_map] at h
  exact h
theorem dpAll_bools {K : PySem.W.Frag} {H : Hp} : ∀ bs : List Bool, DpAll K H (bs.map V.bl) (bs.map PyData.bool)
  | [] => .nil
  | b :: r => .cons (.bl b) (dpAll_bools r)
theorem dp_bools {K : PySem.W.Frag} {H : Hp} {a : Addr} {bs : List Bool} (h : SqL K H a (bs.map V.bl)) : Dp K H (.ref a) (dBools bs) := .lst h (dpAll_bools bs)
/-- repr(a list of truths), as rRepr asks -/
theorem repr_bools {K : PySem.W.Frag} {H : Hp} {a : Addr} {bs : List Bool} {Q : VK} (h : H a = some (.lst (bs.map V.bl))) (hn : bs.length ≤ 1000) (q : Q (.str (dBools bs).shown) H) : rRepr K [.ref a] H Q := by
  obtain ⟨s, hd, dp, len⟩ := shw_bools bs
  exact ⟨_, dBools bs, rfl, dp_bools (SqL.of h), s, hd, by omega, Nat.le_trans len (fits_sz (by omega)), q⟩
theorem mem_all {p : V → Bool} {ys : List V} {y : V} (h : ys.all p = true) (hy : y ∈ ys) : p y = true := List.all_eq_true.mp h y hy
def vIn (lo hi : Int) : V → Bool | .int i => decide (lo ≤ i) && decide (i ≤ hi) | _ => false
theorem vIn_of {lo hi : Int} {y : V} (h : vIn lo hi y = true) : ∃ i, y = .int i ∧ lo ≤ i ∧ i ≤ hi := by
  cases y with
  | int i =>
    have h' : (decide (lo ≤ i) && decide (i ≤ hi)) = true := h
    rw [Bool.and_eq_true] at h'
    exact ⟨i, rfl, of_decide_eq_true h'.1, of_decide_eq_true h'.2⟩
  | _ => cases h
theorem pick_int {lo hi : Int} {ys : List V} {y : V} (h : ys.all (vIn lo hi) = true) (hy : y ∈ ys) : ∃ i, y = .int i ∧ lo ≤ i ∧ i ≤ hi := vIn_of (mem_all h hy)
/-- a promise of a part of a law: it is right, c rolls are made -/
def spRight (c : Nat) : Sp := fun vs H Q _ => ∃ (l : Addr) (n : Nat), vs = [.ref l] ∧ Dice H l (n + c) ∧ ∀ H', Kp l H H' → Dice H' l n → Q (.bl true) H'
/-- is_integer: of any value, no size asked -/
def spIsI (K : PySem.W.Frag) (p : V → Bool) : Sp := fun vs H Q _ => ∃ x, vs = [x] ∧ Tyd K H x ∧ ∀ H', Same H H' → Q (.bl (p x)) H'
theorem Dice.new {H : Hp} {l p : Addr} {o : HO} {n : Nat} (d : Dice H l n) (h : H p = none) : Dice (L2.upd H p o) l n := d.upd (d.ne h)
/-- what a drawn odd value is: of a known kind, as long as it stands, and no integer -/
def OddI (K : PySem.W.Frag) (l : Addr) (H : Hp) (y : V) : Prop := (∀ H', Kp l H H' → Tyd K H' y) ∧ isInteger y = false
theorem isI_near {near r : Int} (h0 : 0 ≤ near + r) (s : Int) (hs : s = 1 ∨ s = -1) : isInteger (.int ((near + r) * s)) = decide (near + r < (10 : Int) ^ (60 : Int).toNat) := by
  show decide (((near + r) * s).natAbs < 10 ^ 60) = _
  have e : (10 : Int) ^ (60 : Int).toNat = ((10 ^ 60 : Nat) : Int) := by decide +kernel
  have e2 : ((near + r) * s).natAbs = (near + r).natAbs := by
    rcases hs with rfl | rfl
    · rw [Int.mul_one]
    · rw [Int.mul_neg, Int.mul_one, Int.natAbs_neg]
  rw [e, e2]
  generalize (10 ^ 60 : Nat) = m
  by_cases h : near + r < (m : Int)
  · rw [decide_eq_true h, decide_eq_true (by omega)]
  · rw [decide_eq_false h, decide_eq_false (by omega)]
theorem log_of {i : Int} (h : i.natAbs < 2 ^ 300) : i.natAbs.log2 < 1920 := Nat.lt_of_lt_of_le (PySem.Flt.log2_lt_of (by decide) h) (by decide)
theorem reprB (bs : List Bool) (hn : bs.length ≤ 1000) : (dBools bs).showable = true ∧ (dBools bs).hasDict = false ∧ (dBools bs).depth ≤ 60 ∧ (dBools bs).shown.length ≤ sizeLine := by
  obtain ⟨s, hd, dp, len⟩ := shw_bools bs
  exact ⟨s, hd, by omega, Nat.le_trans len (fits_sz (by omega))⟩
/-! ### texts made of pieces of texts -/
theorem isText_of {z : Str} (h1 : (cs z).length ≤ 8000) (h2 : ∀ c ∈ cs z, lett c = true) : isText (.str z) = true := by
  show (decide ((cs z).length ≤ 8000) && (cs z).all lett) = true
  rw [decide_eq_true h1, List.all_eq_true.mpr h2]
  rfl
theorem isPiece_of {z : Str} (h2 : ∀ c ∈ cs z, lett c = true) : isPiece (.str z) = (decide (1 ≤ (cs z).length) && decide ((cs z).length ≤ 5)) := by
  show (decide (1 ≤ (cs z).length) && decide ((cs z).length ≤ 5) && (cs z).all lett) = _
  rw [List.all_eq_true.mpr h2, Bool.and_true]
theorem isSign_of {z : Str} (h2 : ∀ c ∈ cs z, lett c = true) : isSign (.str z) = decide ((cs z).length = 1) := by
  show (decide ((cs z).length = 1) && (cs z).all lett) = _
  rw [List.all_eq_true.mpr h2, Bool.and_true]
theorem spoilt {z : Str} {c : Nat} (hc : c ∈ cs z) (h : lett c = false) : isText (.str z) = false ∧ isPiece (.str z) = false ∧ isSign (.str z) = false ∧ isWord (.str z) = false := by
  have e : (cs z).all lett = false := by
    cases q : (cs z).all lett with
    | false => rfl
    | true =>
      rw [List.all_eq_true.mp q c hc] at h
      cases h
  refine ⟨?_, ?_, ?_, ?_⟩
  · show (_ && (cs z).all lett) = false
    rw [e, Bool.and_false]
  · show (_ && (cs z).all lett) = false
    rw [e, Bool.and_false]
  · show (_ && (cs z).all lett) = false
    rw [e, Bool.and_false]
  · show (_ && (cs z).all lett) = false
    rw [e, Bool.and_false]
theorem cs_cut (z : Str) (lo hi : Option Int) : cs (cutS z lo hi) = ((cs z).drop (HT.sIx z.length 0 lo)).take (HT.sIx z.length z.length hi - HT.sIx z.length 0 lo) := by
  unfold cutS
  simp
theorem cut_sub {z : Str} {lo hi : Option Int} {c : Nat} (h : c ∈ cs (cutS z lo hi)) : c ∈ cs z := by
  rw [cs_cut] at h
  exact List.mem_of_mem_drop (List.mem_of_mem_take h)
theorem sIx_pos {n d : Nat} {i : Int} (h : 0 ≤ i) : HT.sIx n d (some i) = min i.toNat n := by
  show (if i < 0 then _ else _) = _
  rw [if_neg (by omega)]
theorem cut_len {z : Str} {a b : Int} (ha : 0 ≤ a) (hab : a ≤ b) (hb : b ≤ z.length) : (cs (cutS z (some a) (some b))).length = (b - a).toNat := by
  rw [cs_cut, sIx_pos ha, sIx_pos (by omega), List.length_take, List.length_drop, cs_len]
  omega
theorem cut_lenFrom {z : Str} {a : Int} (ha : 0 ≤ a) (hb : a ≤ z.length) : (cs (cutS z (some a) none)).length = z.length - a.toNat := by
  rw [cs_cut, sIx_pos ha, List.length_take, List.length_drop, cs_len]
  show min (z.length - _) _ = _
  omega
theorem cut_lenTo {z : Str} {b : Int} (h0 : 0 ≤ b) (hb : b ≤ z.length) : (cs (cutS z none (some b))).length = b.toNat := by
  rw [cs_cut, sIx_pos h0, List.length_take, List.length_drop, cs_len]
  show min (min b.toNat z.length - 0) (z.length - 0) = _
  omega
theorem str_app_len (x y : Str) : (x ++ y).length = x.length + y.length := strLen_append x y
/-- two ways joined, whatever the test and the ways do -/
theorem tif_join {t : TT} {ta tb : TE} {σ : L2.St} {H : Hp} {Q : VK} (P : Hp → Prop) (R : V → Hp → Prop) (ht : ∀ N : Bool → Hp → Prop, (∀ c H1, P H1 → N c H1) → t σ H N)
    (ha : ∀ H1, P H1 → ∀ N : VK, (∀ v H2, R v H2 → N v H2) → ta σ H1 N) (hb : ∀ H1, P H1 → ∀ N : VK, (∀ v H2, R v H2 → N v H2) → tb σ H1 N) (hq : ∀ v H2, R v H2 → Q v H2) : tIf t ta tb σ H Q :=
  ht _ fun c H1 p => itB (fun _ => ha H1 p _ hq) (fun _ => hb H1 p _ hq)
/-- a <= b <= c of known ints, as a value -/
theorem chain_le {ta tb tc : TE} {σ : L2.St} {H : Hp} {Q : VK} {a b c : Int} (ha : ∀ N : VK, N (.int a) H → ta σ H N) (hb : ∀ N : VK, N (.int b) H → tb σ H N) (hc : ∀ N : VK, N (.int c) H → tc σ H N)
    (q : Q (.bl (decide (a ≤ b) && decide (b ≤ c))) H) : tChain (rI0 fun i j => .bl (decide (i ≤ j))) (rI0 fun i j => .bl (decide (i ≤ j))) ta tb tc σ H Q := by
  refine ha _ (hb _ ⟨a, b, rfl, rfl, _, rfl, ?_⟩)
  refine itB (fun e => ?_) (fun e => ?_)
  · refine hc _ ⟨b, c, rfl, rfl, ?_⟩
    rw [e] at q
    exact q
  · rw [e] at q
    exact q
theorem odd_of {z : Str} {o : Nat} (h : (cs z).all (fun c => !lett c) = true) (ho : o ∈ z.cps.toList) : lett o = false := by
  have := List.all_eq_true.mp h o ho
  simpa using this
theorem v_int_eq {a b : Int} : decide (V.int a = V.int b) = decide (a = b) := by
  by_cases h : a = b
  · rw [decide_eq_true h, decide_eq_true (by rw [h])]
  · rw [decide_eq_false h, decide_eq_false (fun q => h (V.int.inj q))]
theorem sz_of' {z : Str} (h : z.length ≤ 100000) : szV (.str z) := h
theorem sign_no {z : Str} (h : (cs z).length ≠ 1) : isSign (.str z) = false := by
  show (decide ((cs z).length = 1) && (cs z).all lett) = false
  rw [decide_eq_false h]
  rfl
theorem piece_no {z : Str} (h : 5 < (cs z).length) : isPiece (.str z) = false := by
  show (decide (1 ≤ (cs z).length) && decide ((cs z).length ≤ 5) && (cs z).all lett) = false
  rw [decide_eq_false (by omega : ¬ (cs z).length ≤ 5), Bool.and_false]
  rfl
theorem ne_self {z : Str} : V.bl (!decide (V.str z = V.str z)) = V.bl false := by
  rw [decide_eq_true rfl]
  rfl
theorem is_self {z : Str} : V.bl (decide (V.str z = V.str z)) = V.bl true := by rw [decide_eq_true rfl]
theorem foldl_cat : ∀ (n : Nat) (a acc : Array Nat), ((List.replicate n a).foldl (· ++ ·) acc).toList = acc.toList ++ (List.replicate n a.toList).flatten
  | 0, a, acc => by simp
  | n + 1, a, acc => by
    rw [List.replicate_succ, List.foldl_cons, foldl_cat n a (acc ++ a), List.replicate_succ, List.flatten_cons]
    simp
theorem cs_rep (z : Str) (n : Nat) : cs (sRep z n) = (List.replicate n (cs z)).flatten := by
  have h := foldl_cat n z.cps #[]
  rw [show (#[] : Array Nat).toList = [] from rfl, List.nil_append] at h
  exact h
theorem rep_mem {z : Str} {n c : Nat} (h : c ∈ cs (sRep z n)) : c ∈ cs z := by
  rw [cs_rep] at h
  obtain ⟨l, hl, hc⟩ := List.mem_flatten.mp h
  rw [List.eq_of_mem_replicate hl] at hc
  exact hc
theorem sum_rep : ∀ n k : Nat, (List.replicate n k).sum = n * k
  | 0, k => by simp
  | n + 1, k => by
    rw [List.replicate_succ, List.sum_cons, sum_rep n k, Nat.add_mul]
    omega
theorem rep_len (z : Str) (n : Nat) : (sRep z n).length = n * z.length := by
  rw [← cs_len, cs_rep, List.length_flatten, List.map_replicate, sum_rep, cs_len]
theorem Kp.sameOf {l : Addr} {H H1 H2 : Hp} (s : Same H H1) (k : Kp l H1 H2) (h : H l = none) : Same H H2 := fun b o e => k b o (s b o e) (ne_of_none e h)
def spLaw (K : PySem.W.Frag) : Sp := fun vs H Q _ => ∃ (a : Addr) (ns : List Int), vs = [.ref a] ∧ SqL K H a (ns.map V.int) ∧ ns.length ≤ 63 ∧ ∀ H', Q (.bl true) H'
/-- how many cells are looked at -/
theorem cells_bound {n : Nat} {m : Int} (hm : 1 ≤ m) : 1 ≤ (if (if (n : Int) < m then (n : Int) else m) > 1 then (if (n : Int) < m then (n : Int) else m) else 1) ∧ (if (if (n : Int) < m then (n : Int) else m) > 1 then (if (n : Int) < m then (n : Int) else m) else 1) ≤ m := by
  split <;> split <;> omega
theorem small1000' {n : Nat} (h : n ≤ 100000) : n < sizeLine := Nat.lt_of_le_of_lt h (by decide)
/-- _law_some: drawn items of a row, each at most once -/
def spSome (K : PySem.W.Frag) : Sp := fun vs H Q _ => ∃ (l : Addr) (x : V) (ys : List V) (m n : Nat), vs = [.ref l, x, .int (m : Int)] ∧ Seq K H l x ys ∧ ys.length ≤ 1000 ∧ m ≤ 1000 ∧ Dice H l (n + m) ∧
  ∀ p zs rest H', H p = none → (zs ++ rest).Perm ys → zs.length = min m ys.length → H' p = some (.lst zs) → Kp l H H' → Dice H' l n → Q (.ref p) H'
theorem ix_pos {n : Nat} {r : Int} (h0 : 0 ≤ r) (h1 : r < n) : seqIndex? r n = some r.toNat := (ixN_seq (n := n) (i := r) (j := r.toNat) (by unfold ixN; rw [if_pos h0, if_pos h1])).1
theorem erase_perm {α : Type} : ∀ {l : List α} {k : Nat} {y : α}, l[k]? = some y → (y :: l.eraseIdx k).Perm l
  | [], k, y, h => by simp at h
  | a :: r, 0, y, h => by
    have e : a = y := by simpa using h
    subst e
    exact List.Perm.refl _
  | a :: r, k + 1, y, h => by
    have ih := erase_perm (l := r) (k := k) (y := y) (by simpa using h)
    show (y :: a :: r.eraseIdx k).Perm (a :: r)
    exact (List.Perm.swap a y _).trans (ih.cons a)
theorem big_cut {x c : Int} (h0 : 0 ≤ x) (h : x.natAbs < 2 ^ 2420) (hc : 0 ≤ c) : Big (if x - c > 0 then x - c else 0) := by
  split
  · refine big_of (by omega) ?_
    generalize (2 ^ 2420 : Nat) = M at h ⊢
    omega
  · exact big_zero
theorem atI_neg {α : Type} {xs : List α} {j : Nat} (h : j < xs.length) : atI xs (-(j : Int) - 1) = xs[xs.length - 1 - j]? := by
  have e : ixN xs.length (-(j : Int) - 1) = some (xs.length - 1 - j) := by
    unfold ixN
    rw [if_neg (by omega), if_pos (by omega)]
    congr 1
    omega
  unfold atI
  rw [e]
  rfl
end G
/-! sorted(set(text)): sets of texts as tracked things. -/
namespace G
open PySem PySem.Spec PyProof.Rows L2 PySem.Froz
def txO (e : Int × Value) : Str := match e.2 with | .str k _ => k | _ => ⟨#[]⟩
/-- the payload holds the texts l, and can be gone through -/
structure SsOk (P : Program) (w : World) (D : SD) (l : List Str) : Prop where
  tx : TxOk P w D l
  pm : (D.1.toList.map txO).Perm l
  ris : Ris D.2.2.place.toList
  led : w.params.followText "set-order" = true ∨ D.2.2.led = true
section
variable {P : Program} {w : World} {A : Around} {E : Value → Shared → Prop} {s : Shared}
theorem SsOk.add {D : SD} {l : List Str} {k : Str} (u : Tok) (O : SsOk P w D l) : SsOk P w (addTx (hashStr w k) (.str k u) D) (k :: l) := by
  have F := add_ok (k := k) u O.tx
  obtain ⟨⟨_, _, _, _⟩, pm, ris, led⟩ := O
  obtain ⟨es, ep, t⟩ := D
  have p1 := layNew_perm t es (hashStr w k) (.str k u)
  have r1 := layNew_ris t es (hashStr w k) (.str k u) ris
  have d1 := layNew_led t es (hashStr w k) (.str k u)
  unfold addTx at F ⊢
  generalize layNew t es (hashStr w k) (.str k u) = Z at p1 r1 d1 F ⊢
  obtain ⟨es1, t1, wd, gv⟩ := Z
  dsimp only at p1 r1 d1 F ⊢
  have r2 : Ris (if t1.plain = true then { t1 with plain := false } else t1).place.toList := by
    split <;> exact r1
  have d2 : (if t1.plain = true then { t1 with plain := false } else t1).led = t.led := by
    split <;> exact d1
  generalize (if t1.plain = true then { t1 with plain := false } else t1) = t2 at r2 d2 F ⊢
  have q1 : (es1.toList.map txO).Perm (k :: l) := by
    refine (p1.map txO).trans ?_
    rw [Array.toList_push, List.map_append]
    exact List.perm_append_comm.trans (List.Perm.cons _ pm)
  have dl : w.params.followText "set-order" = true ∨ t2.led = true := led.imp id fun z => by rw [d2]; exact z
  refine ⟨F, ?_, ?_, ?_⟩
  · unfold tailTx
    split
    · exact ((relayAll_perm t2 es1 _).map txO).trans q1
    · exact q1
  · unfold tailTx
    split
    · exact relayAll_ris t2 es1 _
    · exact r2
  · unfold tailTx
    split
    · exact dl.imp id fun z => by
        show (relayAll t2 es1 _).2.1.led = true
        rw [relayAll_led]
        exact z
    · exact dl
/-- the set of texts at a -/
def SsAt (P : Program) (w : World) (h : Heap) (a : Addr) (l : List Str) : Prop := ∃ D, h.get? a = some (sObj "set" D) ∧ SsOk P w D l
theorem SsAt.at {h h' : Heap} {a : Addr} {l : List Str} (x : SsAt P w h a l) (k : ∀ o, h.get? a = some o → h'.get? a = some o) : SsAt P w h' a l := by
  obtain ⟨D, ho, r⟩ := x
  exact ⟨D, k _ ho, r⟩
theorem ss_hashed {a : Addr} {l : List Str} {k : Str} {u : Tok} {Q : Bool → Shared → Prop} (x : SsAt P w s.heap a l) (room : l.length + 1 < scanBound)
    (h : ∀ b h', Heap.SameBut a s.heap h' → SsAt P w h' a (if k ∈ l then l else k :: l) → Q b { s with heap := h' }) : wpAny (model P w) A (setAddHashed a (.str k u) (hashStr w k)) Q E s := by
  obtain ⟨D, ho, O⟩ := x
  by_cases hk : k ∈ l
  · rw [if_pos hk] at h
    have O' := O
    obtain ⟨⟨el, mem, sz, fit⟩, pm, ris, led⟩ := O'
    obtain ⟨es, ep, t⟩ := D
    have hd : (sObj "set" (es, ep, t)).data = .set es ep t := rfl
    have hkey : (strKind P w).is k (.str k u) = true := is_str k u
    have hs : es.size = l.length := sz
    unfold setAddHashed setAddHashedIn
    refine wpAny_holding (wpAny_bind (wpAny_setState_of ho hd fit ?_))
    dsimp only
    rw [byScan_of rfl (by omega) el]
    simp only [↓reduceIte]
    unfold setAddByScan
    refine wpAny_bind ?_
    refine wpAny_bind (wpAny_rule ?_)
    refine wpAny_bind (wpAny_setScan_of (knd := strKind P w) (k := k) hkey ho hd fit el ?_)
    obtain ⟨e, he, q⟩ := (mem k).mp hk
    cases hf : List.findIdx? (fun e => (strKind P w).is k e.2) es.toList with
    | none =>
      have c := List.findIdx?_eq_none_iff.mp hf e he
      rw [q] at c
      cases c
    | some j =>
      dsimp only
      exact wpAny_pure (wpAny_pure (h false s.heap (Heap.SameBut.refl a s.heap) ⟨_, ho, O⟩))
  · rw [if_neg hk] at h
    exact add_x ho O.tx hk room (h true _ (Heap.SameBut.update s.heap a _) ⟨_, get_upd _ ho rfl, O.add u⟩)
theorem ss_fresh {h : Heap} {a : Addr} (ho : h.get? a = some { cls := .type "set", dict := none, data := .set #[] 0 (.fresh 0 0 (!w.params.followText "set-order")) }) : SsAt P w h a [] :=
  ⟨(#[], 0, .fresh 0 0 (!w.params.followText "set-order")), ho, ⟨.nil rfl, .nil, List.Pairwise.nil, by
    show _ ∨ (!w.params.followText "set-order") = true
    cases w.params.followText "set-order" <;> simp⟩⟩
/-- one text after the other goes into the set -/
theorem ss_loop {I : Addr} {fp wr : List Addr} {G : Array GenState → Array GenState → Prop} {n : Nat} {Pv : Nat → Value → Prop} {St : Nat → Shared → Prop} {R : Result → Shared → Prop}
    (W : WalksS P w A.in1 I fp wr G n Pv St) {S : Addr} (hSf : S ∉ fp) (f : Nat → Str) (hb : n + 1 < scanBound) (hv : ∀ i v, Pv i v → ∃ u, v = .str (f i) u) :
    ∀ (k i : Nat) (s : Shared) (l : List Str), n - i = k → i ≤ n → St i s → SsAt P w s.heap S l → l.Nodup → l.length ≤ i → (∀ y, y ∈ l ↔ ∃ j, j < i ∧ y = f j) →
      (∀ s' l', Moved (S :: wr) G s s' → SsAt P w s'.heap S l' → l'.Nodup → l'.length ≤ n → (∀ y, y ∈ l' ↔ ∃ j, j < n ∧ y = f j) → R (.ok (.ret .none)) s') →
      codeAny (model P w) A (.builtin "set.update.loop" ⟨[.ref S, .ref I], []⟩) R s := by
  have hSw : S ∉ wr := fun h => hSf (W.sub _ h)
  have up : ∀ b ∈ wr, b ∈ S :: wr := fun b hb => List.mem_cons_of_mem _ hb
  intro k
  induction k with
  | zero =>
    intro i s l e hi st x nd ln mem q
    obtain rfl : i = n := by omega
    refine codeAny_builtin F.entry_set_update_loop ?_
    rw [Around.under_plainId F.plain_set_update_loop _]
    refine wpAny_bind (W.done s _ _ st fun s' hm => ?_)
    exact wpAny_pure (q s' l (hm.mono up) (x.at fun o e => hm.heap S o hSw e) nd ln mem)
  | succ k ih =>
    intro i s l e hi st x nd ln mem q
    have lt : i < n := by omega
    refine codeAny_builtin F.entry_set_update_loop ?_
    rw [Around.under_plainId F.plain_set_update_loop _]
    refine wpAny_bind (W.item i s _ _ lt st fun v s' hP st' hm => ?_)
    obtain ⟨u, rfl⟩ := hv i v hP
    have x' := x.at fun o e => hm.heap S o hSw e
    show wpAny _ A.in1 (holding [Value.str (f i) u] (setAdd S (.str (f i) u)) >>= _) _ _ s'
    refine wpAny_bind (wpAny_holding ?_)
    unfold setAdd
    refine wpAny_holding (wpAny_bind ((strKind P w).pyHash (k := f i) (is_str _ _) ?_))
    refine ss_hashed (s := { s' with toks := s'.toks + 1 }) x' (by omega) fun b h' sb x2 => ?_
    refine wpAny_pure ⟨plainId_quiet F.plain_set_update_loop _, ih (i + 1) _ (if f i ∈ l then l else f i :: l) (by omega) lt (W.frame _ s' _ _ st' (Nat.le_succ _) fun b hb o e => ?_) x2 ?_ ?_ ?_ fun s2 l2 m2 y2 n2 ln2 mm2 => ?_⟩
    · rw [sb.2 b fun h => hSf (h ▸ hb)]
      exact e
    · split
      · exact nd
      · rename_i h
        exact List.nodup_cons.mpr ⟨h, nd⟩
    · split
      · omega
      · rw [List.length_cons]
        omega
    · intro y
      have step : (∃ j, j < i + 1 ∧ y = f j) ↔ (∃ j, j < i ∧ y = f j) ∨ y = f i := ⟨fun ⟨j, h1, h2⟩ => by
        rcases Nat.lt_or_ge j i with c | c
        · exact .inl ⟨j, c, h2⟩
        · exact .inr (by rw [h2, show j = i by omega]), fun h => by
        rcases h with ⟨j, h1, h2⟩ | h
        · exact ⟨j, by omega, h2⟩
        · exact ⟨i, by omega, h⟩⟩
      rw [step, ← mem]
      split
      · rename_i h
        exact ⟨.inl, fun z => z.elim id fun e => e ▸ h⟩
      · rw [List.mem_cons]
        exact Or.comm
    · refine q s2 l2 (Moved.trans W.gtrans ((hm.mono up).then_heap (Nat.le_succ _) fun b o hb e => ?_) m2) y2 n2 ln2 mm2
      rw [sb.2 b fun h => hb (h ▸ List.mem_cons_self)]
      exact e
/-- the signs of a text, each once -/
def OnceOf (z : Str) (l : List Str) : Prop := l.Nodup ∧ l.length ≤ z.length ∧ ∀ y, y ∈ l ↔ ∃ c ∈ cs z, y = ch c
theorem once_of {z : Str} {l : List Str} (nd : l.Nodup) (ln : l.length ≤ z.cps.size) (m : ∀ y, y ∈ l ↔ ∃ j, j < z.cps.size ∧ y = ⟨#[z.cps.getD j 0]⟩) : OnceOf z l := by
  refine ⟨nd, ln, fun y => (m y).trans ⟨fun ⟨j, h1, h2⟩ => ⟨z.cps.getD j 0, ?_, h2⟩, fun ⟨c, h1, h2⟩ => ?_⟩⟩
  · have e : z.cps.getD j 0 = z.cps[j] := by simp [Array.getD, h1]
    rw [e]
    exact Array.mem_toList_iff.mpr (Array.getElem_mem h1)
  · obtain ⟨j, hj, e⟩ := List.mem_iff_getElem.mp h1
    have hj' : j < z.cps.size := by simpa [cs] using hj
    refine ⟨j, hj', ?_⟩
    rw [h2, ← e]
    unfold ch
    simp [Array.getD, hj', cs]
end
end G
namespace G
open PySem PySem.Spec PyProof.Rows L2 PySem.Froz
section
variable {P : Program} {w : World} {A : Around} {E : Value → Shared → Prop} {s : Shared}
abbrev emptySet (w : World) : Obj := { cls := .type "set", dict := none, data := .set #[] 0 (.fresh 0 0 (!w.params.followText "set-order")) }
/-- set(z), z a text -/
theorem ss_call {z : Str} {t : Tok} {Q : Value → Shared → Prop} (hh : A.handled = none) (hb : z.cps.size + 1 < scanBound)
    (h : ∀ (h' : Heap) (tk : Nat) l, SsAt P w h' s.heap.objs.size l → OnceOf z l → (∀ b o, s.heap.get? b = some o → h'.get? b = some o) → Q (.ref s.heap.objs.size) { s with heap := h', toks := tk }) :
    wpAny (model P w) A (call (.type "set") [.str z t]) Q E s := by
  obtain ⟨c, tl, hmro⟩ := F.called_set.mro
  have hmade := F.called_set.made
  have hsub := F.called_set.sub
  refine wpAny_call (codeAny_of_tree ?_)
  show wpAny _ _ (callAny (.type "set") _) _ _ _
  refine wpAny_pure ⟨Code.quiet_builtin _ (by decide +kernel), codeAny_builtin F.entry_type_call ?_⟩
  rw [Around.under_plain (weight_type_call_type "set" [.str z t] []) rfl]
  have h1 := F.called_set.notType
  have h2 := F.called_set.canCreate
  have hct := F.typeCall_set_1 (.str z t)
  repeat (any_goals (first | assumption | wp_step))
  refine codeAny_mono (code_set_led1 (.str z t) (E := E) (Q₁ := fun obj s₁ => obj = .ref s.heap.objs.size ∧ s₁ = { s with heap := s.heap.push (emptySet w) }) ⟨rfl, rfl⟩) fun r s₁ hr => ?_
  cases r with
  | error e => exact hr
  | ok fl =>
    cases fl with
    | ret obj =>
      obtain ⟨rfl, rfl⟩ := hr
      have hS : (s.heap.push (emptySet w)).get? s.heap.objs.size = some (emptySet w) := Heap.get?_push_size _ rfl
      have hT : Shared.TypeIs { s with heap := s.heap.push (emptySet w) } (.ref s.heap.objs.size) "set" := ⟨_, hS, rfl⟩
      have hli := F.called_set.init.lookup
      have hbi := F.called_set.init.bind (.ref s.heap.objs.size)
      repeat (any_goals (first | assumption | wp_step))
      refine codeAny_mono (codeAny_call_builtin (R := wants (fun r s₂ => r = .none ∧ ∃ h' tk l, s₂ = { s with heap := h', toks := tk } ∧ SsAt P w h' s.heap.objs.size l ∧ OnceOf z l ∧
          (∀ b o, s.heap.get? b = some o → h'.get? b = some o)) E) F.called_set.init.plain F.entry_set_init (check_set_init_1 hT ?_)) fun r₂ s₂ hr₂ => ?_
      · have anyS : ∀ {A' : Around} {E' : Value → Shared → Prop} {s' : Shared} {Q' : Bool → Shared → Prop}, Q' false s' → wpAny (model P w) A' (Builtin.Frozenset.isAnySet (.str z t)) Q' E' s' := fun q => by
          unfold Builtin.Frozenset.isAnySet orM
          refine wpAny_bind (wpAny_isInstance (typeIs_str _ _ _) PySem.F.sub_str_set ?_)
          exact wpAny_isInstance (typeIs_str _ _ _) PySem.F.sub_str_frozenset q
        have hne : (Value.type "str" == Value.type "dict") = false := by decide
        have hh3 : A.in1.in1.in1.handled = none := by simp [hh]
        unfold Builtin.«set.__init__» noKeywords Builtin.Frozenset.updateFrom
        generalize hPI : pyIter = PI
        generalize hAS : Builtin.Frozenset.isAnySet = AS at anyS
        wp_walk
        refine anyS ?_
        subst hAS
        wp_walk
        subst hPI
        refine wpAny_pyIter_str fun o St hW hst => ?_
        refine wpAny_bind (wpAny_runValue ?_)
        have hz : (s.heap.push (emptySet w)).objs.size = s.heap.objs.size + 1 := Heap.size_push ..
        have hnI : s.heap.objs.size ∉ [(s.heap.push (emptySet w)).objs.size] := by
          rw [hz, List.mem_singleton]
          omega
        refine ss_loop (P := P) (w := w) ((hW _ hh3).toS) hnI (fun i => ⟨#[z.cps.getD i 0]⟩) hb (fun i v hv => ?_) (z.cps.size - 0) 0 _ [] (by omega) (Nat.zero_le _) hst (ss_fresh (Heap.get?_push_of_some _ hS)) .nil (Nat.le_refl _) (fun y => ⟨fun h => (List.not_mem_nil h).elim, fun ⟨j, h, _⟩ => absurd h (Nat.not_lt_zero _)⟩) fun s' l hm x nd ln mem => ?_
        · obtain ⟨c, u, hc, rfl⟩ := hv
          refine ⟨u, ?_⟩
          congr 3
          simp [Array.getD, (Array.getElem?_eq_some_iff.mp hc).1, ← (Array.getElem?_eq_some_iff.mp hc).2]
        · obtain ⟨h', g2, d', tk', os'⟩ := s'
          have eg : g2 = s.gens := hm.gens
          have ed : d' = s.drawn := hm.drawn
          have eo : os' = s.os := hm.os
          subst eg; subst ed; subst eo
          refine wpAny_pure ?_
          show wpAny _ _ (ret Value.none) _ _ _
          refine wpAny_pure ⟨rfl, h', tk', l, rfl, x, once_of nd ln mem, fun b o' e => ?_⟩
          have b0 := Heap.lt_size e
          refine hm.heap b o' (fun hb => ?_) (Heap.get?_push_of_some _ (Heap.get?_push_of_some _ e))
          rw [hz] at hb
          rcases List.mem_cons.mp hb with z | z
          · exact absurd b0 (by rw [z]; exact Nat.lt_irrefl _)
          · exact absurd b0 (by rw [List.mem_singleton.mp z]; exact Nat.not_lt_of_le (Nat.le_succ _))
      · cases r₂ with
        | error e => exact hr₂
        | ok fl₂ =>
          cases fl₂ with
          | ret r =>
            obtain ⟨rfl, h', tk, l, rfl, x, oz, hk⟩ := hr₂
            repeat (any_goals (first | assumption | wp_step))
            exact h _ _ _ x oz hk
          | _ => exact hr₂.elim
    | _ => exact hr.elim
/-- sorted(a), a a set of texts -/
theorem ss_sorted {a : Addr} {l : List Str} {Q : Value → Shared → Prop} (x : SsAt P w s.heap a l) (hh : A.handled = none) (few : l.length < 64)
    (q : ∀ s' p (out : Array Value) (c : Nat) ys, (∀ b o, s.heap.get? b = some o → s'.heap.get? b = some o) → s'.gens = s.gens → s'.os = s.os → s.heap.objs.size ≤ p → s'.heap.get? p = some (seqObj "list" out c) →
      StrsAre out.toList ys → ys.Perm l → sortedS ys = true → Q (.ref p) s') : wpAny (model P w) A (call (.builtin "sorted") [.ref a]) Q E s := by
  obtain ⟨D, ho, O⟩ := x
  obtain ⟨es, ep, t⟩ := D
  have sz : es.size = l.length := O.tx.sz
  refine Calls.call_function_entry kind_sorted plain_sorted entry_sorted (args_sorted1 _) ?_
  unfold Builtin.«sorted»
  refine wpAny_bind (m := checkCount "sorted" 1 1 _) (wpAny_pure ?_)
  refine wpAny_bind (collect_set (A := A.in1) hh ⟨_, ho, rfl, rfl⟩ O.tx.fit (by show es.size < 4096; omega) O.ris O.led fun s1 vs k1 hz g1 o1 pm => ?_)
  have hlen : vs.length = l.length := by rw [pm.length_eq, List.length_map, Array.length_toList, sz]
  -- what the values say
  have texts : ∀ {vs : List Value}, (∀ v ∈ vs, ∃ e ∈ es.toList, v = e.2) → ∃ ws, StrsAre vs ws ∧ ws = vs.map (fun v => txO (0, v)) := by
    intro vs
    induction vs with
    | nil => exact fun _ => ⟨[], .nil, rfl⟩
    | cons v r ih =>
      intro hv
      obtain ⟨ws, h1, h2⟩ := ih fun u hu => hv u (List.mem_cons_of_mem _ hu)
      obtain ⟨e, he, rfl⟩ := hv v List.mem_cons_self
      obtain ⟨⟨k, hk, _⟩, _⟩ := O.tx.el e he
      obtain ⟨u, hu⟩ := Value.isStrOf_shape hk
      refine ⟨k :: ws, ?_, ?_⟩
      · rw [hu]
        exact .cons k u h1
      · rw [List.map_cons, ← h2, hu]
        rfl
  obtain ⟨ws, hw, ew⟩ := texts fun v hv => by
    obtain ⟨e, he, r⟩ := List.mem_map.mp (pm.mem_iff.mp hv)
    exact ⟨e, he, r.symm⟩
  have pw : ws.Perm l := by
    rw [ew]
    refine (pm.map _).trans ?_
    rw [List.map_map]
    exact O.pm
  refine wpAny_bind (wpAny_newList ?_ (by rw [hlen, sizeLine_eq]; omega))
  have hoL : (s1.heap.push (seqObj "list" vs.toArray 0)).get? s1.heap.objs.size = some (seqObj "list" vs.toArray 0) := Heap.get?_push_size _ rfl
  refine wpAny_bind (wpAny_holding (wpAny_call_entry slot_list_sort ⟨_, hoL, rfl⟩ entry_list_sort (list_sort_treeK strKind_oneLt hoL hw.keysOf (fun v₁ v₂ rest e => keyKind_strs (by rw [← e]; exact hw)) (by rw [hlen]; exact few) fun st' hp hs => ⟨_, rfl, ?_⟩) (args_list_sort _)))
  obtain ⟨ys, a1, a2, a3⟩ := sorted_out_str hw hp hs
  generalize (arrOf st').map (·.2) = out at a1 ⊢
  obtain ⟨c, hc⟩ := sortedHeap_at (vs := vs) (out := out) hoL
  refine wpAny_pure ⟨_, rfl, q _ s1.heap.objs.size out c ys (fun b u e => ?_) g1 o1 hz hc a1 (a2.trans pw) a3⟩
  have e1 := k1 b u e
  have lt := Heap.lt_size e1
  show (sortedHeap (s1.heap.push (seqObj "list" vs.toArray 0)) s1.heap.objs.size vs out).get? b = some u
  rw [sortedHeap_old (Nat.ne_of_lt lt) (by rw [Heap.size_push]; exact Nat.lt_succ_of_lt lt)]
  exact Heap.get?_push_of_some _ e1
end
/-- the set of texts at a, tracked -/
def SsO (P : Program) (w : World) (a : Addr) (l : List Str) : HO := .ext fun h => SsAt P w h a l
theorem ss_new {P : Program} {w : World} {H : Hp} {h : Heap} {a : Addr} {l : List Str} (x : SsAt P w h a l) : ObjOk P w H h a (SsO P w a l) := by
  obtain ⟨D, ho, _⟩ := id x
  exact ⟨x, ⟨_, ho⟩, fun h1 h2 p k => SsAt.at p k⟩
section
variable {X : Cx}
def rSetTx (P : Program) (w : World) : List V → Hp → VK → Prop := fun xs H Q => ∃ z : Str, xs = [.str z] ∧ z.length ≤ 4000 ∧ ∀ p l, H p = none → OnceOf z l → Q (.ref p) (upd H p (SsO P w p l))
theorem cr_setTx (hc : X.calm = true) : CallR X (.type "set") (rSetTx X.prog X.w) := by
  intro pins s σ H xs us Q I r h
  obtain ⟨z, rfl, hz, q⟩ := h
  obtain ⟨u, rfl, t, rfl⟩ := vals1 r
  have hz' : z.cps.size ≤ 4000 := hz
  refine ss_call (P := X.prog) (w := X.w) (I.ok.hd hc) (by unfold scanBound; omega) fun h' tk l x oz k => ?_
  exact ⟨.ref s.heap.objs.size, upd H s.heap.objs.size (SsO X.prog X.w s.heap.objs.size l), I.laid (t' := tk) k (Nat.le_refl _) (ss_new x), rfl, q _ l (I.hok.fresh (Nat.le_refl _)) oz⟩
def rSortTx (P : Program) (w : World) : List V → Hp → VK → Prop := fun xs H Q => ∃ a l, xs = [.ref a] ∧ H a = some (SsO P w a l) ∧ l.length < 64 ∧ ∀ p ys, H p = none → ys.Perm l → sortedS ys = true → Q (.ref p) (upd H p (.lst (ys.map V.str)))
theorem cr_sortTx (hc : X.calm = true) : CallR X (.builtin "sorted") (rSortTx X.prog X.w) := by
  intro pins s σ H vs us Q I r h
  obtain ⟨a, l, rfl, ha, few, q⟩ := h
  have x : SsAt X.prog X.w s.heap a l := (I.hok a _ ha).1
  obtain ⟨u, rfl, ru⟩ := vals1 r
  cases ru
  refine ss_sorted x (I.ok.hd hc) few fun s' p out c ys k g o hp hg hs pm so => ?_
  have hn : H p = none := I.hok.fresh hp
  have hl : (ys.map V.str).length ≤ sizeLine := by rw [List.length_map, pm.length_eq, sizeLine_eq]; omega
  have J : Inv X pins σ (upd H p (.lst (ys.map V.str))) { s with heap := s'.heap, gens := s'.gens, drawn := s'.drawn, toks := s'.toks } :=
    I.call (ch := []) (Un.laid k hp hn) (I.hok.laid k hp ⟨hl, out.toList, c, vals_of_strs hs, hg⟩) (by rw [g]; exact I.bare) (fun _ z => nomatch z)
  have e : s' = { s with heap := s'.heap, gens := s'.gens, drawn := s'.drawn, toks := s'.toks } := by
    cases s'
    cases s
    cases o
    rfl
  rw [e]
  exact ⟨.ref p, _, J, rfl, q p ys hn pm so⟩
end
end G
/-! set of a text, sorted. -/
namespace G
open PySem PySem.Spec PyProof.Rows L2
section
variable {X : L2.Cx}
theorem g_setTx (P : Program) (w : World) (hc : X.calm = true) (e2 : X.prog = P := by rfl) (e3 : X.w = w := by rfl) : CallR X (.type "set") (rSetTx P w) := by
  subst e2; subst e3
  exact cr_setTx hc
theorem g_sortTx (P : Program) (w : World) (hc : X.calm = true) (e2 : X.prog = P := by rfl) (e3 : X.w = w := by rfl) : CallR X (.builtin "sorted") (rSortTx P w) := by
  subst e2; subst e3
  exact cr_sortTx hc
end
end G
namespace G
open PySem PySem.Spec PyProof.Rows L2
/-! ### comprehensions over anything that is walked, whose parts leave all that was tracked -/
section
variable {α : Type} {J : It} {G : Hp → Prop} {Y : Nat → Hp → V → Hp → Prop}
theorem take_fm {its : List α} {i : Nat} {a : α} {β : Type} (h : α → Option β) (e : its[i]? = some a) : (its.take (i + 1)).filterMap h = (its.take i).filterMap h ++ (h a).toList := by
  rw [List.take_add_one, e, List.filterMap_append]
  cases hh : h a <;> simp [hh]
theorem lcs (its : List α) (w : Walk J its.length G Y) (h : α → Option V) {g : TG} {tt : TT} {te : TE} {vs : List Nat} {σ : L2.St} {H1 : Hp} {D : Addr} {Qd : Hp → Prop} (hD : H1 D = none) (hz : its.length ≤ 1000000) (hG : ∀ H, Same H1 H → G H)
    (hs : ∀ i a x H H', its[i]? = some a → Same H1 H → Y i H x H' → ∀ (N : VK) (M : Hp → Prop), (∀ v H3, h a = some v → Same H H3 → N v H3) → (∀ H3, h a = none → Same H H3 → M H3) →
      g x (wipe σ vs) H' fun σ2 H2 => wipe σ2 vs = wipe σ vs ∧ tt σ2 H2 fun b H3 => if b = true then te σ2 H3 N else M H3)
    (hd : ∀ H, Same H1 H → H D = some (.lst (its.filterMap h)) → Qd H) :
    ∃ W : Nat → Nat → Hp → Prop, (∃ m, W 0 m (upd H1 D (.lst []))) ∧ ∀ i m H, W i m H →
      (J.stop i H ∧ Qd H) ∨ (J.go i H ∧ ∃ Nx : Hp → Prop, (∀ H', Nx H' → ∃ m', m' < m ∧ W (i + 1) m' H') ∧ ∀ x H', J.yld i H x H' → g x (wipe σ vs) H' fun σ2 H2 => wipe σ2 vs = wipe σ vs ∧ tt σ2 H2 fun b H3 =>
        if b = true then te σ2 H3 fun y H4 => ∃ acc, H4 D = some (.lst acc) ∧ acc.length < sizeLine ∧ Nx (upd H4 D (.lst (acc ++ [y]))) else Nx H3) := by
  refine lc_it w (fun i H => Same H1 H ∧ H D = some (.lst ((its.take i).filterMap h))) ⟨same_new hD, upd_same⟩ (fun i H _ p => hG H p.1) ?_ (fun H p => hd H p.1 (by rw [p.2, List.take_length]))
  rintro i x H H' hi ⟨s, e⟩ y
  obtain ⟨a, ha⟩ : ∃ a, its[i]? = some a := ⟨_, List.getElem?_eq_getElem hi⟩
  have short : ((its.take i).filterMap h).length < sizeLine := by
    have h1 := List.length_filterMap_le h (its.take i)
    rw [List.length_take] at h1
    exact Nat.lt_of_le_of_lt (by omega : _ ≤ 1000000) (by decide)
  refine hs i a x H H' ha s y _ _ (fun v H3 hv s3 => ⟨_, s3 _ _ e, short, fun b o q => ?_, ?_⟩) (fun H3 hv s3 => ⟨s.trans s3, ?_⟩)
  · rw [upd_ne (ne_of_none q hD)]
    exact s3 _ _ (s _ _ q)
  · rw [upd_same, take_fm h ha, hv]
    rfl
  · rw [s3 _ _ e, take_fm h ha, hv]
    show _ = some (HO.lst (_ ++ []))
    rw [List.append_nil]
end
/-- the pairs of a dict, each a new tuple -/
def YKV (kvs : List (Key × V)) : Nat → Hp → V → Hp → Prop := fun i H x H' => ∃ T k v, kvs[i]? = some (k, v) ∧ x = .ref T ∧ H T = none ∧ H' = upd H T (.tup [kV k, v])
theorem walk_kv {d : Addr} {o : Obj} {kvs : List (Key × V)} : Walk (Iti d o kvs) kvs.length (fun H => H d = some (.frz o (.dK kvs))) (YKV kvs) :=
  ⟨fun _ _ hi q => ⟨q, hi⟩, fun _ q => ⟨q, Nat.le_refl _⟩, fun _ _ _ _ _ _ y => y⟩
/-- the end of a body: an object that is not changed any more -/
def tFrz (t : TS) : TS := fun D σ H => t { D with nx := fun σ' H' => ∃ d u, H' d = some u ∧ Mut (some u) ∧ ∀ od, D.nx σ' (upd H' d (.frz od u)) } σ H
theorem pss_frz {X : Cx} {body : List Stmt} {t : TS} (h : PSs X body t) : PSs X body (tFrz t) := by
  refine ⟨fun pins s σ H D I hw => thn (h.run pins s σ H _ I hw) fun f s1 q => ?_⟩
  cases f with
  | next =>
    obtain ⟨σ', H', I1, d, u, hd, mu, k⟩ := q
    obtain ⟨od, I2⟩ := I1.lock hd mu
    exact ⟨σ', _, I2, k od⟩
  | brk => exact q
  | cont => exact q
  | ret v => exact q
/-! ### attributes by name -/
theorem lk_at {k : Str} {v : V} {r : List (Str × V)} : List.lookup k ((k, v) :: r) = some v := by
  have e : (k == k) = true := beq_self_eq_true k
  simp only [List.lookup, e]
theorem lk_by {k g : Str} {v : V} {r : List (Str × V)} (h : (k == g) = false) : List.lookup k ((g, v) :: r) = List.lookup k r := by
  simp only [List.lookup, h]
theorem pf_by {f g : Str} {v x : V} {r : List (Str × V)} (h : ¬ g = f) : putF f v ((g, x) :: r) = (g, x) :: putF f v r := if_neg h
/-! ### books -/
abbrev Ps := List (Str × Int)
def kvOf (ps : Ps) : List (Key × V) := ps.map fun p => (Sum.inr p.1, V.int p.2)
def lens (ps : Ps) : List Int := ps.map fun p => (p.1.length : Int)
def fees (ps : Ps) : List Int := ps.map (·.2)
def sgn (ps : Ps) : List Str := (ps.map (·.1)).filter fun z => decide (z.length = 1)
def IsMax (m : Int) (l : List Int) : Prop := m ∈ l ∧ ∀ y ∈ l, y ≤ m
def bookF (d tp ta : Addr) (L M : Int) : List (Str × V) := [("own_prices", .ref d), ("own_pieces", .ref tp), ("own_alphabet", .ref ta), ("own_longest", .int L), ("own_dearest", .int M)]
structure BookAt (C : Addr) (H : Hp) (b : Addr) (ps : Ps) (L M : Int) (dx d tp ta : Addr) (od : Obj) : Prop where
  ob : H b = some (.ins C dx (bookF d tp ta L M))
  dc : H d = some (.frz od (.dK (kvOf ps)))
  pi : H tp = some (.tup (ps.map fun p => V.str p.1))
  al : H ta = some (.tup ((sgn ps).map V.str))
  lo : IsMax L (lens ps)
  de : IsMax M (fees ps)
theorem BookAt.same {C : Addr} {H H' : Hp} {b : Addr} {ps : Ps} {L M : Int} {dx d tp ta : Addr} {od : Obj} (B : BookAt C H b ps L M dx d tp ta od) (s : Same H H') : BookAt C H' b ps L M dx d tp ta od :=
  ⟨s _ _ B.ob, s _ _ B.dc, s _ _ B.pi, s _ _ B.al, B.lo, B.de⟩
section
variable {d tp ta : Addr} {L M : Int}
theorem bf_prices : (bookF d tp ta L M).lookup ("own_prices" : Str) = some (.ref d) := lk_at
theorem bf_pieces : (bookF d tp ta L M).lookup ("own_pieces" : Str) = some (.ref tp) := (lk_by (by decide +kernel)).trans lk_at
theorem bf_alphabet : (bookF d tp ta L M).lookup ("own_alphabet" : Str) = some (.ref ta) := (lk_by (by decide +kernel)).trans ((lk_by (by decide +kernel)).trans lk_at)
theorem bf_longest : (bookF d tp ta L M).lookup ("own_longest" : Str) = some (.int L) := (lk_by (by decide +kernel)).trans ((lk_by (by decide +kernel)).trans ((lk_by (by decide +kernel)).trans lk_at))
theorem bf_dearest : (bookF d tp ta L M).lookup ("own_dearest" : Str) = some (.int M) := (lk_by (by decide +kernel)).trans ((lk_by (by decide +kernel)).trans ((lk_by (by decide +kernel)).trans ((lk_by (by decide +kernel)).trans lk_at)))
theorem bf_no {m : Str} (h1 : (m == ("own_prices" : Str)) = false) (h2 : (m == ("own_pieces" : Str)) = false) (h3 : (m == ("own_alphabet" : Str)) = false) (h4 : (m == ("own_longest" : Str)) = false) (h5 : (m == ("own_dearest" : Str)) = false) :
    (bookF d tp ta L M).lookup m = none := (lk_by h1).trans ((lk_by h2).trans ((lk_by h3).trans ((lk_by h4).trans ((lk_by h5).trans rfl))))
theorem bf_made : putF "own_dearest" (.int M) (putF "own_longest" (.int L) (putF "own_alphabet" (.ref ta) (putF "own_pieces" (.ref tp) (putF "own_prices" (.ref d) [])))) = bookF d tp ta L M := by
  show putF "own_dearest" (.int M) (putF "own_longest" (.int L) (putF "own_alphabet" (.ref ta) (putF "own_pieces" (.ref tp) [(("own_prices" : Str), .ref d)]))) = _
  rw [pf_by (by decide +kernel)]
  show putF "own_dearest" (.int M) (putF "own_longest" (.int L) (putF "own_alphabet" (.ref ta) [(("own_prices" : Str), .ref d), (("own_pieces" : Str), .ref tp)])) = _
  rw [pf_by (by decide +kernel), pf_by (by decide +kernel)]
  show putF "own_dearest" (.int M) (putF "own_longest" (.int L) [(("own_prices" : Str), .ref d), (("own_pieces" : Str), .ref tp), (("own_alphabet" : Str), .ref ta)]) = _
  rw [pf_by (by decide +kernel), pf_by (by decide +kernel), pf_by (by decide +kernel)]
  show putF "own_dearest" (.int M) [(("own_prices" : Str), .ref d), (("own_pieces" : Str), .ref tp), (("own_alphabet" : Str), .ref ta), (("own_longest" : Str), .int L)] = _
  rw [pf_by (by decide +kernel), pf_by (by decide +kernel), pf_by (by decide +kernel), pf_by (by decide +kernel)]
  rfl
end
/-! ### a def of the program as its callers use it (no word of guards) -/
structure HasO (P : Program) (w : World) (K : PySem.W.Frag) (mg : Str → Option Value) (base : Heap) (CX : CXT) (k : Nat) (x : Str) (ps : List Str) (sp : Sp) : Prop where
  ex : ∃ f fd, FnOk P w K mg base CX k f fd ps sp ∧ mg x = some (.ref f) ∧ PySem.W.keepIn K (.ref f) = true ∧ Binds K fd ps []
section
variable {P : Program} {w : World} {K : PySem.W.Frag} {mg : Str → Option Value} {base : Heap} {CX : CXT} {k : Nat} {x qual : Str} {ps : List Str} {sp : Sp}
theorem HasO.toG (F : HasO P w K mg base CX k x ps sp) : Has P w K mg base CX k x ps sp := by
  obtain ⟨f, fd, G, r⟩ := F.ex
  exact ⟨f, fd, .of G, r⟩
theorem HasO.mk' {f : Addr} {fd : FuncData} {st : Stmt} (F : Fun K x qual st f fd) (hm : mg x = some (.ref f)) (hb : Binds K fd ps []) (G : FnOk P w K mg base CX k f fd ps sp) : HasO P w K mg base CX k x ps sp := ⟨f, fd, G, hm, F.kp, hb⟩
end
section
variable {X : Cx} {CX : CXT} {k : Nat} {x : Str} {ps : List Str} {sp : Sp} {E : XK} {p pos : Pos} {e : Expr} {es : List Expr} {t : TA}
theorem pe_hasO (F : HasO X.prog X.w X.K X.mg X.base CX k x ps sp) (hr : Room k X.A) (hx : Passes CX X E) (ha : PA X (e :: es) t) (hl : Gl X x := by rfl)
    (hdb : (x == ("__debug__" : Str)) = false := by decide) (he : starEach (e :: es) X.env = (false, eval e X.env) :: starEach es X.env := by rfl) (hpl : (backTo pos (starEach es X.env)).any (·.1) = false := by rfl) :
    PE X (.Call (.Name x p) (e :: es) [] pos) (tCall sp [] E t) := by
  obtain ⟨f, fd, G, hm, hk, hb⟩ := F.ex
  exact pe_call G hr hl hm hk hb .nil hx ha hdb he hpl
end
/-! ### a dict that a walk locks -/
theorem unlock {H H' : Hp} {a : Addr} {u : HO} {od : Obj} (h : H a = some u) (s : Same (upd H a (.frz od u)) H') : Same H (upd H' a u) := fun b o e => by
  by_cases hb : b = a
  · rw [hb] at e ⊢
    rw [h] at e
    cases e
    exact upd_same
  · rw [upd_ne hb]
    exact s _ _ (by rw [upd_ne hb]; exact e)
theorem lock_ne {H : Hp} {a D : Addr} {o : HO} (h : upd H a o D = none) : D ≠ a := fun e => by
  rw [e, upd_same] at h
  cases h
theorem lock_free {H : Hp} {a D : Addr} {o : HO} (h : upd H a o D = none) : H D = none := by
  rw [upd_ne (lock_ne h)] at h
  exact h
/-- [elt for piece in a dict of texts for sign in piece], elt a value of the sign alone -/
theorem lc2_ks {kvs : List (Key × V)} {zs : List Str} {te : TE} {j1 j2 : Nat} {σ : L2.St} {H1 : Hp} {D d : Addr} {od : Obj} {Qd : Hp → Prop} (hk : kvs.map (·.1) = zs.map Sum.inr) (f : Nat → V) (hd0 : H1 d = some (.frz od (.dK kvs))) (hD : H1 D = none)
    (hz : ((zs.map cs).flatten).length ≤ 100000) (hw : ∀ v, wipe ((wipe σ [j1, j2]).set j1 (some v)) [j1, j2] = wipe σ [j1, j2])
    (hw1 : ∀ v u, wipe ((wipe ((wipe σ [j1, j2]).set j1 (some v)) [j2]).set j2 (some u)) [j2] = wipe ((wipe σ [j1, j2]).set j1 (some v)) [j2])
    (hv : ∀ v, ((wipe σ [j1, j2]).set j1 (some v))[j1]? = some (some v))
    (hs : ∀ z ∈ zs, ∀ c ∈ cs z, ∀ H, Same H1 H → ∀ N : VK, (∀ H', Same H H' → N (f c) H') → te ((wipe ((wipe σ [j1, j2]).set j1 (some (.str z))) [j2]).set j2 (some (chV c))) H N)
    (hd : ∀ H, Same H1 H → H D = some (.lst ((zs.map cs).flatten.map f)) → Qd H) :
    ∃ W : Nat → Nat → Hp → Prop, (∃ m, W 0 m (upd H1 D (.lst []))) ∧ ∀ i m H, W i m H →
      ((Itk d od kvs).stop i H ∧ Qd H) ∨ ((Itk d od kvs).go i H ∧ ∃ Nx : Hp → Prop, (∀ H', Nx H' → ∃ m', m' < m ∧ W (i + 1) m' H') ∧ ∀ x H', (Itk d od kvs).yld i H x H' → gName j1 x (wipe σ [j1, j2]) H' fun σ2 H2 => wipe σ2 [j1, j2] = wipe σ [j1, j2] ∧ tYes σ2 H2 fun b H3 =>
        if b = true then iStr (tVar j1) σ2 H3 fun J1 H4 => ∃ W1 : Nat → Nat → Hp → Prop, (∃ m, W1 0 m H4) ∧ ∀ j k H, W1 j k H →
          (J1.stop j H ∧ Nx H) ∨ (J1.go j H ∧ ∃ Nx1 : Hp → Prop, (∀ H', Nx1 H' → ∃ k', k' < k ∧ W1 (j + 1) k' H') ∧ ∀ x H', J1.yld j H x H' → gName j2 x (wipe σ2 [j2]) H' fun σ3 H5 => wipe σ3 [j2] = wipe σ2 [j2] ∧ tYes σ3 H5 fun b H6 =>
            if b = true then te σ3 H6 fun y H7 => ∃ acc, H7 D = some (.lst acc) ∧ acc.length < sizeLine ∧ Nx1 (upd H7 D (.lst (acc ++ [y]))) else Nx1 H6)
        else Nx H3) := by
  have len : kvs.length = zs.length := by
    have h := congrArg List.length hk
    rwa [List.length_map, List.length_map] at h
  have keep : ∀ {H : Hp} {o : HO}, Same H1 H → Same H1 (upd H D o) := fun s b o e => by
    rw [upd_ne (ne_of_none e hD)]
    exact s _ _ e
  have part : ∀ (i : Nat) (z : Str), zs[i]? = some z → ∀ j, ((((zs.take i).map cs).flatten.map f) ++ ((cs z).take j).map f).length ≤ 100000 := by
    intro i z hi j
    have e1 : zs = zs.take i ++ z :: zs.drop (i + 1) := by
      obtain ⟨hlt, hz'⟩ := List.getElem?_eq_some_iff.mp hi
      rw [← hz', List.getElem_cons_drop, List.take_append_drop]
    have e2 := hz
    rw [e1, List.map_append, List.flatten_append, List.map_cons, List.flatten_cons, List.length_append, List.length_append] at e2
    rw [List.length_append, List.length_map, List.length_map, List.length_take]
    omega
  refine ⟨fun i m H => m = kvs.length - i ∧ i ≤ kvs.length ∧ Same H1 H ∧ H D = some (.lst (((zs.take i).map cs).flatten.map f)), ⟨_, rfl, Nat.zero_le _, same_new hD, upd_same⟩, ?_⟩
  rintro i m H ⟨rfl, hi, s, e⟩
  have fz := s _ _ hd0
  by_cases hlt : i < kvs.length
  · refine .inr ⟨⟨fz, hlt⟩, fun H' => Same H1 H' ∧ H' D = some (.lst (((zs.take (i + 1)).map cs).flatten.map f)), fun H' q => ⟨kvs.length - (i + 1), by omega, rfl, hlt, q⟩, ?_⟩
    rintro x H' ⟨rfl, k, v, ek, rfl⟩
    obtain ⟨z, hz1⟩ : ∃ z, zs[i]? = some z := ⟨_, List.getElem?_eq_getElem (by omega)⟩
    have ez : k = Sum.inr z := by
      have h1 := congrArg (fun l => l[i]?) hk
      simp only [List.getElem?_map, ek, hz1] at h1
      exact Option.some.inj h1
    subst ez
    have hzm := List.mem_of_getElem? hz1
    refine ⟨hw _, _, hv _, z, rfl, fun j k' H' => k' = (cs z).length - j ∧ j ≤ (cs z).length ∧ Same H1 H' ∧ H' D = some (.lst ((((zs.take i).map cs).flatten.map f) ++ ((cs z).take j).map f)), ⟨_, rfl, Nat.zero_le _, s, by simpa using e⟩, ?_⟩
    rintro j k' H2 ⟨rfl, hj, s2, e2⟩
    have lz := cs_len z
    by_cases hjl : j < (cs z).length
    · refine .inr ⟨by show j < z.cps.size; rw [lz] at hjl; exact hjl, fun H' => Same H1 H' ∧ H' D = some (.lst ((((zs.take i).map cs).flatten.map f) ++ ((cs z).take (j + 1)).map f)), fun H' q => ⟨(cs z).length - (j + 1), by omega, rfl, hjl, q⟩, ?_⟩
      rintro x H3 ⟨rfl, c, hc, rfl⟩
      have hc' : (cs z)[j]? = some c := by simpa [cs] using hc
      refine ⟨hw1 _ _, hs z hzm c (List.mem_of_getElem? hc') _ s2 _ fun H4 s4 => ⟨_, s4 _ _ e2, Nat.lt_of_le_of_lt (part i z hz1 j) (by decide), keep (s2.trans s4), ?_⟩⟩
      rw [upd_same, List.append_assoc]
      congr 3
      have : (cs z).take (j + 1) = (cs z).take j ++ [c] := by
        rw [List.take_add_one, hc']
        rfl
      rw [this, List.map_append]
      rfl
    · have ej : j = (cs z).length := by omega
      subst ej
      refine .inl ⟨by show z.cps.size ≤ _; rw [lz]; exact Nat.le_refl _, s2, ?_⟩
      rw [List.take_length] at e2
      rw [e2]
      have : (zs.take (i + 1)).map cs = (zs.take i).map cs ++ [cs z] := by
        rw [List.take_add_one, hz1, List.map_append]
        rfl
      rw [this, List.flatten_append, List.map_append]
      simp
  · have ei : i = kvs.length := by omega
    subst ei
    refine .inl ⟨⟨fz, Nat.le_refl _⟩, hd H s ?_⟩
    rw [len, List.take_length] at e
    exact e
/-! ### the values of a dict, as a view -/
def vwV (d r : Addr) : HO := .ext fun h => h.IsValuesView r d
section
variable {X : Cx}
theorem mt_values : MtR X "dict.values" (fun x xs H Q => ∃ d kvs, x = .ref d ∧ xs = [] ∧ Rd H d (.dK kvs) ∧ ∀ r, H r = none → Q (.ref r) (upd H r (vwV d r))) := by
  intro pins s σ H x xs v us Q I rx rs h
  obtain ⟨d, kvs, rfl, rfl, hd, q⟩ := h
  cases rx
  cases rs
  obtain ⟨_, low, vs, _, hdo⟩ := dk_rd I.hok hd
  refine call_meetsIn PySem.F.slot_dict_values hdo.typeIs PySem.F.entry_dict_values (PySem.F.args_dict_values_1 _) (meets_dict_values (mixKind X.prog X.w) d low) ⟨⟨vs, hdo⟩, ?_⟩
  have view : (s.heap.push { cls := .type "dict_values", data := .fields #[.ref d] }).IsValuesView s.heap.objs.size d := ⟨_, Heap.get?_push_size _ rfl, rfl, rfl⟩
  refine ⟨.ref s.heap.objs.size, _, I.laid (o := vwV d s.heap.objs.size) (fun _ _ e => Heap.get?_push_of_some _ e) (Nat.le_refl _) ⟨view, ⟨_, Heap.get?_push_size _ rfl⟩, ?_⟩, rfl, q _ (I.hok.fresh (Nat.le_refl _))⟩
  rintro h1 h2 ⟨o, a, b, c⟩ k
  exact ⟨o, k o a, b, c⟩
theorem call_listVw (hc : X.calm = true) : CallR X (.type "list") (fun xs H Q => ∃ r d kvs, xs = [.ref r] ∧ H r = some (vwV d r) ∧ Rd H d (.dK kvs) ∧ ∀ p, H p = none → Q (.ref p) (upd H p (.lst (kvs.map (·.2))))) := by
  intro pins s σ H xs us Q I rs h
  obtain ⟨r, d, kvs, rfl, hr, hd, q⟩ := h
  obtain ⟨u, rfl, ru⟩ := vals1 rs
  cases ru
  obtain ⟨short, low, vs, rel, hdo⟩ := dk_rd I.hok hd
  obtain ⟨ep, at'⟩ := hdo.dictAt
  have view : s.heap.IsValuesView r d := (I.hok r _ hr).1
  have nl : kvs.length = vs.length := rel.length
  refine PySem.W.kdl_call (PySem.W.kdl_values (knd := mixKind X.prog X.w) (kvs := vs) (ep := ep)) (I.ok.hd hc) ⟨view, at'⟩ (by omega) ?_
  intro h' tk acc c' keeps new items
  have va : Vals (kvs.map (·.2)) acc.toList := vals_at _ _ (by rw [Array.length_toList, List.length_map, items.1, nl]) fun j w hw => by
    obtain ⟨k, hk⟩ := items.2 j w (by simpa using hw)
    obtain ⟨p, hp, rp⟩ : ∃ p, kvs[j]? = some p ∧ RelV p.2 w := by
      have jl : j < kvs.length := by
        have := (List.getElem?_eq_some_iff.mp hk).1
        omega
      refine ⟨kvs[j], List.getElem?_eq_getElem jl, ?_⟩
      obtain ⟨y, hy, ry⟩ := LiI.paired_get rel (List.getElem?_eq_getElem jl)
      rw [hk] at hy
      cases hy
      exact ry.2
    exact ⟨p.2, by rw [List.getElem?_map, hp]; rfl, rp⟩
  refine ⟨.ref s.heap.objs.size, _, I.laid (t' := tk) (o := .lst (kvs.map (·.2))) keeps (Nat.le_refl _) ⟨by rw [List.length_map]; exact short, acc.toList, c', va, by simpa using new⟩, rfl, q _ (I.hok.fresh (Nat.le_refl _))⟩
/-- len of a dict, locked or not -/
theorem call_lenF : CallR X (.builtin "len") (fun xs H Q => ∃ a kvs, xs = [V.ref a] ∧ Rd H a (.dK kvs) ∧ Q (.int (kvs.length : Int)) H) := by
  intro pins s σ H xs us Q I rs h
  obtain ⟨a, kvs, rfl, ha, q⟩ := h
  obtain ⟨u, rfl, ru⟩ := vals1 rs
  cases ru
  exact d_len I (by first | exact ha | exact Or.inl ha) fun t s' J => ⟨.int kvs.length, H, J, ⟨t, rfl⟩, q⟩
end
/-! ### what a dict of prices is -/
def inRange (x : V) (a b : Int) : Bool := match x with | .int i => decide (i.natAbs < 10 ^ 60) && (decide (a ≤ i) && decide (i ≤ b)) | _ => false
def isPrice (x : V) : Bool := inRange x 1 99
def keyStrs (kvs : List (Key × V)) : List Str := kvs.filterMap fun kv => match kv.1 with | .inr z => some z | .inl _ => none
def arePrices (kvs : List (Key × V)) : Bool :=
  (decide (1 ≤ (kvs.length : Int)) && decide ((kvs.length : Int) ≤ 12)) && (kvs.all fun kv => isPiece (kV kv.1) && isPrice kv.2) && decide (((keyStrs kvs).filter fun z => decide ((cs z).length = 1)).length ≤ 4) &&
    ((keyStrs kvs).map cs).flatten.all fun c => (valV kvs (Sum.inr (ch c))).isSome
/-- what was tracked is so still, or locked -/
def Sim (H H' : Hp) : Prop := ∀ b o, H b = some o → H' b = some o ∨ ∃ od, H' b = some (.frz od o)
theorem Sim.of {H H' : Hp} (s : Same H H') : Sim H H' := fun b o e => Or.inl (s b o e)
theorem Sim.lock {H : Hp} {a : Addr} {u : HO} {od : Obj} (h : H a = some u) : Sim H (upd H a (.frz od u)) := fun b o e => by
  by_cases hb : b = a
  · rw [hb] at e ⊢
    rw [h] at e
    cases e
    exact Or.inr ⟨od, upd_same⟩
  · exact Or.inl (by rw [upd_ne hb]; exact e)
theorem Sim.then {H H1 H2 : Hp} (a : Sim H H1) (s : Same H1 H2) : Sim H H2 := fun b o e => by
  rcases a b o e with h | ⟨od, h⟩
  · exact Or.inl (s _ _ h)
  · exact Or.inr ⟨od, s _ _ h⟩
theorem Sim.after {H H1 H2 : Hp} (s : Same H H1) (a : Sim H1 H2) : Sim H H2 := fun b o e => a b o (s b o e)
/-- of a known kind, as long as it stands, locked or not -/
def TydS (K : PySem.W.Frag) (H : Hp) (x : V) : Prop := ∀ H', Sim H H' → Tyd K H' x
section
variable {K : PySem.W.Frag} {H : Hp}
theorem TydS.now {x : V} (t : TydS K H x) : Tyd K H x := t H (.of (Same.refl H))
theorem TydS.same {H' : Hp} {x : V} (t : TydS K H x) (s : Same H H') : TydS K H' x := fun H2 z => t H2 (Sim.after s z)
theorem tydS_non : TydS K H .non := fun _ _ => tyd_non
theorem tydS_bl (b : Bool) : TydS K H (.bl b) := fun _ _ => tyd_bl b
theorem tydS_int (i : Int) : TydS K H (.int i) := fun _ _ => tyd_int i
theorem tydS_str (z : Str) : TydS K H (.str z) := fun _ _ => tyd_str z
theorem tydS_lst {a : Addr} {xs : List V} (h : H a = some (.lst xs)) : TydS K H (.ref a) := fun H' z => by
  rcases z a _ h with h | ⟨od, h⟩
  · exact tyd_lst h
  · exact tyd_of (a := false) (b := false) (c := false) (.base (.frz h)) (by decide +kernel) (by decide +kernel) (by decide +kernel) rfl rfl rfl
theorem tydS_tup {a : Addr} {xs : List V} (h : H a = some (.tup xs)) : TydS K H (.ref a) := fun H' z => by
  rcases z a _ h with h | ⟨od, h⟩
  · exact tyd_tup h
  · exact tyd_of (a := false) (b := false) (c := false) (.fTuple h) (by decide +kernel) (by decide +kernel) (by decide +kernel) rfl rfl rfl
theorem tydS_dK {a : Addr} {kvs : List (Key × V)} (h : H a = some (.dK kvs)) : TydS K H (.ref a) := fun H' z => by
  rcases z a _ h with h | ⟨od, h⟩
  · exact tyd_dK h
  · exact tyd_of (a := false) (b := false) (c := false) (.fDict h) (by decide +kernel) (by decide +kernel) (by decide +kernel) rfl rfl rfl
end
def KvOk (K : PySem.W.Frag) (H : Hp) (kvs : List (Key × V)) : Prop := ∀ kv ∈ kvs, szV (kV kv.1) ∧ TydS K H kv.2
theorem tyd_key {K : PySem.W.Frag} {H : Hp} (k : Key) : Tyd K H (kV k) := by
  cases k with
  | inl i => exact tyd_int i
  | inr z => exact tyd_str z
def spWithin (K : PySem.W.Frag) : Sp := fun vs H Q _ => ∃ x a b, vs = [x, .int a, .int b] ∧ Tyd K H x ∧ ∀ H', Same H H' → Q (.bl (inRange x a b)) H'
def spArePrices (K : PySem.W.Frag) : Sp := fun vs H Q _ => ∃ x, vs = [x] ∧
  ((∃ t, TyX K H x t ∧ PySem.W.kitOne K t (.type "dict") = some false ∧ ∀ H', Same H H' → Q (.bl false) H') ∨
   ∃ a kvs, x = .ref a ∧ H a = some (.dK kvs) ∧ kvs.length ≤ 1000 ∧ KvOk K H kvs ∧ ∀ H', Same H H' → Q (.bl (arePrices kvs)) H')
theorem piece_key {k : Key} (h : isPiece (kV k) = true) : ∃ z, k = Sum.inr z ∧ 1 ≤ (cs z).length ∧ (cs z).length ≤ 5 ∧ ∀ c ∈ cs z, lett c = true := by
  cases k with
  | inl i => cases h
  | inr z =>
    have h' : (decide (1 ≤ (cs z).length) && decide ((cs z).length ≤ 5) && (cs z).all lett) = true := h
    rw [Bool.and_eq_true, Bool.and_eq_true] at h'
    exact ⟨z, rfl, of_decide_eq_true h'.1.1, of_decide_eq_true h'.1.2, List.all_eq_true.mp h'.2⟩
theorem keys_of {kvs : List (Key × V)} (h : (kvs.all fun kv => isPiece (kV kv.1) && isPrice kv.2) = true) : kvs.map (·.1) = (keyStrs kvs).map Sum.inr := by
  induction kvs with
  | nil => rfl
  | cons a r ih =>
    rw [List.all_cons, Bool.and_eq_true, Bool.and_eq_true] at h
    obtain ⟨z, ez, _⟩ := piece_key h.1.1
    obtain ⟨k, v⟩ := a
    dsimp only at ez
    subst ez
    show Sum.inr z :: _ = Sum.inr z :: _
    rw [ih h.2]
    rfl
theorem keyStrs_piece {kvs : List (Key × V)} (h : (kvs.all fun kv => isPiece (kV kv.1) && isPrice kv.2) = true) : ∀ z ∈ keyStrs kvs, 1 ≤ (cs z).length ∧ (cs z).length ≤ 5 ∧ ∀ c ∈ cs z, lett c = true := by
  intro z hz
  obtain ⟨kv, hkv, e⟩ := List.mem_filterMap.mp hz
  have h1 := List.all_eq_true.mp h kv hkv
  rw [Bool.and_eq_true] at h1
  obtain ⟨y, ey, r⟩ := piece_key h1.1
  obtain ⟨k, v⟩ := kv
  dsimp only at ey e
  subst ey
  cases e
  exact r
theorem flat_len {zs : List Str} (h : ∀ z ∈ zs, (cs z).length ≤ 5) : ((zs.map cs).flatten).length ≤ 5 * zs.length := by
  induction zs with
  | nil => exact Nat.zero_le _
  | cons a r ih =>
    rw [List.map_cons, List.flatten_cons, List.length_append, List.length_cons]
    have h1 := h a List.mem_cons_self
    have h2 := ih fun z hz => h z (List.mem_cons_of_mem _ hz)
    omega
theorem singles : ∀ kvs : List (Key × V), (kvs.filterMap fun kv => match kv.1 with | .inr z => if decide ((cs z).length = 1) = true then some (V.str z) else none | .inl _ => none) = ((keyStrs kvs).filter fun z => decide ((cs z).length = 1)).map V.str
  | [] => rfl
  | (.inl i, v) :: r => singles r
  | (.inr z, v) :: r => by
    have ih := singles r
    have e : keyStrs ((Sum.inr z, v) :: r) = z :: keyStrs r := rfl
    rw [e, List.filter_cons, List.filterMap_cons]
    dsimp only
    cases h : decide ((cs z).length = 1) with
    | true =>
      rw [if_pos rfl, if_pos rfl, List.map_cons, ih]
    | false =>
      rw [if_neg Bool.false_ne_true, if_neg Bool.false_ne_true, ih]
/-! ### dict comprehensions; walks of lists and tuples told by a function -/
section
variable {α : Type} {J : It} {G : Hp → Prop} {Y : Nat → Hp → V → Hp → Prop}
theorem valV_none {κ : Type} [DecidableEq κ] {kvs : List (κ × V)} {k : κ} (h : k ∉ kvs.map (·.1)) : valV kvs k = none := by
  cases e : valV kvs k with
  | none => rfl
  | some v => exact absurd (valV_in e) h
theorem dcs (its : List α) (w : Walk J its.length G Y) (h : α → Key × V) (nd : (its.map fun a => (h a).1).Nodup) {g : TG} {tt : TT} {tk tv : TE} {vs : List Nat} {σ : L2.St} {H1 : Hp} {D : Addr} {Qd : Hp → Prop} (hD : H1 D = none) (hz : its.length ≤ 100000) (hG : ∀ H, Same H1 H → G H)
    (hs : ∀ i a x H H', its[i]? = some a → Same H1 H → Y i H x H' → ∀ (N : V → V → Hp → Prop) (M : Hp → Prop), (∀ H3, Same H H3 → N (kV (h a).1) (h a).2 H3) →
      g x (wipe σ vs) H' fun σ2 H2 => wipe σ2 vs = wipe σ vs ∧ tt σ2 H2 fun b H3 => if b = true then tk σ2 H3 fun y H4 => tv σ2 H4 fun z H5 => N y z H5 else M H3)
    (hd : ∀ H, Same H1 H → H D = some (.dK (its.map h)) → Qd H) :
    ∃ W : Nat → Nat → Hp → Prop, (∃ m, W 0 m (upd H1 D (.dK []))) ∧ ∀ i m H, W i m H →
      (J.stop i H ∧ Qd H) ∨ (J.go i H ∧ ∃ Nx : Hp → Prop, (∀ H', Nx H' → ∃ m', m' < m ∧ W (i + 1) m' H') ∧ ∀ x H', J.yld i H x H' → g x (wipe σ vs) H' fun σ2 H2 => wipe σ2 vs = wipe σ vs ∧ tt σ2 H2 fun b H3 =>
        if b = true then tk σ2 H3 fun y H4 => tv σ2 H4 fun z H5 => ∃ kvs k, y = kV k ∧ H5 D = some (.dK kvs) ∧ kvs.length < sizeLine ∧ Nx (upd H5 D (.dK (putK kvs k z))) else Nx H3) := by
  refine ⟨fun i m H => m = its.length - i ∧ i ≤ its.length ∧ Same H1 H ∧ H D = some (.dK ((its.take i).map h)), ⟨_, rfl, Nat.zero_le _, same_new hD, upd_same⟩, ?_⟩
  rintro i m H ⟨rfl, hi, s, e⟩
  by_cases hlt : i < its.length
  · obtain ⟨a, ha⟩ : ∃ a, its[i]? = some a := ⟨_, List.getElem?_eq_getElem hlt⟩
    refine .inr ⟨w.goes i H hlt (hG H s), fun H' => Same H1 H' ∧ H' D = some (.dK ((its.take (i + 1)).map h)), fun H' q => ⟨its.length - (i + 1), by omega, rfl, hlt, q⟩, ?_⟩
    intro x H' y
    refine hs i a x H H' ha s (w.yields i H x H' hlt (hG H s) y) _ _ fun H3 s3 => ⟨_, (h a).1, rfl, s3 _ _ e, ?_, fun b o q => ?_, ?_⟩
    · rw [List.length_map, List.length_take]
      exact Nat.lt_of_le_of_lt (by omega : _ ≤ 100000) (by decide)
    · rw [upd_ne (ne_of_none q hD)]
      exact s3 _ _ (s _ _ q)
    · have e1 : its.take (i + 1) = its.take i ++ [a] := by
        rw [List.take_add_one, ha]
        rfl
      have e2 : valV ((its.take i).map h) (h a).1 = none := valV_none fun m => by
        rw [List.map_map] at m
        have nd' : ((its.take (i + 1)).map fun a => (h a).1).Nodup := nd.sublist ((List.take_sublist _ _).map _)
        rw [e1, List.map_append] at nd'
        exact (List.nodup_append.mp nd').2.2 _ m _ (List.mem_singleton.mpr rfl) rfl
      rw [upd_same, putK_new _ e2, e1, List.map_append]
      rfl
  · have ei : i = its.length := by omega
    subst ei
    refine .inl ⟨w.stops H (hG H s), hd H s ?_⟩
    rw [e, List.take_length]
end
theorem walk_listF {β : Type} {K : PySem.W.Frag} {a : Addr} (f : β → V) (ys : List β) : Walk (Itl K a) ys.length (fun H => SqL K H a (ys.map f)) (fun i H x H' => H' = H ∧ ∃ b, ys[i]? = some b ∧ x = f b) := by
  have w := walk_list (K := K) (a := a) (xs := ys.map f)
  rw [List.length_map] at w
  refine w.mono (fun _ h => h) ?_
  rintro i H x H' hi _ ⟨rfl, hx⟩
  rw [List.getElem?_map] at hx
  cases e : ys[i]? with
  | none =>
    rw [e] at hx
    cases hx
  | some b =>
    rw [e] at hx
    exact ⟨rfl, b, rfl, (Option.some.inj hx).symm⟩
theorem walk_tupF {β : Type} {K : PySem.W.Frag} {a : Addr} (f : β → V) (ys : List β) : Walk (Itt K a) ys.length (fun H => SqT K H a (ys.map f)) (fun i H x H' => H' = H ∧ ∃ b, ys[i]? = some b ∧ x = f b) := by
  have w := walk_tup (K := K) (a := a) (xs := ys.map f)
  rw [List.length_map] at w
  refine w.mono (fun _ h => h) ?_
  rintro i H x H' hi _ ⟨rfl, hx⟩
  rw [List.getElem?_map] at hx
  cases e : ys[i]? with
  | none =>
    rw [e] at hx
    cases hx
  | some b =>
    rw [e] at hx
    exact ⟨rfl, b, rfl, (Option.some.inj hx).symm⟩
/-! ### a book is made -/
def priceIn (kvs : List (Key × V)) (z : Str) : Int := match valV kvs (Sum.inr z) with | some (.int p) => p | _ => 0
def psOf (kvs : List (Key × V)) (ys : List Str) : Ps := ys.map fun z => (z, priceIn kvs z)
theorem fm_some {α β : Type} (f : α → β) (l : List α) : l.filterMap (fun a => some (f a)) = l.map f := by
  rw [List.filterMap_eq_map']
theorem price_of_key {kvs : List (Key × V)} (h : (kvs.all fun kv => isPiece (kV kv.1) && isPrice kv.2) = true) {z : Str} (hz : z ∈ keyStrs kvs) : valV kvs (Sum.inr z) = some (.int (priceIn kvs z)) ∧ 1 ≤ priceIn kvs z ∧ priceIn kvs z ≤ 99 := by
  have hm : (Sum.inr z : Key) ∈ kvs.map (·.1) := by
    rw [keys_of h]
    exact List.mem_map.mpr ⟨z, hz, rfl⟩
  cases e : valV kvs (Sum.inr z : Key) with
  | none => exact absurd hm (valV_not e)
  | some v =>
    obtain ⟨kv, hkv, e1⟩ : ∃ kv ∈ kvs, kv.2 = v := by
      unfold valV at e
      cases e2 : kvs.find? (fun kv => decide (kv.1 = (Sum.inr z : Key))) with
      | none =>
        rw [e2] at e
        cases e
      | some kv =>
        rw [e2] at e
        exact ⟨kv, List.mem_of_find?_eq_some e2, Option.some.inj e⟩
    have h1 := List.all_eq_true.mp h kv hkv
    rw [Bool.and_eq_true] at h1
    have h2 := h1.2
    rw [e1] at h2
    cases v with
    | int p =>
      have h3 : (decide (p.natAbs < 10 ^ 60) && (decide (1 ≤ p) && decide (p ≤ 99))) = true := h2
      rw [Bool.and_eq_true, Bool.and_eq_true] at h3
      have e3 : priceIn kvs z = p := by
        unfold priceIn
        rw [e]
      rw [e3]
      exact ⟨rfl, of_decide_eq_true h3.2.1, of_decide_eq_true h3.2.2⟩
    | _ => cases h2
theorem ap_parts {kvs : List (Key × V)} (h : arePrices kvs = true) : (1 ≤ kvs.length ∧ kvs.length ≤ 12) ∧ (kvs.all fun kv => isPiece (kV kv.1) && isPrice kv.2) = true ∧ ((keyStrs kvs).filter fun z => decide ((cs z).length = 1)).length ≤ 4 ∧
    (((keyStrs kvs).map cs).flatten.all fun c => (valV kvs (Sum.inr (ch c))).isSome) = true := by
  unfold arePrices at h
  rw [Bool.and_eq_true, Bool.and_eq_true, Bool.and_eq_true, Bool.and_eq_true] at h
  obtain ⟨⟨⟨⟨a, b⟩, c⟩, d⟩, e⟩ := h
  have a' := of_decide_eq_true a
  have b' := of_decide_eq_true b
  exact ⟨⟨by omega, by omega⟩, c, of_decide_eq_true d, e⟩
theorem not_there {H H' : Hp} {a : Addr} (s : Same H H') (h : H' a = none) : H a = none := by
  cases e : H a with
  | none => rfl
  | some o =>
    rw [s _ _ e] at h
    cases h
theorem nd_of_map {α β : Type} {f : α → β} {l : List α} (h : (l.map f).Nodup) : l.Nodup := List.Pairwise.of_map f (fun _ _ n e => n (congrArg f e)) h
theorem nd_map {α β : Type} {f : α → β} (hf : ∀ a b, f a = f b → a = b) {l : List α} (h : l.Nodup) : (l.map f).Nodup := List.Pairwise.map f (fun a b n e => n (hf a b e)) h
section
variable {x y z u v : V}
theorem pf2 : putF "own_pieces" y [(("own_prices" : Str), x)] = [(("own_prices" : Str), x), ("own_pieces", y)] := by
  rw [pf_by (by decide +kernel)]
  rfl
theorem pf3 : putF "own_alphabet" z [(("own_prices" : Str), x), ("own_pieces", y)] = [(("own_prices" : Str), x), ("own_pieces", y), ("own_alphabet", z)] := by
  rw [pf_by (by decide +kernel), pf_by (by decide +kernel)]
  rfl
theorem pf4 : putF "own_longest" u [(("own_prices" : Str), x), ("own_pieces", y), ("own_alphabet", z)] = [(("own_prices" : Str), x), ("own_pieces", y), ("own_alphabet", z), ("own_longest", u)] := by
  rw [pf_by (by decide +kernel), pf_by (by decide +kernel), pf_by (by decide +kernel)]
  rfl
theorem pf5 : putF "own_dearest" v [(("own_prices" : Str), x), ("own_pieces", y), ("own_alphabet", z), ("own_longest", u)] = [(("own_prices" : Str), x), ("own_pieces", y), ("own_alphabet", z), ("own_longest", u), ("own_dearest", v)] := by
  rw [pf_by (by decide +kernel), pf_by (by decide +kernel), pf_by (by decide +kernel), pf_by (by decide +kernel)]
  rfl
end
theorem sgn_fm (kvs : List (Key × V)) (ys : List Str) : (ys.filterMap fun z => if decide ((cs z).length = 1) = true then some (V.str z) else none) = (sgn (psOf kvs ys)).map V.str := by
  induction ys with
  | nil => rfl
  | cons z r ih =>
    have e : sgn (psOf kvs (z :: r)) = if decide (z.length = 1) = true then z :: sgn (psOf kvs r) else sgn (psOf kvs r) := by
      unfold sgn psOf
      rw [List.map_cons, List.map_cons, List.filter_cons]
    rw [e, List.filterMap_cons, cs_len, ih]
    cases decide (z.length = 1) <;> rfl
theorem kv_keys (ps : Ps) : (kvOf ps).map (fun kv => kV kv.1) = ps.map fun p => V.str p.1 := by
  unfold kvOf
  rw [List.map_map]
  rfl
theorem kv_vals (ps : Ps) : (kvOf ps).map (·.2) = (fees ps).map V.int := by
  unfold kvOf fees
  rw [List.map_map, List.map_map]
  rfl
/-- Book.__init__ on a right dict -/
def spBook (C : Addr) (K : PySem.W.Frag) : Sp := fun vs H Q _ => ∃ (b dx a : Addr) (kvs : List (Key × V)), vs = [.ref b, .ref a] ∧ H b = some (.ins C dx []) ∧ H a = some (.dK kvs) ∧ KvOk K H kvs ∧ arePrices kvs = true ∧ (kvs.map (·.1)).Nodup ∧
  ∀ H' ys L M d tp ta od, ys.Perm (keyStrs kvs) → sortedS ys = true → BookAt C H' b (psOf kvs ys) L M dx d tp ta od → (∀ c o, H c = some o → c ≠ b → H' c = some o) → Q .non H'
end G
/-! Cheapest prices, in plain Lean: cuts by a tariff, the least fee. -/
namespace G
open PySem PySem.Spec PyProof.Rows L2
abbrev Tf := Str → Option Int
def Cut (F : Tf) (l : List Nat) (c : Ps) : Prop := (∀ p ∈ c, F p.1 = some p.2) ∧ (c.map fun p => cs p.1).flatten = l
def fee (c : Ps) : Int := (c.map (·.2)).sum
def Least (F : Tf) (l : List Nat) (m : Int) : Prop := (∃ c, Cut F l c ∧ fee c = m) ∧ ∀ c, Cut F l c → m ≤ fee c
def Over (F : Tf) (l : List Nat) : Prop := ∀ c ∈ l, ∃ p, F (ch c) = some p
structure Good (F : Tf) : Prop where
  pos : ∀ z p, F z = some p → 1 ≤ p ∧ p ≤ 99
  len : ∀ z p, F z = some p → 1 ≤ (cs z).length ∧ (cs z).length ≤ 5
  cov : ∀ z p, F z = some p → Over F (cs z)
open Classical in
noncomputable def lp (F : Tf) (l : List Nat) : Int := if h : ∃ m, Least F l m then h.choose else 0
section
variable {F F1 F2 : Tf} {l a b : List Nat} {m n : Int} {c d : Ps} {z : Str} {p : Int}
theorem Least.uniq (h : Least F l m) (k : Least F l n) : m = n := by
  obtain ⟨⟨c, hc, rfl⟩, hm⟩ := h
  obtain ⟨⟨d, hd, rfl⟩, hn⟩ := k
  have := hm d hd
  have := hn c hc
  omega
theorem lp_of (h : Least F l m) : lp F l = m := by
  have hx : ∃ m, Least F l m := ⟨m, h⟩
  unfold lp
  rw [dif_pos hx]
  exact hx.choose_spec.uniq h
theorem fee_app : fee (c ++ d) = fee c + fee d := by
  unfold fee
  rw [List.map_append, List.sum_append]
theorem Cut.app (h : Cut F a c) (k : Cut F b d) : Cut F (a ++ b) (c ++ d) := by
  refine ⟨fun p hp => ?_, ?_⟩
  · rcases List.mem_append.mp hp with q | q
    · exact h.1 p q
    · exact k.1 p q
  · rw [List.map_append, List.flatten_append, h.2, k.2]
theorem Cut.one (h : F z = some p) : Cut F (cs z) [(z, p)] := ⟨fun q hq => by rw [List.mem_singleton.mp hq]; exact h, by simp⟩
theorem Cut.nil : Cut F [] [] := ⟨fun _ h => (List.not_mem_nil h).elim, rfl⟩
theorem fee_one : fee [(z, p)] = p := by simp [fee]
theorem fee_nil : fee [] = 0 := rfl
theorem fee_cons {q : Str × Int} : fee (q :: c) = q.2 + fee c := rfl
theorem fee_pos (G : Good F) : ∀ c : Ps, (∀ p ∈ c, F p.1 = some p.2) → 0 ≤ fee c
  | [], _ => Int.le_refl _
  | q :: r, h => by
    have h1 := (G.pos _ _ (h q List.mem_cons_self)).1
    have h2 := fee_pos G r fun p hp => h p (List.mem_cons_of_mem _ hp)
    rw [fee_cons]
    omega
theorem cut_ex (o : Over F l) : ∃ c, Cut F l c := by
  induction l with
  | nil => exact ⟨[], Cut.nil⟩
  | cons x r ih =>
    obtain ⟨c, hc⟩ := ih fun y hy => o y (List.mem_cons_of_mem _ hy)
    obtain ⟨p, hp⟩ := o x List.mem_cons_self
    exact ⟨_, (Cut.one hp).app hc⟩
theorem least_ex (G : Good F) (o : Over F l) : ∃ m, Least F l m := by
  obtain ⟨c0, h0⟩ := cut_ex o
  have go : ∀ n : Nat, ∀ c, Cut F l c → (fee c).toNat = n → ∃ m, Least F l m := by
    intro n
    induction n using Nat.strongRecOn with
    | ind n ih =>
      intro c hc hn
      by_cases hx : ∃ d, Cut F l d ∧ fee d < fee c
      · obtain ⟨d, hd, lt⟩ := hx
        have := fee_pos G d hd.1
        exact ih (fee d).toNat (by omega) d hd rfl
      · refine ⟨fee c, ⟨c, hc, rfl⟩, fun d hd => ?_⟩
        by_cases q : fee c ≤ fee d
        · exact q
        · exact absurd ⟨d, hd, by omega⟩ hx
  exact go _ c0 h0 rfl
theorem lp_least (G : Good F) (o : Over F l) : Least F l (lp F l) := by
  obtain ⟨m, h⟩ := least_ex G o
  rw [lp_of h]
  exact h
theorem lp_nil (G : Good F) : lp F [] = 0 := lp_of ⟨⟨[], Cut.nil, rfl⟩, fun c hc => fee_pos G c hc.1⟩
theorem lp_le (G : Good F) (h : Cut F l c) (o : Over F l) : lp F l ≤ fee c := (lp_least G o).2 c h
theorem lp_cut (G : Good F) (o : Over F l) : ∃ c, Cut F l c ∧ fee c = lp F l := (lp_least G o).1
theorem Over.app (h : Over F a) (k : Over F b) : Over F (a ++ b) := fun c hc => by
  rcases List.mem_append.mp hc with q | q
  · exact h c q
  · exact k c q
theorem Over.left (h : Over F (a ++ b)) : Over F a := fun c hc => h c (List.mem_append_left _ hc)
theorem Over.right (h : Over F (a ++ b)) : Over F b := fun c hc => h c (List.mem_append_right _ hc)
theorem Over.take (h : Over F l) (i : Nat) : Over F (l.take i) := fun c hc => h c (List.mem_of_mem_take hc)
theorem Over.drop (h : Over F l) (i : Nat) : Over F (l.drop i) := fun c hc => h c (List.mem_of_mem_drop hc)
theorem lp_add (G : Good F) (ha : Over F a) (hb : Over F b) : lp F (a ++ b) ≤ lp F a + lp F b := by
  obtain ⟨c, hc, e1⟩ := lp_cut G ha
  obtain ⟨d, hd, e2⟩ := lp_cut G hb
  have := lp_le G (hc.app hd) (ha.app hb)
  rw [fee_app, e1, e2] at this
  exact this
theorem lp_piece (G : Good F) (h : F z = some p) : lp F (cs z) ≤ p := by
  have := lp_le G (Cut.one h) (G.cov z p h)
  rwa [fee_one] at this
theorem lp_app (G : Good F) (ha : Over F a) (h : F z = some p) : lp F (a ++ cs z) ≤ lp F a + p := by
  have h1 := lp_add G ha (G.cov z p h)
  have h2 := lp_piece G h
  omega
/-- the last piece of a cheapest cut -/
theorem lp_last (G : Good F) (o : Over F l) (ne : l ≠ []) : ∃ z p a, F z = some p ∧ l = a ++ cs z ∧ lp F l = lp F a + p := by
  obtain ⟨c, hc, e⟩ := lp_cut G o
  have nc : c ≠ [] := fun q => ne (by rw [← hc.2, q]; rfl)
  obtain ⟨d, q, rfl⟩ : ∃ d q, c = d ++ [q] := ⟨c.dropLast, c.getLast nc, (List.dropLast_concat_getLast nc).symm⟩
  have hq := hc.1 q (List.mem_append_right _ (List.mem_singleton.mpr rfl))
  have hl : l = (d.map fun p => cs p.1).flatten ++ cs q.1 := by
    rw [← hc.2, List.map_append, List.flatten_append]
    simp
  have hd : Cut F (d.map fun p => cs p.1).flatten d := ⟨fun p hp => hc.1 p (List.mem_append_left _ hp), rfl⟩
  have oa : Over F (d.map fun p => cs p.1).flatten := by
    rw [hl] at o
    exact o.left
  refine ⟨q.1, q.2, _, hq, hl, ?_⟩
  have h1 := lp_le G hd oa
  have h2 := lp_app G oa hq
  rw [← hl] at h2
  rw [fee_app] at e
  have h3 : fee [q] = q.2 := fee_one (z := q.1)
  rw [h3] at e
  omega
/-- one step of the row of cheapest prices -/
theorem lp_step (G : Good F) (o : Over F l) (ne : l ≠ []) {ys : List Int} (hin : ∀ y ∈ ys, ∃ z p a, F z = some p ∧ l = a ++ cs z ∧ y = lp F a + p)
    (hall : ∀ z p a, F z = some p → l = a ++ cs z → lp F a + p ∈ ys) (hm : m ∈ ys) (hl : ∀ y ∈ ys, m ≤ y) : m = lp F l := by
  obtain ⟨z, p, a, h1, h2, h3⟩ := lp_last G o ne
  have h4 := hl _ (hall z p a h1 h2)
  obtain ⟨z', p', a', h5, h6, h7⟩ := hin m hm
  have h8 := lp_app G (a := a') (by rw [h6] at o; exact o.left) h5
  rw [← h6] at h8
  omega
/-- dearer on no piece, dearer on no text -/
theorem lp_mono (G1 : Good F1) (G2 : Good F2) (h : ∀ z p, F2 z = some p → Over F1 (cs z) ∧ lp F1 (cs z) ≤ p) (o1 : Over F1 l) (o2 : Over F2 l) : lp F1 l ≤ lp F2 l := by
  obtain ⟨c, hc, e⟩ := lp_cut G2 o2
  rw [← e]
  have go : ∀ (c : Ps) (l : List Nat), Cut F2 l c → Over F1 l → lp F1 l ≤ fee c := by
    intro c
    induction c with
    | nil =>
      intro l hc _
      rw [← hc.2]
      exact Int.le_of_eq (lp_nil G1)
    | cons q r ih =>
      intro l hc ol
      have hl : l = cs q.1 ++ (r.map fun p => cs p.1).flatten := hc.2.symm
      rw [hl] at ol ⊢
      obtain ⟨h1, h2⟩ := h _ _ (hc.1 q List.mem_cons_self)
      have h3 := ih _ ⟨fun p hp => hc.1 p (List.mem_cons_of_mem _ hp), rfl⟩ ol.right
      have h4 := lp_add G1 ol.left ol.right
      rw [fee_cons]
      omega
  exact go c l hc o1
end
/-- the tariff of a dict -/
def tfD (kvs : List (Key × V)) : Tf := fun z => match valV kvs (Sum.inr z) with | some (.int p) => some p | _ => none
theorem tf_some {kvs : List (Key × V)} {z : Str} {p : Int} : tfD kvs z = some p ↔ valV kvs (Sum.inr z) = some (.int p) := by
  unfold tfD
  constructor
  · intro h
    split at h
    · rename_i q e
      rw [e, Option.some.inj h]
    · cases h
  · intro h
    rw [h]
theorem ks_mem {kvs : List (Key × V)} {z : Str} : z ∈ keyStrs kvs ↔ (Sum.inr z : Key) ∈ kvs.map (·.1) := by
  unfold keyStrs
  rw [List.mem_filterMap, List.mem_map]
  constructor
  · rintro ⟨⟨k, v⟩, h1, h2⟩
    cases k with
    | inl i => cases h2
    | inr y =>
      cases h2
      exact ⟨_, h1, rfl⟩
  · rintro ⟨⟨k, v⟩, h1, h2⟩
    dsimp only at h2
    subst h2
    exact ⟨_, h1, rfl⟩
theorem good_of {kvs : List (Key × V)} (av : arePrices kvs = true) : Good (tfD kvs) := by
  obtain ⟨_, al, _, fs⟩ := ap_parts av
  have key : ∀ {z p}, tfD kvs z = some p → z ∈ keyStrs kvs := fun h => ks_mem.mpr (valV_in (tf_some.mp h))
  refine ⟨fun z p h => ?_, fun z p h => ?_, fun z p h c hc => ?_⟩
  · obtain ⟨h1, h2, h3⟩ := price_of_key al (key h)
    rw [tf_some.mp h] at h1
    have : p = priceIn kvs z := V.int.inj (Option.some.inj h1)
    rw [this]
    exact ⟨h2, h3⟩
  · obtain ⟨h1, h2, _⟩ := keyStrs_piece al z (key h)
    exact ⟨h1, h2⟩
  · have h1 := List.all_eq_true.mp fs c (List.mem_flatten.mpr ⟨cs z, List.mem_map.mpr ⟨z, key h, rfl⟩, hc⟩)
    have h2 : (Sum.inr (ch c) : Key) ∈ kvs.map (·.1) := by
      cases e : valV kvs (Sum.inr (ch c)) with
      | none =>
        rw [e] at h1
        cases h1
      | some v => exact valV_in e
    exact ⟨_, tf_some.mpr (price_of_key al (ks_mem.mpr h2)).1⟩

theorem valV_mem {kvs : List (Key × V)} {k : Key} {v : V} (h : valV kvs k = some v) : (k, v) ∈ kvs := by
  unfold valV at h
  cases e : kvs.find? (fun kv => decide (kv.1 = k)) with
  | none =>
    rw [e] at h
    cases h
  | some kv =>
    rw [e] at h
    have h1 : kv.2 = v := Option.some.inj h
    have h2 : kv.1 = k := by simpa using List.find?_some e
    have h3 := List.mem_of_find?_eq_some e
    rw [← h1, ← h2]
    exact h3
/-- a dict of texts and prices -/
structure Tar (kvs : List (Key × V)) : Prop where
  good : Good (tfD kvs)
  mem : ∀ kv ∈ kvs, ∃ z p, kv = (Sum.inr z, V.int p) ∧ tfD kvs z = some p
  len : kvs.length ≤ 1000
theorem tar_of {kvs : List (Key × V)} (av : arePrices kvs = true) (nd : (kvs.map (·.1)).Nodup) : Tar kvs := by
  obtain ⟨⟨n1, n2⟩, al, _, fs⟩ := ap_parts av
  refine ⟨good_of av, fun kv hkv => ?_, by omega⟩
  have h1 := List.all_eq_true.mp al kv hkv
  rw [Bool.and_eq_true] at h1
  obtain ⟨z, ez, _⟩ := piece_key h1.1
  have h3 := val_nodup nd kv hkv
  rw [ez] at h3
  have hz : z ∈ keyStrs kvs := ks_mem.mpr (List.mem_map.mpr ⟨kv, hkv, ez⟩)
  obtain ⟨h4, _⟩ := price_of_key al hz
  rw [h4] at h3
  refine ⟨z, priceIn kvs z, ?_, tf_some.mpr h4⟩
  rw [Option.some.inj h3, ← ez]
theorem val_fun {g : Str → Int} : ∀ {ys : List Str} {z : Str}, valV (ys.map fun y => ((Sum.inr y : Key), V.int (g y))) (Sum.inr z) = if z ∈ ys then some (.int (g z)) else none
  | [], z => by
    rw [if_neg (List.not_mem_nil)]
    rfl
  | y :: r, z => by
    by_cases h : y = z
    · subst h
      rw [if_pos List.mem_cons_self, List.map_cons, valV_pos rfl]
    · rw [List.map_cons, valV_neg (fun e => h (Sum.inr.inj e)), val_fun]
      by_cases q : z ∈ r
      · rw [if_pos q, if_pos (List.mem_cons_of_mem _ q)]
      · rw [if_neg q, if_neg fun m => ?_]
        rcases List.mem_cons.mp m with e | e
        · exact h e.symm
        · exact q e
theorem kvOf_ps {kvs : List (Key × V)} {ys : List Str} : kvOf (psOf kvs ys) = ys.map fun y => ((Sum.inr y : Key), V.int (priceIn kvs y)) := by
  unfold kvOf psOf
  rw [List.map_map]
  rfl
theorem tf_psOf {kvs : List (Key × V)} {ys : List Str} (al : (kvs.all fun kv => isPiece (kV kv.1) && isPrice kv.2) = true) (pm : ys.Perm (keyStrs kvs)) : tfD (kvOf (psOf kvs ys)) = tfD kvs := by
  funext z
  unfold tfD
  rw [kvOf_ps, val_fun]
  by_cases h : z ∈ ys
  · rw [if_pos h, (price_of_key al (pm.mem_iff.mp h)).1]
  · rw [if_neg h, valV_none fun m => h (pm.mem_iff.mpr (ks_mem.mpr m))]
theorem tar_book {kvs : List (Key × V)} {ys : List Str} (av : arePrices kvs = true) (pm : ys.Perm (keyStrs kvs)) : Tar (kvOf (psOf kvs ys)) := by
  obtain ⟨⟨n1, n2⟩, al, _, fs⟩ := ap_parts av
  have e := tf_psOf al pm
  refine ⟨by rw [e]; exact good_of av, fun kv hkv => ?_, ?_⟩
  · rw [kvOf_ps] at hkv
    obtain ⟨y, hy, rfl⟩ := List.mem_map.mp hkv
    refine ⟨y, _, rfl, ?_⟩
    rw [e]
    exact tf_some.mpr (price_of_key al (pm.mem_iff.mp hy)).1
  · have h := congrArg List.length (keys_of al)
    rw [List.length_map, List.length_map] at h
    rw [kvOf_ps, List.length_map, pm.length_eq]
    omega
/-- a book as Book(prices) made it -/
structure Book1 (C : Addr) (H : Hp) (b : Addr) (kvs : List (Key × V)) : Prop where
  av : arePrices kvs = true
  nd : (kvs.map (·.1)).Nodup
  ex : ∃ ys L M dx d tp ta od, ys.Perm (keyStrs kvs) ∧ sortedS ys = true ∧ BookAt C H b (psOf kvs ys) L M dx d tp ta od
theorem Book1.same {C : Addr} {H H' : Hp} {b : Addr} {kvs : List (Key × V)} (B : Book1 C H b kvs) (s : Same H H') : Book1 C H' b kvs := by
  obtain ⟨ys, L, M, dx, d, tp, ta, od, h1, h2, h3⟩ := B.ex
  exact ⟨B.av, B.nd, ys, L, M, dx, d, tp, ta, od, h1, h2, h3.same s⟩
theorem kvOk_of {K : PySem.W.Frag} {H : Hp} {kvs : List (Key × V)} (al : (kvs.all fun kv => isPiece (kV kv.1) && isPrice kv.2) = true) : KvOk K H kvs := by
  intro kv hkv
  have h1 := List.all_eq_true.mp al kv hkv
  rw [Bool.and_eq_true] at h1
  obtain ⟨z, ez, _, h2, _⟩ := piece_key h1.1
  constructor
  · rw [ez]
    show z.length ≤ 100000
    rw [← cs_len]
    omega
  · have h3 := h1.2
    generalize kv.2 = v at h3
    cases v with
    | int p => exact tydS_int p
    | _ => cases h3
/-- Book(prices), as pe_mk asks -/
theorem made_book {C a x dx : Addr} {K : PySem.W.Frag} {H : Hp} {kvs : List (Key × V)} {Q : VK} {E : XK} (hx : H x = none) (hdx : H dx = none) (ha : H a = some (.dK kvs)) (av : arePrices kvs = true) (nd : (kvs.map (·.1)).Nodup) (q : ∀ H', Same H H' → Book1 C H' x kvs → Q .non H') :
    spBook C K (.ref x :: ([.ref a] ++ [])) (upd (upd H dx (.own x)) x (.ins C dx [])) Q E := by
  refine ⟨x, dx, a, kvs, rfl, upd_same, ?_, kvOk_of (ap_parts av).2.1, av, nd, ?_⟩
  · rw [upd_ne (ne_of_none ha hx), upd_ne (ne_of_none ha hdx)]
    exact ha
  · intro H' ys L M d tp ta od pm so B k
    refine q H' (fun c o e => k c o ?_ (ne_of_none e hx)) ⟨av, nd, ys, L, M, dx, d, tp, ta, od, pm, so, B⟩
    rw [upd_ne (ne_of_none e hx), upd_ne (ne_of_none e hdx)]
    exact e
/-! ### ends of texts -/
theorem ends_iff {x y : Str} : Txt.endswith x y = true ↔ ∃ a, cs x = a ++ cs y := by
  have l1 := cs_len x
  have l2 := cs_len y
  unfold Txt.endswith
  rw [StrLaws.subAt_eq, Nat.zero_add, Bool.and_eq_true, decide_eq_true_eq, beq_iff_eq]
  constructor
  · rintro ⟨h1, h2⟩
    refine ⟨(cs x).take (x.length - y.length), ?_⟩
    have h3 : ((cs x).drop (x.length - y.length)).take y.length = (cs x).drop (x.length - y.length) := List.take_of_length_le (by rw [List.length_drop]; omega)
    have h4 : (cs x).drop (x.length - y.length) = cs y := h3.symm.trans h2
    rw [← h4, List.take_append_drop]
  · rintro ⟨a, h⟩
    have h0 := congrArg List.length h
    rw [List.length_append] at h0
    refine ⟨by omega, ?_⟩
    show ((cs x).drop (x.length - y.length)).take y.length = cs y
    have e : x.length - y.length = a.length := by omega
    rw [h, e, List.drop_left, List.take_of_length_le (by omega)]
/-! ### rows of cheapest prices -/
noncomputable def rowV (F : Tf) (l : List Nat) (n : Nat) : List V := (List.range n).map fun j => V.int (lp F (l.take j))
theorem rowV_len {F : Tf} {l : List Nat} {n : Nat} : (rowV F l n).length = n := by
  unfold rowV
  rw [List.length_map, List.length_range]
theorem rowV_at {F : Tf} {l : List Nat} {n j : Nat} (h : j < n) : (rowV F l n)[j]? = some (.int (lp F (l.take j))) := by
  unfold rowV
  rw [List.getElem?_map, List.getElem?_range h]
  rfl
theorem rowV_succ {F : Tf} {l : List Nat} {n : Nat} : rowV F l (n + 1) = rowV F l n ++ [.int (lp F (l.take n))] := by
  unfold rowV
  rw [List.range_succ, List.map_append]
  rfl
theorem rowV_one {F : Tf} {l : List Nat} (G : Good F) : rowV F l 1 = [.int 0] := by
  show [V.int (lp F (l.take 0))] = _
  rw [List.take_zero, lp_nil G]
theorem atI_last {α : Type} {xs : List α} {v : α} : atI (xs ++ [v]) (-1) = some v := by
  have e : ixN (xs ++ [v]).length (-1) = some xs.length := by
    rw [List.length_append, List.length_singleton]
    unfold ixN
    rw [if_neg (by omega), if_pos (by omega)]
    congr 1
    omega
  unfold atI
  rw [e]
  show (xs ++ [v])[xs.length]? = some v
  simp
noncomputable def candG (F : Tf) (l : List Nat) (e : Nat) (st : Str) : Key × V → Option Int := fun kv => match kv with
  | (.inr y, .int p) => if Txt.endswith st y = true then some (lp F (l.take (e - y.length)) + p) else none
  | _ => none
theorem cand_min {kvs : List (Key × V)} {l : List Nat} {e : Nat} {st : Str} (T : Tar kvs) (ov : Over (tfD kvs) l) (hst : cs st = l.take e) (he : 1 ≤ e) (hel : e ≤ l.length) :
    0 < (kvs.filterMap (candG (tfD kvs) l e st)).length ∧ ∀ m ∈ kvs.filterMap (candG (tfD kvs) l e st), (∀ y ∈ kvs.filterMap (candG (tfD kvs) l e st), m ≤ y) → m = lp (tfD kvs) (l.take e) := by
  have le : (l.take e).length = e := by
    rw [List.length_take]
    omega
  have ne : l.take e ≠ [] := fun q => by
    rw [q] at le
    simp at le
    omega
  have ove : Over (tfD kvs) (l.take e) := ov.take e
  have part : ∀ {a : List Nat} {y : Str}, l.take e = a ++ cs y → a = l.take (e - y.length) := by
    intro a y h
    have h1 := congrArg List.length h
    rw [List.length_append, le, cs_len] at h1
    have h2 : (l.take e).take (e - y.length) = a := by
      rw [h, List.take_append_of_le_length (by omega), List.take_of_length_le (by omega)]
    rw [← h2, List.take_take]
    congr 1
    omega
  have hin : ∀ y ∈ kvs.filterMap (candG (tfD kvs) l e st), ∃ z p a, tfD kvs z = some p ∧ l.take e = a ++ cs z ∧ y = lp (tfD kvs) a + p := by
    intro y hy
    obtain ⟨kv, hkv, g⟩ := List.mem_filterMap.mp hy
    obtain ⟨z, p, rfl, hp⟩ := T.mem kv hkv
    have g' : (if Txt.endswith st z = true then some (lp (tfD kvs) (l.take (e - z.length)) + p) else none) = some y := g
    by_cases q : Txt.endswith st z = true
    · rw [if_pos q] at g'
      obtain ⟨a, ha⟩ := ends_iff.mp q
      rw [hst] at ha
      refine ⟨z, p, a, hp, ha, ?_⟩
      rw [part ha]
      exact (Option.some.inj g').symm
    · rw [if_neg q] at g'
      cases g'
  have hall : ∀ z p a, tfD kvs z = some p → l.take e = a ++ cs z → lp (tfD kvs) a + p ∈ kvs.filterMap (candG (tfD kvs) l e st) := by
    intro z p a hp ha
    refine List.mem_filterMap.mpr ⟨(Sum.inr z, V.int p), valV_mem (tf_some.mp hp), ?_⟩
    show (if Txt.endswith st z = true then some (lp (tfD kvs) (l.take (e - z.length)) + p) else none) = _
    rw [if_pos (ends_iff.mpr ⟨a, by rw [hst]; exact ha⟩), ← part ha]
  constructor
  · obtain ⟨z, p, a, h1, h2, _⟩ := lp_last T.good ove ne
    exact List.length_pos_of_mem (hall z p a h1 h2)
  · intro m hm hl
    exact lp_step T.good ove ne hin hall hm hl
theorem fm_int {α : Type} {g : α → Option Int} {l : List α} : l.filterMap (fun a => (g a).map V.int) = (l.filterMap g).map V.int := by
  rw [List.map_filterMap]
theorem same_mut {H H' : Hp} {a : Addr} {o : HO} (s : Same H H') (h : H a = none) : Same H (upd H' a o) := fun b u e => by
  rw [upd_ne (ne_of_none e h)]
  exact s _ _ e
theorem cs_cutTo {z : Str} {i : Nat} (h : i ≤ z.length) : cs (cutS z none (some (i : Int))) = (cs z).take i := by
  rw [cs_cut, sIx_pos (by omega)]
  show ((cs z).drop 0).take (min (Int.toNat (i : Int)) z.length - 0) = _
  rw [List.drop_zero, Int.toNat_natCast]
  congr 1
  omega
noncomputable def costF (F : Tf) (l : List Nat) (s : Nat) : Option Int := (F (sOf (l.drop s))).map fun p => lp F (l.take s) + p
noncomputable def costs (F : Tf) (l : List Nat) : List Int := (List.range (l.length - (l.length - 5))).filterMap fun i => costF F l (l.length - 5 + i)
theorem cost_min {F : Tf} {l : List Nat} (G : Good F) (o : Over F l) (ne : l ≠ []) : 0 < (costs F l).length ∧ ∀ m ∈ costs F l, (∀ y ∈ costs F l, m ≤ y) → m = lp F l := by
  have hin : ∀ y ∈ costs F l, ∃ z p a, F z = some p ∧ l = a ++ cs z ∧ y = lp F a + p := by
    intro y hy
    obtain ⟨i, hi, g⟩ := List.mem_filterMap.mp hy
    have g' : (F (sOf (l.drop (l.length - 5 + i)))).map (fun p => lp F (l.take (l.length - 5 + i)) + p) = some y := g
    cases e : F (sOf (l.drop (l.length - 5 + i))) with
    | none =>
      rw [e] at g'
      cases g'
    | some p =>
      rw [e] at g'
      exact ⟨_, p, l.take (l.length - 5 + i), e, by rw [cs_sOf, List.take_append_drop], (Option.some.inj g').symm⟩
  have hall : ∀ z p a, F z = some p → l = a ++ cs z → lp F a + p ∈ costs F l := by
    intro z p a hp ha
    obtain ⟨n1, n2⟩ := G.len z p hp
    have hl := congrArg List.length ha
    rw [List.length_append] at hl
    have e1 : l.length - 5 + (a.length - (l.length - 5)) = a.length := by omega
    refine List.mem_filterMap.mpr ⟨a.length - (l.length - 5), List.mem_range.mpr (by omega), ?_⟩
    show costF F l (l.length - 5 + (a.length - (l.length - 5))) = _
    rw [e1]
    unfold costF
    have e2 : l.drop a.length = cs z := by rw [ha, List.drop_left]
    have e3 : l.take a.length = a := by rw [ha, List.take_left]
    rw [e2, e3, sOf_cs, hp]
    rfl
  constructor
  · obtain ⟨z, p, a, h1, h2, _⟩ := lp_last G o ne
    exact List.length_pos_of_mem (hall z p a h1 h2)
  · intro m hm hl
    exact lp_step G o ne hin hall hm hl
theorem tar_val {kvs : List (Key × V)} (T : Tar kvs) (z : Str) : valV kvs (Sum.inr z) = (tfD kvs z).map V.int := by
  cases e : valV kvs (Sum.inr z : Key) with
  | none =>
    unfold tfD
    rw [e]
    rfl
  | some v =>
    obtain ⟨y, p, e1, e2⟩ := T.mem _ (valV_mem e)
    have e3 : z = y := Sum.inr.inj (congrArg Prod.fst e1)
    subst e3
    rw [e2]
    have e4 : v = V.int p := congrArg Prod.snd e1
    rw [e4]
    rfl
theorem cs_cutAB {z : Str} {a b : Nat} (hab : a ≤ b) (hb : b ≤ z.length) : cs (cutS z (some (a : Int)) (some (b : Int))) = ((cs z).take b).drop a := by
  have e1 : min a z.length = a := by omega
  have e2 : min b z.length = b := by omega
  rw [cs_cut, sIx_pos (by omega), sIx_pos (by omega), Int.toNat_natCast, Int.toNat_natCast, List.drop_take, e1, e2]
theorem cs_cutFrom {z : Str} {a : Nat} (h : a ≤ z.length) : cs (cutS z (some (a : Int)) none) = (cs z).drop a := by
  rw [cs_cut, sIx_pos (by omega), Int.toNat_natCast]
  have e : min a z.length = a := by omega
  rw [e]
  show ((cs z).drop a).take (z.length - a) = _
  exact List.take_of_length_le (by rw [List.length_drop, cs_len]; omega)
theorem max0 (n : Nat) : (if (n : Int) - 5 > 0 then (n : Int) - 5 else 0) = ((n - 5 : Nat) : Int) := by split <;> omega
/-- _law_least, of a dict that is locked or not -/
def spLawLeast : Sp := fun vs H Q _ => ∃ d kvs z, vs = [.ref d, .str z] ∧ Rd H d (.dK kvs) ∧ Tar kvs ∧ Over (tfD kvs) (cs z) ∧ z.length ≤ 10000 ∧ ∀ H', Same H H' → Q (.int (lp (tfD kvs) (cs z))) H'
theorem fm_range_succ {α : Type} {g : Nat → Option α} {j : Nat} : (List.range (j + 1)).filterMap g = (List.range j).filterMap g ++ (g j).toList := by
  rw [List.range_succ, List.filterMap_append]
  congr 1
theorem rd_same {H H' : Hp} {d : Addr} {u : HO} (r : Rd H d u) (s : Same H H') : Rd H' d u := by
  rcases r with h | ⟨od, h⟩
  · exact .inl (s _ _ h)
  · exact .inr ⟨od, s _ _ h⟩
/-! ### tables of cheapest prices -/
structure TblOk (F : Tf) (S : Str → Prop) (kf : List (Key × V)) : Prop where
  val : ∀ z, S z → valV kf (Sum.inr z) = some (.int (lp F (cs z)))
  key : ∀ kv ∈ kf, ∃ z, kv.1 = Sum.inr z ∧ S z
theorem TblOk.congr {F : Tf} {S S' : Str → Prop} {kf : List (Key × V)} (T : TblOk F S kf) (h : ∀ z, S z ↔ S' z) : TblOk F S' kf :=
  ⟨fun z hz => T.val z ((h z).mpr hz), fun kv hkv => (T.key kv hkv).imp fun z q => ⟨q.1, (h z).mp q.2⟩⟩
theorem put_mem {kvs : List (Key × V)} {k : Key} {v : V} {kv : Key × V} (h : kv ∈ putK kvs k v) : kv.1 = k ∨ kv ∈ kvs := by
  unfold putK at h
  by_cases q : (kvs.any fun kv => decide (kv.1 = k)) = true
  · rw [if_pos q] at h
    obtain ⟨x, hx, rfl⟩ := List.mem_map.mp h
    by_cases e : x.1 = k
    · rw [if_pos e]
      exact Or.inl e
    · rw [if_neg e]
      exact Or.inr hx
  · rw [if_neg q] at h
    rcases List.mem_append.mp h with h | h
    · exact Or.inr h
    · rw [List.mem_singleton.mp h]
      exact Or.inl rfl
theorem put_len {kvs : List (Key × V)} {k : Key} {v : V} : (putK kvs k v).length ≤ kvs.length + 1 := by
  unfold putK
  split
  · rw [List.length_map]
    omega
  · rw [List.length_append]
    exact Nat.le_refl _
theorem TblOk.put {F : Tf} {S : Str → Prop} {kf : List (Key × V)} (T : TblOk F S kf) (y : Str) : TblOk F (fun z => S z ∨ z = y) (putK kf (Sum.inr y) (.int (lp F (cs y)))) := by
  refine ⟨fun z hz => ?_, fun kv hkv => ?_⟩
  · rw [valV_put]
    by_cases e : z = y
    · subst e
      rw [if_pos rfl]
    · rw [if_neg fun q => e (Sum.inr.inj q)]
      exact T.val z (hz.resolve_right e)
  · rcases put_mem hkv with h | h
    · exact ⟨y, h, Or.inr rfl⟩
    · obtain ⟨z, h1, h2⟩ := T.key kv h
      exact ⟨z, h1, Or.inl h2⟩
def tv (t : List Nat) : V := .str (sOf t)
def grow (sg : List Nat) (ts : List (List Nat)) : List (List Nat) := ts.flatMap fun t => sg.map fun c => t ++ [c]
def layerL (sg : List Nat) : Nat → List (List Nat)
  | 0 => [[]]
  | n + 1 => grow sg (layerL sg n)
theorem grow_len {sg : List Nat} : ∀ {ts : List (List Nat)}, (grow sg ts).length = ts.length * sg.length
  | [] => by simp [grow]
  | t :: r => by
    have ih := grow_len (sg := sg) (ts := r)
    unfold grow at ih ⊢
    rw [List.flatMap_cons, List.length_append, ih, List.length_map, List.length_cons, Nat.add_mul]
    omega
theorem layer_len {sg : List Nat} (n : Nat) : (layerL sg n).length = sg.length ^ n := by
  induction n with
  | zero => rfl
  | succ n ih => rw [layerL, grow_len, ih, Nat.pow_succ]
theorem layer_le {sg : List Nat} {n : Nat} (h4 : sg.length ≤ 4) (h8 : n ≤ 8) : (layerL sg n).length ≤ 65536 := by
  rw [layer_len]
  calc sg.length ^ n ≤ 4 ^ n := Nat.pow_le_pow_left h4 n
    _ ≤ 4 ^ 8 := Nat.pow_le_pow_right (by decide) h8
    _ = 65536 := by decide
theorem layer_mem {sg : List Nat} : ∀ {n : Nat} {t : List Nat}, t ∈ layerL sg n ↔ t.length = n ∧ ∀ c ∈ t, c ∈ sg
  | 0, t => by
    show t ∈ [[]] ↔ _
    rw [List.mem_singleton]
    constructor
    · rintro rfl
      exact ⟨rfl, fun _ h => (List.not_mem_nil h).elim⟩
    · rintro ⟨h, _⟩
      exact List.eq_nil_of_length_eq_zero h
  | n + 1, t => by
    show t ∈ grow sg (layerL sg n) ↔ _
    unfold grow
    rw [List.mem_flatMap]
    constructor
    · rintro ⟨u, hu, h⟩
      obtain ⟨c, hc, rfl⟩ := List.mem_map.mp h
      obtain ⟨h1, h2⟩ := layer_mem.mp hu
      refine ⟨by rw [List.length_append, h1]; rfl, fun d hd => ?_⟩
      rcases List.mem_append.mp hd with q | q
      · exact h2 d q
      · rw [List.mem_singleton.mp q]
        exact hc
    · rintro ⟨h1, h2⟩
      have ne : t ≠ [] := fun e => by
        rw [e] at h1
        cases h1
      refine ⟨t.dropLast, layer_mem.mpr ⟨by rw [List.length_dropLast, h1]; rfl, fun c hc => h2 c (List.dropLast_subset t hc)⟩, List.mem_map.mpr ⟨t.getLast ne, h2 _ (List.getLast_mem ne), List.dropLast_concat_getLast ne⟩⟩
def InAll (sg : List Nat) (n : Nat) (z : Str) : Prop := (cs z).length ≤ n ∧ ∀ c ∈ cs z, c ∈ sg
theorem inAll_zero {F : Tf} {sg : List Nat} (G : Good F) : TblOk F (InAll sg 0) [(Sum.inr (sOf []), .int 0)] := by
  refine ⟨fun z hz => ?_, fun kv hkv => ?_⟩
  · have e : z = sOf [] := str_ext (List.eq_nil_of_length_eq_zero (Nat.le_zero.mp hz.1))
    rw [e, valV_pos rfl, cs_sOf, lp_nil G]
  · rw [List.mem_singleton.mp hkv]
    exact ⟨_, rfl, Nat.le_refl _, fun c h => (List.not_mem_nil (a := c) h).elim⟩
theorem inAll_succ {sg : List Nat} {n : Nat} {z : Str} : InAll sg n z ∨ z ∈ (layerL sg (n + 1)).map sOf ↔ InAll sg (n + 1) z := by
  constructor
  · rintro (⟨h1, h2⟩ | h)
    · exact ⟨by omega, h2⟩
    · obtain ⟨t, ht, rfl⟩ := List.mem_map.mp h
      obtain ⟨h1, h2⟩ := layer_mem.mp ht
      exact ⟨by rw [cs_sOf]; omega, by rw [cs_sOf]; exact h2⟩
  · rintro ⟨h1, h2⟩
    rcases Nat.lt_or_ge n (cs z).length with h | h
    · exact Or.inr (List.mem_map.mpr ⟨cs z, layer_mem.mpr ⟨by omega, h2⟩, sOf_cs z⟩)
    · exact Or.inl ⟨h, h2⟩
theorem grow_take {sg : List Nat} {ts : List (List Nat)} {j : Nat} {t : List Nat} (h : ts[j]? = some t) : grow sg (ts.take (j + 1)) = grow sg (ts.take j) ++ sg.map fun c => t ++ [c] := by
  rw [List.take_add_one, h]
  unfold grow
  rw [List.flatMap_append]
  simp
theorem emp : Str.ofString "" = sOf [] := str_ext (by rfl)
theorem tv_at {ts : List (List Nat)} {j : Nat} {x : V} (h : (ts.map tv)[j]? = some x) : ∃ t, ts[j]? = some t ∧ x = tv t := by
  rw [List.getElem?_map] at h
  cases e : ts[j]? with
  | none =>
    rw [e] at h
    cases h
  | some t =>
    rw [e] at h
    exact ⟨t, rfl, (Option.some.inj h).symm⟩
theorem tv_app (t : List Nat) (c : Nat) : V.str (sOf t ++ ch c) = tv (t ++ [c]) := by
  unfold tv
  congr 1
  exact str_ext (by rw [cs_app, cs_sOf, cs_sOf])
theorem tbl_take {F : Tf} {S : Str → Prop} {kf : List (Key × V)} {ts : List (List Nat)} {j : Nat} {t : List Nat} (h : ts[j]? = some t) (T : TblOk F (fun z => S z ∨ z ∈ (ts.take j).map sOf) kf) :
    TblOk F (fun z => S z ∨ z ∈ (ts.take (j + 1)).map sOf) (putK kf (Sum.inr (sOf t)) (.int (lp F t))) := by
  have h1 := T.put (sOf t)
  rw [cs_sOf] at h1
  refine h1.congr fun z => ?_
  rw [List.take_add_one, h, List.map_append, List.mem_append]
  show (S z ∨ _) ∨ z = sOf t ↔ S z ∨ _ ∨ z ∈ [sOf t]
  rw [List.mem_singleton, or_assoc]
/-- _law_all -/
def spAll (K : PySem.W.Frag) : Sp := fun vs H Q _ => ∃ d kvs sa sg n, vs = [.ref d, .ref sa, .int ((n : Nat) : Int)] ∧ H d = some (.dK kvs) ∧ Tar kvs ∧ SqL K H sa (sg.map chV) ∧ (∀ c ∈ sg, ∃ p, tfD kvs (ch c) = some p) ∧ sg.length ≤ 4 ∧ n ≤ 8 ∧
  ∀ fo kf H', H fo = none → H' fo = some (.dK kf) → TblOk (tfD kvs) (InAll sg n) kf → kf.length ≤ 600000 → Same H H' → Q (.ref fo) H'
/-! ### dicts of prices while they are made -/
theorem keys_nd' {kvs : List (Key × V)} (nd : (kvs.map (·.1)).Nodup) (al : (kvs.all fun kv => isPiece (kV kv.1) && isPrice kv.2) = true) : (keyStrs kvs).Nodup := by
  rw [keys_of al] at nd
  exact nd_of_map nd
structure PrOk (sg : List Nat) (kvs : List (Key × V)) : Prop where
  mem : ∀ kv ∈ kvs, ∃ z p, kv = (Sum.inr z, V.int p) ∧ (1 ≤ (cs z).length ∧ (cs z).length ≤ 5) ∧ (∀ c ∈ cs z, c ∈ sg) ∧ 1 ≤ p ∧ p ≤ 99
  nd : (kvs.map (·.1)).Nodup
theorem PrOk.nil {sg : List Nat} : PrOk sg [] := ⟨fun _ h => (List.not_mem_nil h).elim, List.nodup_nil⟩
theorem put_keys {kvs : List (Key × V)} {k : Key} {v : V} : (putK kvs k v).map (·.1) = if (valV kvs k).isSome = true then kvs.map (·.1) else kvs.map (·.1) ++ [k] := by
  unfold putK
  rw [valV_any]
  split
  · rw [List.map_map]
    refine List.map_congr_left fun kv _ => ?_
    show (if kv.1 = k then (kv.1, v) else kv).1 = kv.1
    split <;> rfl
  · rw [List.map_append]
    rfl
theorem put_val_mem {kvs : List (Key × V)} {k : Key} {v : V} {kv : Key × V} (h : kv ∈ putK kvs k v) : kv = (k, v) ∨ kv ∈ kvs := by
  unfold putK at h
  by_cases q : (kvs.any fun kv => decide (kv.1 = k)) = true
  · rw [if_pos q] at h
    obtain ⟨x, hx, rfl⟩ := List.mem_map.mp h
    by_cases e : x.1 = k
    · rw [if_pos e, e]
      exact Or.inl rfl
    · rw [if_neg e]
      exact Or.inr hx
  · rw [if_neg q] at h
    rcases List.mem_append.mp h with h | h
    · exact Or.inr h
    · exact Or.inl (List.mem_singleton.mp h)
theorem PrOk.put {sg : List Nat} {kvs : List (Key × V)} (P : PrOk sg kvs) {z : Str} {p : Int} (h1 : 1 ≤ (cs z).length ∧ (cs z).length ≤ 5) (h2 : ∀ c ∈ cs z, c ∈ sg) (h3 : 1 ≤ p ∧ p ≤ 99) : PrOk sg (putK kvs (Sum.inr z) (.int p)) := by
  refine ⟨fun kv hkv => ?_, ?_⟩
  · rcases put_val_mem hkv with h | h
    · exact ⟨z, p, h, h1, h2, h3⟩
    · exact P.mem kv h
  · rw [put_keys]
    split
    · exact P.nd
    · rename_i q
      refine List.nodup_append.mpr ⟨P.nd, by simp, fun a ha b hb e => ?_⟩
      rw [List.mem_singleton.mp hb] at e
      rw [e] at ha
      refine q ?_
      cases e2 : valV kvs (Sum.inr z : Key) with
      | none => exact absurd ha (valV_not e2)
      | some v => rfl
theorem PrOk.merge {sg : List Nat} : ∀ {more kvs : List (Key × V)}, PrOk sg kvs → (∀ kv ∈ more, ∃ z p, kv = (Sum.inr z, V.int p) ∧ (1 ≤ (cs z).length ∧ (cs z).length ≤ 5) ∧ (∀ c ∈ cs z, c ∈ sg) ∧ 1 ≤ p ∧ p ≤ 99) →
    PrOk sg (mergeK kvs more) ∧ (mergeK kvs more).length ≤ kvs.length + more.length
  | [], kvs, P, _ => ⟨P, Nat.le_refl _⟩
  | a :: r, kvs, P, h => by
    obtain ⟨z, p, rfl, h1, h2, h3⟩ := h a List.mem_cons_self
    obtain ⟨q1, q2⟩ := PrOk.merge (more := r) (P.put h1 h2 h3) fun kv hkv => h kv (List.mem_cons_of_mem _ hkv)
    refine ⟨q1, Nat.le_trans q2 ?_⟩
    have := put_len (kvs := kvs) (k := Sum.inr z) (v := .int p)
    rw [List.length_cons]
    omega
theorem merge_has {k : Key} : ∀ {more kvs : List (Key × V)}, (k ∈ more.map (·.1) ∨ (valV kvs k).isSome = true) → (valV (mergeK kvs more) k).isSome = true
  | [], kvs, h => by
    rcases h with h | h
    · simp at h
    · exact h
  | a :: r, kvs, h => by
    refine merge_has (more := r) (kvs := putK kvs a.1 a.2) ?_
    rw [valV_put]
    by_cases e : k = a.1
    · exact Or.inr (by rw [if_pos e]; rfl)
    · rw [if_neg e]
      rcases h with h | h
      · rcases List.mem_cons.mp h with h | h
        · exact absurd h e
        · exact Or.inl h
      · exact Or.inr h
theorem nd_sub_len {α : Type} [BEq α] [LawfulBEq α] : ∀ {l1 l2 : List α}, l1.Nodup → (∀ a ∈ l1, a ∈ l2) → l1.length ≤ l2.length
  | [], _, _, _ => Nat.zero_le _
  | a :: r, l2, nd, h => by
    obtain ⟨h1, h2⟩ := List.nodup_cons.mp nd
    have h3 := nd_sub_len (l1 := r) (l2 := l2.erase a) h2 fun b hb => by
      have nb : b ≠ a := fun e => h1 (e ▸ hb)
      exact (List.mem_erase_of_ne nb).mpr (h b (List.mem_cons_of_mem _ hb))
    have h4 := h a List.mem_cons_self
    rw [List.length_erase_of_mem h4] at h3
    have := List.length_pos_of_mem h4
    rw [List.length_cons]
    omega
theorem PrOk.tf {sg : List Nat} {kvs : List (Key × V)} (P : PrOk sg kvs) {z : Str} : z ∈ keyStrs kvs ↔ ∃ p, tfD kvs z = some p := by
  rw [ks_mem]
  constructor
  · intro h
    obtain ⟨kv, hkv, e⟩ := List.mem_map.mp h
    obtain ⟨y, p, rfl, _⟩ := P.mem kv hkv
    have h2 := val_nodup P.nd _ hkv
    dsimp only at e h2
    cases e
    exact ⟨p, tf_some.mpr h2⟩
  · rintro ⟨p, h⟩
    exact valV_in (tf_some.mp h)
/-- a dict of prices over the signs sg, all of them in it -/
theorem PrOk.right {sg : List Nat} {kvs : List (Key × V)} (P : PrOk sg kvs) (hs : ∀ c ∈ sg, (valV kvs (Sum.inr (ch c))).isSome = true) (hl : ∀ c ∈ sg, lett c = true) (n4 : sg.length ≤ 4) (n0 : 1 ≤ sg.length) (n12 : kvs.length ≤ 12) :
    arePrices kvs = true ∧ ∀ c, (∃ p, tfD kvs (ch c) = some p) ↔ c ∈ sg := by
  have al : (kvs.all fun kv => isPiece (kV kv.1) && isPrice kv.2) = true := by
    rw [List.all_eq_true]
    intro kv hkv
    obtain ⟨z, p, rfl, h1, h2, h3⟩ := P.mem kv hkv
    rw [Bool.and_eq_true]
    refine ⟨?_, ?_⟩
    · show isPiece (.str z) = true
      rw [isPiece_of fun c hc => hl c (h2 c hc), decide_eq_true h1.1, decide_eq_true h1.2]
      rfl
    · show (decide (p.natAbs < 10 ^ 60) && (decide (1 ≤ p) && decide (p ≤ 99))) = true
      rw [decide_eq_true (by omega : p.natAbs < 10 ^ 60), decide_eq_true h3.1, decide_eq_true h3.2]
      rfl
  have key : ∀ {z}, z ∈ keyStrs kvs → (∀ c ∈ cs z, c ∈ sg) := by
    intro z hz
    obtain ⟨kv, hkv, e⟩ := List.mem_map.mp (ks_mem.mp hz)
    obtain ⟨y, p, rfl, _, h2, _⟩ := P.mem kv hkv
    dsimp only at e
    cases e
    exact h2
  refine ⟨?_, fun c => ⟨fun ⟨p, h⟩ => key (ks_mem.mpr (valV_in (tf_some.mp h))) c (by simp [cs]), fun h => ?_⟩⟩
  · unfold arePrices
    have e1 : 1 ≤ kvs.length := by
      cases sg with
      | nil => simp at n0
      | cons c r =>
        have := hs c List.mem_cons_self
        cases kvs with
        | nil => cases this
        | cons a r => simp
    have e3 : ((keyStrs kvs).filter fun z => decide ((cs z).length = 1)).length ≤ 4 := by
      refine Nat.le_trans (nd_sub_len (l2 := sg.map ch) ((keys_nd' P.nd al).filter _) fun z hz => ?_) (by rw [List.length_map]; exact n4)
      obtain ⟨h1, h2⟩ := List.mem_filter.mp hz
      obtain ⟨c, rfl⟩ := G.one_sign (z := z) (by simpa using h2)
      exact List.mem_map.mpr ⟨c, key h1 c (by simp [cs]), rfl⟩
    have e4 : (((keyStrs kvs).map cs).flatten.all fun c => (valV kvs (Sum.inr (ch c))).isSome) = true := by
      rw [List.all_eq_true]
      intro c hc
      obtain ⟨l, hl, hcl⟩ := List.mem_flatten.mp hc
      obtain ⟨z, hz, rfl⟩ := List.mem_map.mp hl
      exact hs c (key hz c hcl)
    rw [decide_eq_true (by omega : 1 ≤ (kvs.length : Int)), decide_eq_true (by omega : (kvs.length : Int) ≤ 12), al, decide_eq_true e3, e4]
    rfl
  · have h1 := hs c h
    cases e : valV kvs (Sum.inr (ch c) : Key) with
    | none =>
      rw [e] at h1
      cases h1
    | some v =>
      have h2 := P.tf.mp (ks_mem.mpr (valV_in e))
      exact h2
theorem kp_free {l a : Addr} {H H' : Hp} (k : Kp l H H') (n : a ≠ l) (h : H' a = none) : H a = none := by
  cases e : H a with
  | none => rfl
  | some o =>
    rw [k a o e n] at h
    cases h
theorem paired_of {α β : Type} {F : α → β → Prop} : ∀ {ps : List (α × β)}, (∀ p ∈ ps, F p.1 p.2) → Paired F (ps.map (·.1)) (ps.map (·.2))
  | [], _ => .nil
  | p :: r, h => .cons (h p List.mem_cons_self) (paired_of fun q hq => h q (List.mem_cons_of_mem _ hq))
theorem lift_map {α : Type} {f : α → V} {P : α → Prop} : ∀ {zs : List V}, (∀ v ∈ zs, ∃ w, v = f w ∧ P w) → ∃ ws : List α, zs = ws.map f ∧ ∀ w ∈ ws, P w
  | [], _ => ⟨[], rfl, fun _ h => (List.not_mem_nil h).elim⟩
  | v :: r, h => by
    obtain ⟨w, rfl, hw⟩ := h v List.mem_cons_self
    obtain ⟨ws, rfl, hws⟩ := lift_map (zs := r) fun u hu => h u (List.mem_cons_of_mem _ hu)
    refine ⟨w :: ws, rfl, fun u hu => ?_⟩
    rcases List.mem_cons.mp hu with rfl | hu
    · exact hw
    · exact hws u hu
def PairOk (sg : List Nat) (kv : Key × V) : Prop := ∃ z p, kv = (Sum.inr z, V.int p) ∧ (1 ≤ (cs z).length ∧ (cs z).length ≤ 5) ∧ (∀ c ∈ cs z, c ∈ sg) ∧ 1 ≤ p ∧ p ≤ 99
/-- a word of the menu -/
def Word (sg w : List Nat) : Prop := 2 ≤ w.length ∧ w.length ≤ 5 ∧ ∀ c ∈ w, c ∈ sg
theorem Word.piece {sg w : List Nat} (h : Word sg w) : (1 ≤ (cs (sOf w)).length ∧ (cs (sOf w)).length ≤ 5) ∧ ∀ c ∈ cs (sOf w), c ∈ sg := by
  obtain ⟨h1, h2, h3⟩ := h
  rw [cs_sOf]
  exact ⟨⟨by omega, h2⟩, h3⟩
/-! ### what is sorted -/
theorem so_pw : ∀ {ys : List Str}, sortedS ys = true → ys.Pairwise fun a b => cs a ≤ cs b
  | [], _ => .nil
  | [x], _ => by simp
  | x :: y :: r, h => by
    have h' : (!ltCps y.cps.toList x.cps.toList && risingS y r) = true := h
    rw [Bool.and_eq_true] at h'
    have ih := so_pw (ys := y :: r) h'.2
    have h1 : cs x ≤ cs y := by
      have h2 := h'.1
      rw [ltCps_eq] at h2
      exact List.not_lt.mp (by simpa using h2)
    refine List.Pairwise.cons (fun b hb => ?_) ih
    rcases List.mem_cons.mp hb with rfl | hb
    · exact h1
    · exact List.le_trans h1 ((List.pairwise_cons.mp ih).1 b hb)
theorem so_eq {ys zs : List Str} (h1 : ys.Pairwise fun a b => cs a ≤ cs b) (h2 : zs.Pairwise fun a b => cs a ≤ cs b) (p : ys.Perm zs) : ys = zs := p.eq_of_pairwise (fun a b _ _ h k => str_ext (List.le_antisymm h k)) h1 h2
def SameSigns (F1 F2 : Tf) : Prop := ∀ c, (∃ p, F1 (ch c) = some p) ↔ ∃ p, F2 (ch c) = some p
theorem sgn_ps {kvs : List (Key × V)} {ys : List Str} : sgn (psOf kvs ys) = ys.filter fun z => decide (z.length = 1) := by
  unfold sgn psOf
  rw [List.map_map]
  congr 1
  exact List.map_id' ys
theorem tf_key {kvs : List (Key × V)} {z : Str} (al : (kvs.all fun kv => isPiece (kV kv.1) && isPrice kv.2) = true) : z ∈ keyStrs kvs ↔ ∃ p, tfD kvs z = some p :=
  ⟨fun h => ⟨_, tf_some.mpr (price_of_key al h).1⟩, fun ⟨p, h⟩ => ks_mem.mpr (valV_in (tf_some.mp h))⟩
theorem keys_nd {kvs : List (Key × V)} (al : (kvs.all fun kv => isPiece (kV kv.1) && isPrice kv.2) = true) (nd : (kvs.map (·.1)).Nodup) : (keyStrs kvs).Nodup := by
  rw [keys_of al] at nd
  exact nd_of_map nd
theorem sgn_eq {kvs1 kvs2 : List (Key × V)} {ys1 ys2 : List Str} (al1 : (kvs1.all fun kv => isPiece (kV kv.1) && isPrice kv.2) = true) (al2 : (kvs2.all fun kv => isPiece (kV kv.1) && isPrice kv.2) = true)
    (nd1 : (kvs1.map (·.1)).Nodup) (nd2 : (kvs2.map (·.1)).Nodup) (pm1 : ys1.Perm (keyStrs kvs1)) (pm2 : ys2.Perm (keyStrs kvs2)) (so1 : sortedS ys1 = true) (so2 : sortedS ys2 = true) (ss : SameSigns (tfD kvs1) (tfD kvs2)) :
    sgn (psOf kvs1 ys1) = sgn (psOf kvs2 ys2) := by
  rw [sgn_ps, sgn_ps]
  refine so_eq ((so_pw so1).filter _) ((so_pw so2).filter _) ?_
  refine (List.perm_ext_iff_of_nodup ((pm1.nodup_iff.mpr (keys_nd al1 nd1)).filter _) ((pm2.nodup_iff.mpr (keys_nd al2 nd2)).filter _)).mpr fun z => ?_
  rw [List.mem_filter, List.mem_filter, pm1.mem_iff, pm2.mem_iff, tf_key al1, tf_key al2]
  constructor
  · rintro ⟨h1, h2⟩
    obtain ⟨c, rfl⟩ := one_sign (z := z) (by rw [cs_len]; simpa using h2)
    exact ⟨(ss c).mp h1, h2⟩
  · rintro ⟨h1, h2⟩
    obtain ⟨c, rfl⟩ := one_sign (z := z) (by rw [cs_len]; simpa using h2)
    exact ⟨(ss c).mpr h1, h2⟩
/-! ### tuples of texts as data -/
theorem dpAll_strs {K : PySem.W.Frag} {H : Hp} : ∀ zs : List Str, DpAll K H (zs.map V.str) (zs.map PyData.str)
  | [] => .nil
  | z :: r => .cons (.str z) (dpAll_strs r)
theorem strOk_lett {z : Str} (h : ∀ c ∈ cs z, lett c = true) : PyData.strOk z = true := by
  show z.cps.all (fun c => decide (c < 0x110000)) = true
  rw [Array.all_eq_true_iff_forall_mem]
  intro c hc
  have h1 := h c (by simpa [cs] using hc)
  unfold lett at h1
  rw [Bool.and_eq_true] at h1
  have := of_decide_eq_true h1.2
  exact decide_eq_true (by omega)
theorem shaped_strs {zs : List Str} (h : ∀ z ∈ zs, ∀ c ∈ cs z, lett c = true) : SeqAt.shaped (.tuple (zs.map PyData.str)) = true := by
  have h1 : ∀ l : List Str, (∀ z ∈ l, ∀ c ∈ cs z, lett c = true) → PyData.canLayAll0 (l.map PyData.str) = true := by
    intro l hl
    induction l with
    | nil => rfl
    | cons a r ih => simp [PyData.canLayAll0, PyData.canLay0, strOk_lett (hl a List.mem_cons_self), ih fun z hz => hl z (List.mem_cons_of_mem _ hz)]
  have h2 : ∀ l : List Str, PyData.depthAll (l.map PyData.str) = 0 := by
    intro l
    induction l with
    | nil => simp [PyData.depthAll]
    | cons a r ih => simp [PyData.depthAll, PyData.depth, ih]
  unfold SeqAt.shaped
  rw [Bool.and_eq_true]
  refine ⟨by simpa [PyData.canLay0] using h1 zs h, decide_eq_true ?_⟩
  simp only [PyData.depth, h2]
  omega
theorem eqv_strs {zs : List Str} (h : ∀ z ∈ zs, ∀ c ∈ cs z, lett c = true) : PyData.eqv (.tuple (zs.map PyData.str)) (.tuple (zs.map PyData.str)) = true :=
  SeqAt.eqv_refl _ (SeqAt.canLay_of_shaped (shaped_strs h))
/-! ### promises of cutbehind.base.compared -/
def NoDear (F1 F2 : Tf) : Prop := ∀ z p, F2 z = some p → lp F1 (cs z) ≤ p
/-- what dearer_in returns -/
def DearR (F1 F2 : Tf) (r : V) : Prop := (r = .non ∧ NoDear F1 F2) ∨ ∃ z p, r = .str z ∧ F2 z = some p ∧ p < lp F1 (cs z) ∧ ∀ z' p', F2 z' = some p' → cs z' < cs z → lp F1 (cs z') ≤ p'
def spReqBook (C : Addr) : Sp := fun vs H Q _ => ∃ b dx fs, vs = [.ref b] ∧ H b = some (.ins C dx fs) ∧ Q .non H
def Two (C : Addr) (H : Hp) (vs : List V) (k1 k2 : List (Key × V)) : Prop := ∃ b1 b2, vs = [.ref b1, .ref b2] ∧ Book1 C H b1 k1 ∧ Book1 C H b2 k2 ∧ SameSigns (tfD k1) (tfD k2)
def spReqCmp (C : Addr) : Sp := fun vs H Q _ => ∃ k1 k2, Two C H vs k1 k2 ∧ ∀ H', Same H H' → Q .non H'
def spDearer (C : Addr) : Sp := fun vs H Q _ => ∃ k1 k2, Two C H vs k1 k2 ∧ ∀ r H', Same H H' → DearR (tfD k1) (tfD k2) r → Q r H'
def spNowhere (C : Addr) : Sp := fun vs H Q _ => ∃ k1 k2, Two C H vs k1 k2 ∧ ∀ b H', Same H H' → (b = true ↔ NoDear (tfD k1) (tfD k2)) → Q (.bl b) H'
def spAsCheap (C : Addr) : Sp := fun vs H Q _ => ∃ k1 k2, Two C H vs k1 k2 ∧ ∀ b H', Same H H' → (b = true ↔ NoDear (tfD k1) (tfD k2) ∧ NoDear (tfD k2) (tfD k1)) → Q (.bl b) H'
theorem dear_non {F1 F2 : Tf} {r : V} (d : DearR F1 F2 r) : decide (r = .non) = true ↔ NoDear F1 F2 := by
  rw [decide_eq_true_eq]
  rcases d with ⟨h1, h2⟩ | ⟨z, p, h1, h2, h3, _⟩
  · exact ⟨fun _ => h2, fun _ => h1⟩
  · refine ⟨fun e => ?_, fun n => ?_⟩
    · rw [h1] at e
      cases e
    · have := n z p h2
      omega
theorem SameSigns.symm {F1 F2 : Tf} (h : SameSigns F1 F2) : SameSigns F2 F1 := fun c => (h c).symm
/-! ### lists of texts as data; heaps with a lock -/
theorem shaped_lstrs {zs : List Str} (h : ∀ z ∈ zs, ∀ c ∈ cs z, lett c = true) : SeqAt.shaped (.list (zs.map PyData.str)) = true := by
  have h1 := shaped_strs h
  unfold SeqAt.shaped at h1 ⊢
  simpa [PyData.canLay0, PyData.depth] using h1
theorem eqv_nil (zs : List Str) : PyData.eqv (.list (zs.map PyData.str)) (.list []) = zs.isEmpty := by cases zs <;> simp [PyData.eqv, PyData.eqvAll]
theorem rd_lock {H : Hp} {a b : Addr} {u v : HO} {od : Obj} (h : H a = some u) (k : H b = some v) : Rd (upd H b (.frz od v)) a u := by
  by_cases e : a = b
  · subst e
    rw [h] at k
    cases k
    exact .inr ⟨od, upd_same⟩
  · exact .inl (by rw [upd_ne e]; exact h)
theorem repr_bool {K : PySem.W.Frag} {H : Hp} {b : Bool} {Q : VK} (q : Q (.str (PyData.bool b).shown) H) : rRepr K [.bl b] H Q :=
  ⟨_, .bool b, rfl, .bl b, (shw_bool b).s, (shw_bool b).h, Nat.le_trans (shw_bool b).dp (by omega), Nat.le_trans (shw_bool b).len (fits_sz (by omega)), q⟩
/-- x == [] for a list of texts -/
theorem eq_nil {K : PySem.W.Frag} {H : Hp} {a p : Addr} {zs : List Str} {Q : VK} (h : SqL K H a (zs.map V.str)) (hp : H p = some (.lst [])) (hl : ∀ z ∈ zs, ∀ c ∈ cs z, lett c = true) (q : Q (.bl zs.isEmpty) H) : rEqD K (.ref a) (.ref p) H Q := by
  refine ⟨.list (zs.map PyData.str), .list [], .lst h (dpAll_strs zs), .lst (SqL.of hp) .nil, shaped_lstrs hl, by decide, ?_⟩
  rw [eqv_nil]
  exact q
/-! ### books under changes of lists; which texts are dearer -/
theorem Book1.keep {C : Addr} {H H' : Hp} {b : Addr} {kvs : List (Key × V)} (B : Book1 C H b kvs) (h : ∀ a o, H a = some o → (∀ xs, o ≠ .lst xs) → H' a = some o) : Book1 C H' b kvs := by
  obtain ⟨ys, L, M, dx, d, tp, ta, od, h1, h2, A⟩ := B.ex
  exact ⟨B.av, B.nd, ys, L, M, dx, d, tp, ta, od, h1, h2, h _ _ A.ob (fun _ e => by cases e), h _ _ A.dc (fun _ e => by cases e), h _ _ A.pi (fun _ e => by cases e), h _ _ A.al (fun _ e => by cases e), A.lo, A.de⟩
theorem Book1.updL {C : Addr} {H : Hp} {a b : Addr} {kvs : List (Key × V)} {xs : List V} {o : HO} (B : Book1 C H b kvs) (h : H a = some (.lst xs)) : Book1 C (upd H a o) b kvs :=
  B.keep fun c u e n => by
    rw [upd_ne fun q => ?_]
    · exact e
    · rw [q, h] at e
      exact n xs (Option.some.inj e).symm
theorem Book1.kp {C : Addr} {H H' : Hp} {l b : Addr} {kvs : List (Key × V)} {n : Nat} (B : Book1 C H b kvs) (D : Dice H l n) (k : Kp l H H') : Book1 C H' b kvs := by
  obtain ⟨d0, d1, d2, h, _⟩ := D
  refine B.keep fun c u e n => k c u e fun q => ?_
  rw [q, h] at e
  exact n _ (Option.some.inj e).symm
noncomputable def dearG (F1 F2 : Tf) : Key × V → Option Str := fun kv => match kv.1 with
  | .inr z => if lp F2 (cs z) < lp F1 (cs z) then some z else none
  | .inl _ => none
theorem Tar.mono {k1 k2 : List (Key × V)} (t1 : Tar k1) (t2 : Tar k2) (ss : SameSigns (tfD k1) (tfD k2)) (h : NoDear (tfD k1) (tfD k2)) {l : List Nat} (o : Over (tfD k1) l) : lp (tfD k1) l ≤ lp (tfD k2) l :=
  lp_mono t1.good t2.good (fun z p hz => ⟨fun c hc => (ss c).mpr (t2.good.cov z p hz c hc), h z p hz⟩) o fun c hc => (ss c).mp (o c hc)
theorem dear_iff {k1 k2 kf : List (Key × V)} {S : Str → Prop} (T : TblOk (tfD k1) S kf) (t1 : Tar k1) (t2 : Tar k2) (ss : SameSigns (tfD k1) (tfD k2)) (hS : ∀ z, S z → Over (tfD k1) (cs z)) (hk : ∀ z p, tfD k2 z = some p → S z) :
    kf.filterMap (dearG (tfD k1) (tfD k2)) = [] ↔ NoDear (tfD k1) (tfD k2) := by
  rw [List.filterMap_eq_nil_iff]
  constructor
  · intro h z p hz
    have h1 := h _ (valV_mem (T.val z (hk z p hz)))
    have h2 : (if lp (tfD k2) (cs z) < lp (tfD k1) (cs z) then some z else none) = none := h1
    have h3 := lp_piece t2.good hz
    by_cases q : lp (tfD k2) (cs z) < lp (tfD k1) (cs z)
    · rw [if_pos q] at h2
      cases h2
    · omega
  · intro n kv hkv
    obtain ⟨z, ez, hz⟩ := T.key kv hkv
    unfold dearG
    rw [ez]
    show (if lp (tfD k2) (cs z) < lp (tfD k1) (cs z) then some z else none) = none
    have := t1.mono t2 ss n (hS z hz)
    rw [if_neg (by omega)]
theorem nodear_trans {k0 k1 k2 : List (Key × V)} (t0 : Tar k0) (t1 : Tar k1) (t2 : Tar k2) (s01 : SameSigns (tfD k0) (tfD k1)) (s12 : SameSigns (tfD k1) (tfD k2)) (h : NoDear (tfD k0) (tfD k1)) (k : NoDear (tfD k1) (tfD k2)) : NoDear (tfD k0) (tfD k2) := by
  intro z p hz
  have h1 := k z p hz
  have h2 := t0.mono t1 s01 h (l := cs z) fun c hc => (s01 c).mpr ((s12 c).mpr (t2.good.cov z p hz c hc))
  omega
theorem nodear_self {k : List (Key × V)} (t : Tar k) : NoDear (tfD k) (tfD k) := fun z p hz => lp_piece t.good hz
theorem fm_str {α : Type} {g : α → Option Str} {l : List α} : l.filterMap (fun a => (g a).map V.str) = (l.filterMap g).map V.str := by
  rw [List.map_filterMap]
theorem tandv {ta tb : TE} {σ : L2.St} {H : Hp} {Q : VK} {a b : Bool} (ha : ∀ N : VK, N (.bl a) H → ta σ H N) (hb : ∀ N : VK, N (.bl b) H → tb σ H N) (q : Q (.bl (a && b)) H) : tAndV ta tb σ H Q := by
  refine ha _ ⟨a, rfl, ?_⟩
  refine itB (fun e => hb _ ?_) (fun e => ?_)
  · rw [e] at q
    exact q
  · rw [e] at q
    exact q
/-! ### the row of prices_along -/
theorem best_end {F : Tf} {l : List Nat} {L : Nat} {m : Int} (G : Good F) (o : Over F l) (ne : l ≠ []) (hL : ∀ z p, F z = some p → (cs z).length ≤ L) (hm : ∃ s, s < l.length ∧ costF F l s = some m)
    (hb : ∀ s y, l.length - L ≤ s → s < l.length → costF F l s = some y → m ≤ y) : m = lp F l := by
  refine lp_step G o ne (ys := (List.range l.length).filterMap (costF F l)) ?_ ?_ ?_ ?_
  · intro y hy
    obtain ⟨s, hs, g⟩ := List.mem_filterMap.mp hy
    have g' : (F (sOf (l.drop s))).map (fun p => lp F (l.take s) + p) = some y := g
    cases e : F (sOf (l.drop s)) with
    | none =>
      rw [e] at g'
      cases g'
    | some p =>
      rw [e] at g'
      exact ⟨_, p, l.take s, e, by rw [cs_sOf, List.take_append_drop], (Option.some.inj g').symm⟩
  · intro z p a hp ha
    have hn := (G.len z p hp).1
    have hl := congrArg List.length ha
    rw [List.length_append] at hl
    refine List.mem_filterMap.mpr ⟨a.length, List.mem_range.mpr (by omega), ?_⟩
    unfold costF
    have e2 : l.drop a.length = cs z := by rw [ha, List.drop_left]
    have e3 : l.take a.length = a := by rw [ha, List.take_left]
    rw [e2, e3, sOf_cs, hp]
    rfl
  · obtain ⟨s, hs, e⟩ := hm
    exact List.mem_filterMap.mpr ⟨s, List.mem_range.mpr hs, e⟩
  · intro y hy
    obtain ⟨s, hs, g⟩ := List.mem_filterMap.mp hy
    have hs' := List.mem_range.mp hs
    refine hb s y ?_ hs' g
    have g' : (F (sOf (l.drop s))).map (fun p => lp F (l.take s) + p) = some y := g
    cases e : F (sOf (l.drop s)) with
    | none =>
      rw [e] at g'
      cases g'
    | some p =>
      have := hL _ _ e
      rw [cs_sOf, List.length_drop] at this
      omega
theorem maxN (n m : Nat) : (if (n : Int) - (m : Int) > 0 then (n : Int) - (m : Int) else 0) = ((n - m : Nat) : Int) := by split <;> omega
/-- prices_along -/
def spAlong (C : Addr) : Sp := fun vs H Q _ => ∃ b kvs z, vs = [.ref b, .str z] ∧ Book1 C H b kvs ∧ Over (tfD kvs) (cs z) ∧ z.length ≤ 10000 ∧ ∀ p H', H p = none → H' p = some (.lst (rowV (tfD kvs) (cs z) (z.length + 1))) → Same H H' → Q (.ref p) H'
/-! ### properties -/
structure HasP (P : Program) (w : World) (K : PySem.W.Frag) (mg : Str → Option Value) (base : Heap) (k : Nat) (C : Addr) (f : Str) (sp : Sp) : Prop where
  ex : ∃ p g fd, Cls K C ∧ PropOf K C f p g ∧ FnOk P w K mg base CX0 k g fd ["self"] sp ∧ Binds K fd ["self"] []
theorem pe_prp {X : Cx} {k j : Nat} {C : Addr} {f : Str} {sp : Sp} {e : Expr} {pos : Pos} {ta : TE} (c : HasP X.prog X.w X.K X.mg X.base k C f sp) (hr : Room j X.A) (hk : k + 1 ≤ j) (he : PE X e ta)
    (hab : attributeBase e f X.env (eval e X.env) = eval e X.env := by rfl) : PE X (.Attribute e f pos) (tProp C sp [] C8.E0 ta) := by
  obtain ⟨p, g, fd, hc, hp, F, hb⟩ := c.ex
  exact pe_prop he hc hp F (hr.mono hk) hb .nil pass0 hab
/-! ### texts over a book -/
theorem inV_str {z : Str} : ∀ {zs : List Str}, inV (.str z) (zs.map V.str) = decide (z ∈ zs)
  | [] => by simp [inV]
  | a :: r => by
    have ih := inV_str (z := z) (zs := r)
    unfold inV at ih ⊢
    rw [List.map_cons, List.any_cons, ih]
    have e : eqV (.str a) (.str z) = decide (z = a) := by
      by_cases h : z = a
      · subst h
        simp [eqV]
      · have h' : ¬ a = z := fun q => h q.symm
        simp [eqV, h, h']
    rw [e]
    by_cases h : z = a <;> simp [h]
theorem flat_strs (zs : List Str) : (zs.map V.str).all flatV = true := by
  rw [List.all_map, List.all_eq_true]
  intro z _
  rfl
theorem sgn_mem {kvs : List (Key × V)} {ys : List Str} (al : (kvs.all fun kv => isPiece (kV kv.1) && isPrice kv.2) = true) (pm : ys.Perm (keyStrs kvs)) {c : Nat} : ch c ∈ sgn (psOf kvs ys) ↔ ∃ p, tfD kvs (ch c) = some p := by
  rw [sgn_ps, List.mem_filter, pm.mem_iff, tf_key al]
  exact ⟨fun h => h.1, fun h => ⟨h, rfl⟩⟩
def overB (kvs : List (Key × V)) (z : Str) : Bool := isText (.str z) && (cs z).all fun c => (tfD kvs (ch c)).isSome
theorem overB_true {kvs : List (Key × V)} {z : Str} (h1 : isText (.str z) = true) (h2 : Over (tfD kvs) (cs z)) : overB kvs z = true := by
  unfold overB
  rw [h1, Bool.true_and, List.all_eq_true]
  intro c hc
  obtain ⟨p, hp⟩ := h2 c hc
  rw [hp]
  rfl
/-- is_text_over, accepts -/
def spTextOver (C : Addr) : Sp := fun vs H Q _ => ∃ b kvs z, vs = [.ref b, .str z] ∧ Book1 C H b kvs ∧ z.length ≤ 100000 ∧ ∀ H', Same H H' → Q (.bl (overB kvs z)) H'
/-- require_text -/
def spReqText (C : Addr) : Sp := fun vs H Q _ => ∃ b kvs z, vs = [.ref b, .str z] ∧ Book1 C H b kvs ∧ z.length ≤ 100000 ∧ overB kvs z = true ∧ ∀ H', Same H H' → Q .non H'
/-- prices -/
def spPrices (C : Addr) : Sp := fun vs H Q _ => ∃ b kvs, vs = [.ref b] ∧ Book1 C H b kvs ∧ ∀ p ys H', H p = none → ys.Perm (keyStrs kvs) → sortedS ys = true → H' p = some (.dK (kvOf (psOf kvs ys))) → Same H H' → Q (.ref p) H'
/-- least_price, of a dict that is not changed -/
def spLeastPrice : Sp := fun vs H Q _ => ∃ d od kvs z, vs = [.ref d, .str z] ∧ H d = some (.frz od (.dK kvs)) ∧ Tar kvs ∧ Over (tfD kvs) (cs z) ∧ z.length ≤ 10000 ∧ ∀ H', Same H H' → Q (.int (lp (tfD kvs) (cs z))) H'
theorem rNe_nil {K : PySem.W.Frag} {H : Hp} {a p : Addr} {zs : List Str} {Q : VK} (h : SqL K H a (zs.map V.str)) (hp : H p = some (.lst [])) (hl : ∀ z ∈ zs, ∀ c ∈ cs z, lett c = true) (q : Q (.bl (!zs.isEmpty)) H) : rNeD K (.ref a) (.ref p) H Q := by
  refine ⟨.list (zs.map PyData.str), .list [], .lst h (dpAll_strs zs), .lst (SqL.of hp) .nil, shaped_lstrs hl, by decide, ?_⟩
  rw [eqv_nil]
  exact q
end G
/-! Fronts, in plain Lean. -/
namespace G
open PySem PySem.Spec PyProof.Rows L2
def Wide (F : Tf) (L : Nat) : Prop := (∃ z p, F z = some p ∧ (cs z).length = L) ∧ ∀ z p, F z = some p → (cs z).length ≤ L
def frontW (L : Nat) (l : List Nat) : List Nat := l.drop (l.length - min (L - 1) l.length)
noncomputable def frontD (F : Tf) (L : Nat) (l : List Nat) : List Int := (List.range (min (L - 1) l.length)).map fun i => lp F (l.take (l.length - (i + 1))) - lp F l
def FrontAt (H : Hp) (t : Addr) (l : List Nat) (ds : List Int) : Prop := ∃ td, H t = some (.tup [.str (sOf l), .ref td]) ∧ H td = some (.tup (ds.map V.int))
theorem FrontAt.same {H H' : Hp} {t : Addr} {l : List Nat} {ds : List Int} (f : FrontAt H t l ds) (s : Same H H') : FrontAt H' t l ds := by
  obtain ⟨td, h1, h2⟩ := f
  exact ⟨td, s _ _ h1, s _ _ h2⟩
section
variable {F : Tf} {L : Nat} {l : List Nat} {ds : List Int} {c : Nat} {m : Int}
theorem frontW_len : (frontW L l).length = min (L - 1) l.length := by
  unfold frontW
  rw [List.length_drop]
  omega
theorem frontD_len : (frontD F L l).length = min (L - 1) l.length := by
  unfold frontD
  rw [List.length_map, List.length_range]
theorem frontD_at {i : Nat} (h : i < min (L - 1) l.length) : (frontD F L l)[i]? = some (lp F (l.take (l.length - (i + 1))) - lp F l) := by
  unfold frontD
  rw [List.getElem?_map, List.getElem?_range h]
  rfl
/-- 0 and the differences: what the row says by steps back -/
theorem ahead_at {i : Nat} (h : i ≤ min (L - 1) l.length) : ((0 : Int) :: frontD F L l)[i]? = some (lp F (l.take (l.length - i)) - lp F l) := by
  cases i with
  | zero =>
    show some (0 : Int) = _
    rw [Nat.sub_zero, List.take_length]
    simp
  | succ i =>
    show (frontD F L l)[i]? = _
    exact frontD_at (by omega)
/-- the change at a sign, of any front -/
def StepR (F : Tf) (l : List Nat) (ds : List Int) (c : Nat) (m : Int) : Prop :=
  (∃ z p a y, F z = some p ∧ l ++ [c] = a ++ cs z ∧ ((0 : Int) :: ds)[(cs z).length - 1]? = some y ∧ m = p + y) ∧ ∀ z p a y, F z = some p → l ++ [c] = a ++ cs z → ((0 : Int) :: ds)[(cs z).length - 1]? = some y → m ≤ p + y
theorem StepR.uniq {n : Int} (h : StepR F l ds c m) (k : StepR F l ds c n) : m = n := by
  obtain ⟨⟨z, p, a, y, h1, h2, h3, rfl⟩, h4⟩ := h
  obtain ⟨⟨z', p', a', y', k1, k2, k3, rfl⟩, k4⟩ := k
  have := h4 z' p' a' y' k1 k2 k3
  have := k4 z p a y h1 h2 h3
  omega
def stepW (L : Nat) (l : List Nat) (c : Nat) : List Nat := (l ++ [c]).drop (l.length + 1 - (L - 1))
def stepD (L : Nat) (l : List Nat) (ds : List Int) (c : Nat) (m : Int) : List Int := (((0 : Int) :: ds).map fun x => x - m).take (stepW L l c).length
theorem stepW_len : (stepW L l c).length = min (L - 1) (l.length + 1) := by
  unfold stepW
  rw [List.length_drop, List.length_append]
  show l.length + 1 - _ = _
  omega
/-- a piece at the end of the front's signs is one at the end of the text, and the other way about -/
theorem front_suffix {z : Str} {p : Int} (W : Wide F L) (G : Good F) (hz : F z = some p) : (∃ a, frontW L l ++ [c] = a ++ cs z) ↔ ∃ a, l ++ [c] = a ++ cs z := by
  have n1 := (G.len z p hz).1
  have n2 := W.2 z p hz
  have el : l = l.take (l.length - min (L - 1) l.length) ++ frontW L l := (List.take_append_drop _ _).symm
  constructor
  · rintro ⟨a, h⟩
    refine ⟨l.take (l.length - min (L - 1) l.length) ++ a, ?_⟩
    rw [List.append_assoc, ← h, ← List.append_assoc, ← el]
  · rintro ⟨a, h⟩
    have hl := congrArg List.length h
    rw [List.length_append, List.length_append, List.length_singleton] at hl
    refine ⟨(frontW L l ++ [c]).take (min (L - 1) l.length + 1 - (cs z).length), ?_⟩
    have e1 : (frontW L l ++ [c]) = (l ++ [c]).drop (l.length - min (L - 1) l.length) := by
      rw [List.drop_append_of_le_length (by omega)]
      rfl
    have e2 : (frontW L l ++ [c]).drop (min (L - 1) l.length + 1 - (cs z).length) = cs z := by
      rw [e1, List.drop_drop, h, List.drop_append, List.drop_of_length_le (by omega)]
      have : l.length - min (L - 1) l.length + (min (L - 1) l.length + 1 - (cs z).length) - a.length = 0 := by omega
      rw [this]
      rfl
    conv => lhs; rw [← List.take_append_drop (min (L - 1) l.length + 1 - (cs z).length) (frontW L l ++ [c])]
    rw [e2]
/-- the change of a text's front is what the sign costs more -/
theorem front_change (G : Good F) (W : Wide F L) (o : Over F (l ++ [c])) : StepR F (frontW L l) (frontD F L l) c (lp F (l ++ [c]) - lp F l) := by
  have at' : ∀ {z : Str} {p : Int} {a : List Nat}, F z = some p → l ++ [c] = a ++ cs z → ((0 : Int) :: frontD F L l)[(cs z).length - 1]? = some (lp F a - lp F l) := by
    intro z p a hz h
    have n1 := (G.len z p hz).1
    have n2 := W.2 z p hz
    have hl := congrArg List.length h
    rw [List.length_append, List.length_append, List.length_singleton] at hl
    rw [ahead_at (by omega)]
    have e : l.take (l.length - ((cs z).length - 1)) = a := by
      have h2 : (l ++ [c]).take a.length = a := by rw [h, List.take_left]
      rw [List.take_append_of_le_length (by omega)] at h2
      have : l.length - ((cs z).length - 1) = a.length := by omega
      rw [this, h2]
    rw [e]
  constructor
  · obtain ⟨z, p, a, h1, h2, h3⟩ := lp_last G o (by simp)
    obtain ⟨a', ha'⟩ := (front_suffix (c := c) (l := l) W G h1).mpr ⟨a, h2⟩
    exact ⟨z, p, a', _, h1, ha', at' h1 h2, by omega⟩
  · intro z p a y h1 h2 h3
    obtain ⟨a', ha'⟩ := (front_suffix (c := c) (l := l) W G h1).mp ⟨a, h2⟩
    rw [at' h1 ha'] at h3
    have e := Option.some.inj h3
    have h4 := lp_app G (a := a') (by rw [ha'] at o; exact o.left) h1
    rw [← ha'] at h4
    omega
theorem front_stepW (hL : 1 ≤ L) : stepW L (frontW L l) c = frontW L (l ++ [c]) := by
  have e1 : (frontW L l ++ [c]) = (l ++ [c]).drop (l.length - min (L - 1) l.length) := by
    rw [List.drop_append_of_le_length (by omega)]
    rfl
  unfold stepW
  rw [e1, List.drop_drop]
  show _ = (l ++ [c]).drop ((l ++ [c]).length - min (L - 1) (l ++ [c]).length)
  rw [List.length_append, List.length_singleton, frontW_len]
  congr 1
  omega
theorem front_stepD (hL : 1 ≤ L) : stepD L (frontW L l) (frontD F L l) c (lp F (l ++ [c]) - lp F l) = frontD F L (l ++ [c]) := by
  have ln : (stepW L (frontW L l) c).length = min (L - 1) (l.length + 1) := by
    rw [stepW_len, frontW_len]
    omega
  refine List.ext_getElem? fun i => ?_
  unfold stepD
  rw [ln, List.getElem?_take]
  by_cases h : i < min (L - 1) (l.length + 1)
  · rw [if_pos h, List.getElem?_map, ahead_at (by omega), frontD_at (by rw [List.length_append]; exact h)]
    show some _ = some _
    congr 1
    have e : (l ++ [c]).take ((l ++ [c]).length - (i + 1)) = l.take (l.length - i) := by
      rw [List.length_append, List.length_singleton, List.take_append_of_le_length (by omega)]
      congr 1
      omega
    rw [e]
    dsimp only
    omega
  · rw [if_neg h, List.getElem?_eq_none]
    rw [frontD_len, List.length_append]
    show min (L - 1) (l.length + 1) ≤ i
    omega
end
/-! ### promises -/
theorem wide_of {kvs : List (Key × V)} {ys : List Str} {Ln : Nat} (av : arePrices kvs = true) (pm : ys.Perm (keyStrs kvs)) (h : IsMax (Ln : Int) (lens (psOf kvs ys))) : Wide (tfD kvs) Ln ∧ 1 ≤ Ln ∧ Ln ≤ 5 := by
  obtain ⟨_, al, _, _⟩ := ap_parts av
  obtain ⟨lm, lo⟩ := h
  obtain ⟨q, hq, e⟩ := List.mem_map.mp lm
  obtain ⟨y, hy, rfl⟩ := List.mem_map.mp hq
  have e' : (y.length : Int) = (Ln : Int) := e
  have hk := pm.mem_iff.mp hy
  obtain ⟨p, hp⟩ := (tf_key al).mp hk
  have h1 := keyStrs_piece al y hk
  have h2 := cs_len y
  refine ⟨⟨⟨y, p, hp, by omega⟩, fun z q hz => ?_⟩, by omega, by omega⟩
  have h3 := lo _ (List.mem_map.mpr ⟨(z, priceIn kvs z), List.mem_map.mpr ⟨z, pm.mem_iff.mpr ((tf_key al).mpr ⟨q, hz⟩), rfl⟩, rfl⟩)
  have h4 : (z.length : Int) ≤ (Ln : Int) := h3
  rw [cs_len]
  omega
theorem Wide.uniq {F : Tf} {L M : Nat} (h : Wide F L) (k : Wide F M) : L = M := by
  obtain ⟨⟨z, p, h1, h2⟩, h3⟩ := h
  obtain ⟨⟨y, q, k1, k2⟩, k3⟩ := k
  have := h3 y q k1
  have := k3 z p h1
  omega
/-- front_in, front_of -/
def spFrontIn (C : Addr) : Sp := fun vs H Q _ => ∃ b kvs z, vs = [.ref b, .str z] ∧ Book1 C H b kvs ∧ Over (tfD kvs) (cs z) ∧ z.length ≤ 8000 ∧ isText (.str z) = true ∧
  ∀ L t H', Wide (tfD kvs) L → FrontAt H' t (frontW L (cs z)) (frontD (tfD kvs) L (cs z)) → Same H H' → Q (.ref t) H'
/-- what step_in returns -/
def StepAt (H : Hp) (t : Addr) (l : List Nat) (ds : List Int) (m : Int) : Prop := ∃ u, H t = some (.tup [.ref u, .int m]) ∧ FrontAt H u l ds
/-- step_in, next_front -/
def spStepIn (C : Addr) : Sp := fun vs H Q _ => ∃ (b f : Addr) (kvs : List (Key × V)) (l : List Nat) (ds : List Int) (c L : Nat), vs = [.ref b, .ref f, .str (ch c)] ∧ Book1 C H b kvs ∧ FrontAt H f l ds ∧ Wide (tfD kvs) L ∧ Over (tfD kvs) l ∧ Over (tfD kvs) [c] ∧ l.length < L ∧ ds.length = l.length ∧ (∀ x ∈ l, lett x = true) ∧
  (∀ x ∈ ds, isInteger (.int x) = true) ∧ ∀ t m H', StepR (tfD kvs) l ds c m → StepAt H' t (stepW L l c) (stepD L l ds c m) m → Same H H' → Q (.ref t) H'
theorem cutV_to {xs : List V} {i : Nat} (h : i ≤ xs.length) : cutV xs none (some (i : Int)) = xs.take i := by
  unfold cutV
  rw [show HT.sIx xs.length xs.length (some (i : Int)) = i by rw [sIx_pos (by omega), Int.toNat_natCast]; omega]
  rfl
noncomputable def aheadAt (ds : List Int) (y : Str) : Int := (((0 : Int) :: ds)[(cs y).length - 1]?).getD 0
theorem ends_fm {lg : Str} {ys : List Str} : (ys.filterMap fun y => if Txt.endswith lg y = true then some (V.str y) else none) = (ys.filter fun y => Txt.endswith lg y).map V.str := by
  induction ys with
  | nil => rfl
  | cons a r ih =>
    rw [List.filterMap_cons, List.filter_cons, ih]
    cases Txt.endswith lg a <;> rfl
/-- the least candidate is the change -/
theorem step_min {kvs : List (Key × V)} {ys : List Str} {lg : Str} {l : List Nat} {ds : List Int} {c : Nat} (av : arePrices kvs = true) (pm : ys.Perm (keyStrs kvs)) (hg : cs lg = l ++ [c]) (hds : ds.length = l.length) (oc : Over (tfD kvs) [c]) :
    0 < ((ys.filter fun y => Txt.endswith lg y).map fun y => priceIn kvs y + aheadAt ds y).length ∧ ∀ m ∈ (ys.filter fun y => Txt.endswith lg y).map (fun y => priceIn kvs y + aheadAt ds y), (∀ y ∈ (ys.filter fun y => Txt.endswith lg y).map (fun y => priceIn kvs y + aheadAt ds y), m ≤ y) → StepR (tfD kvs) l ds c m := by
  obtain ⟨_, al, _, _⟩ := ap_parts av
  have good := good_of av
  have price : ∀ {y p}, tfD kvs y = some p → p = priceIn kvs y := fun {y p} h => by
    have h1 := (price_of_key al ((tf_key al).mpr ⟨p, h⟩)).1
    rw [tf_some.mp h] at h1
    exact V.int.inj (Option.some.inj h1)
  have mem : ∀ {y p a}, tfD kvs y = some p → l ++ [c] = a ++ cs y → y ∈ ys.filter fun y => Txt.endswith lg y := fun {y p a} h h2 =>
    List.mem_filter.mpr ⟨pm.mem_iff.mpr ((tf_key al).mpr ⟨p, h⟩), ends_iff.mpr ⟨a, by rw [hg]; exact h2⟩⟩
  have ah : ∀ {y p a}, tfD kvs y = some p → l ++ [c] = a ++ cs y → ((0 : Int) :: ds)[(cs y).length - 1]? = some (aheadAt ds y) := fun {y p a} h h2 => by
    have n1 := (good.len y p h).1
    have h3 := congrArg List.length h2
    rw [List.length_append, List.length_append, List.length_singleton] at h3
    unfold aheadAt
    rw [List.getElem?_eq_getElem (by rw [List.length_cons]; omega)]
    rfl
  constructor
  · rw [List.length_map]
    obtain ⟨p, hp⟩ := oc c List.mem_cons_self
    exact List.length_pos_of_mem (mem (y := ch c) (a := l) hp rfl)
  · intro m hm hle
    constructor
    · obtain ⟨y, hy, rfl⟩ := List.mem_map.mp hm
      obtain ⟨h1, h2⟩ := List.mem_filter.mp hy
      obtain ⟨a, ha⟩ := ends_iff.mp h2
      rw [hg] at ha
      obtain ⟨p, hp⟩ := (tf_key al).mp (pm.mem_iff.mp h1)
      exact ⟨y, p, a, _, hp, ha, ah hp ha, by rw [price hp]⟩
    · intro z p a y hz h2 h3
      have h4 := hle _ (List.mem_map.mpr ⟨z, mem hz h2, rfl⟩)
      rw [ah hz h2] at h3
      rw [price hz, ← Option.some.inj h3]
      exact h4
structure FrontArg (C : Addr) (H : Hp) (b f : Addr) (kvs : List (Key × V)) (l : List Nat) (ds : List Int) (L : Nat) : Prop where
  bk : Book1 C H b kvs
  fr : FrontAt H f l ds
  wd : Wide (tfD kvs) L
  ov : Over (tfD kvs) l
  ln : l.length < L
  dl : ds.length = l.length
  lt : ∀ x ∈ l, lett x = true
  di : ∀ x ∈ ds, isInteger (.int x) = true
theorem FrontArg.same {C : Addr} {H H' : Hp} {b f : Addr} {kvs : List (Key × V)} {l : List Nat} {ds : List Int} {L : Nat} (a : FrontArg C H b f kvs l ds L) (s : Same H H') : FrontArg C H' b f kvs l ds L :=
  ⟨a.bk.same s, a.fr.same s, a.wd, a.ov, a.ln, a.dl, a.lt, a.di⟩
/-- has_front_form, of a front in its form -/
def spForm (C : Addr) : Sp := fun vs H Q _ => ∃ (b f : Addr) (kvs : List (Key × V)) (l : List Nat) (ds : List Int) (L : Nat), vs = [.ref b, .ref f] ∧ FrontArg C H b f kvs l ds L ∧ ∀ H', Same H H' → Q (.bl true) H'
def spReqFront (C : Addr) : Sp := fun vs H Q _ => ∃ (b f : Addr) (kvs : List (Key × V)) (l : List Nat) (ds : List Int) (L : Nat), vs = [.ref b, .ref f] ∧ FrontArg C H b f kvs l ds L ∧ ∀ H', Same H H' → Q .non H'
def spReqSign (C : Addr) : Sp := fun vs H Q _ => ∃ (b : Addr) (kvs : List (Key × V)) (c : Nat), vs = [.ref b, .str (ch c)] ∧ Book1 C H b kvs ∧ Over (tfD kvs) [c] ∧ ∀ H', Same H H' → Q .non H'
def spNext (C : Addr) : Sp := fun vs H Q _ => ∃ (b f : Addr) (kvs : List (Key × V)) (l : List Nat) (ds : List Int) (c L : Nat), vs = [.ref b, .ref f, .str (ch c)] ∧ FrontArg C H b f kvs l ds L ∧ Over (tfD kvs) [c] ∧ lett c = true ∧
  ∀ t m H', StepR (tfD kvs) l ds c m → StepAt H' t (stepW L l c) (stepD L l ds c m) m → Same H H' → Q (.ref t) H'
/-! ### the law's helpers -/
/-- _law_shuffled, of letters -/
def spShuf (K : PySem.W.Frag) : Sp := fun vs H Q _ => ∃ (l a : Addr) (cl : List Nat) (n : Nat), vs = [.ref l, .ref a] ∧ a ≠ l ∧ SqL K H a (cl.map chV) ∧ cl.length ≤ 100 ∧ (∀ c ∈ cl, lett c = true) ∧ Dice H l (n + cl.length) ∧
  ∀ (p : Addr) (zs : List Nat) H', H p = none → p ≠ l → zs.Perm cl → H' p = some (.lst (zs.map chV)) → Kp l H H' → Dice H' l n → Q (.ref p) H'
/-- _law_letters of these laws: some letters -/
def spLett (K : PySem.W.Frag) : Sp := fun vs H Q _ => ∃ (l : Addr) (m n : Nat), vs = [.ref l, .int (m : Int)] ∧ m ≤ 26 ∧ Dice H l (n + 26) ∧
  ∀ (p : Addr) (zs : List Nat) H', H p = none → p ≠ l → zs.length = m → (∀ c ∈ zs, lett c = true) → H' p = some (.lst (zs.map chV)) → Kp l H H' → Dice H' l n → Q (.ref p) H'
theorem chs_strs (l : List Nat) : l.map chV = (l.map ch).map V.str := by
  rw [List.map_map]
  rfl
/-- _law_prices: a right dict over the signs -/
def spPrices20 (K : PySem.W.Frag) : Sp := fun vs H Q _ => ∃ (l sa ma : Addr) (sg : List Nat) (ms : List Int) (n : Nat), vs = [.ref l, .ref sa, .int 6, .int 5, .ref ma] ∧ sa ≠ l ∧ ma ≠ l ∧ SqL K H sa (sg.map chV) ∧ SqL K H ma (ms.map V.int) ∧ 1 ≤ sg.length ∧ sg.length ≤ 4 ∧ (∀ c ∈ sg, lett c = true) ∧
  1 ≤ ms.length ∧ ms.length ≤ 100 ∧ (∀ i ∈ ms, 1 ≤ i ∧ i ≤ 99) ∧ Dice H l (n + 100) ∧
  ∀ (p : Addr) (kvs : List (Key × V)) H', H p = none → p ≠ l → H' p = some (.dK kvs) → arePrices kvs = true → (kvs.map (·.1)).Nodup → (∀ c, (∃ q, tfD kvs (ch c) = some q) ↔ c ∈ sg) → Kp l H H' → Dice H' l n → Q (.ref p) H'
/-- _law_cheap -/
def spCheap : Sp := fun vs H Q _ => ∃ d kvs z, vs = [.ref d, .str z] ∧ H d = some (.dK kvs) ∧ Tar kvs ∧ Over (tfD kvs) (cs z) ∧ z.length ≤ 10000 ∧ ∀ p H', H p = none → H' p = some (.lst (rowV (tfD kvs) (cs z) (z.length + 1))) → Same H H' → Q (.ref p) H'
/-- _law_wide -/
def spWide : Sp := fun vs H Q _ => ∃ d kvs, vs = [.ref d] ∧ H d = some (.dK kvs) ∧ Tar kvs ∧ kvs ≠ [] ∧ ∀ (L : Nat) H', Wide (tfD kvs) L → 1 ≤ L → L ≤ 5 → Same H H' → Q (.int (L : Int)) H'
/-- _law_front -/
def spLawFront : Sp := fun vs H Q _ => ∃ d kvs z, vs = [.ref d, .str z] ∧ H d = some (.dK kvs) ∧ Tar kvs ∧ kvs ≠ [] ∧ Over (tfD kvs) (cs z) ∧ z.length ≤ 10000 ∧ ∀ L t H', Wide (tfD kvs) L → FrontAt H' t (frontW L (cs z)) (frontD (tfD kvs) L (cs z)) → Same H H' → Q (.ref t) H'
/-- _law_step -/
def spLawStep : Sp := fun vs H Q _ => ∃ (d f : Addr) (kvs : List (Key × V)) (l : List Nat) (ds : List Int) (c L : Nat), vs = [.ref d, .ref f, .str (ch c)] ∧ H d = some (.dK kvs) ∧ Tar kvs ∧ kvs ≠ [] ∧ FrontAt H f l ds ∧ Wide (tfD kvs) L ∧ Over (tfD kvs) [c] ∧ l.length < L ∧ ds.length = l.length ∧
  ∀ t m H', StepR (tfD kvs) l ds c m → StepAt H' t (stepW L l c) (stepD L l ds c m) m → Same H H' → Q (.ref t) H'
noncomputable def stepG (ds : List Int) (lg : Str) : Key × V → Option Int := fun kv => match kv with
  | (.inr y, .int p) => if Txt.endswith lg y = true then some (p + aheadAt ds y) else none
  | _ => none
theorem step_minT {kvs : List (Key × V)} {lg : Str} {l : List Nat} {ds : List Int} {c : Nat} (T : Tar kvs) (hg : cs lg = l ++ [c]) (hds : ds.length = l.length) (oc : Over (tfD kvs) [c]) :
    0 < (kvs.filterMap (stepG ds lg)).length ∧ ∀ m ∈ kvs.filterMap (stepG ds lg), (∀ y ∈ kvs.filterMap (stepG ds lg), m ≤ y) → StepR (tfD kvs) l ds c m := by
  have mem : ∀ {y p a}, tfD kvs y = some p → l ++ [c] = a ++ cs y → p + aheadAt ds y ∈ kvs.filterMap (stepG ds lg) := fun {y p a} h h2 => by
    refine List.mem_filterMap.mpr ⟨_, valV_mem (tf_some.mp h), ?_⟩
    show (if Txt.endswith lg y = true then some (p + aheadAt ds y) else none) = _
    rw [if_pos (ends_iff.mpr ⟨a, by rw [hg]; exact h2⟩)]
  have ah : ∀ {y p a}, tfD kvs y = some p → l ++ [c] = a ++ cs y → ((0 : Int) :: ds)[(cs y).length - 1]? = some (aheadAt ds y) := fun {y p a} h h2 => by
    have n1 := (T.good.len y p h).1
    have h3 := congrArg List.length h2
    rw [List.length_append, List.length_append, List.length_singleton] at h3
    unfold aheadAt
    rw [List.getElem?_eq_getElem (by rw [List.length_cons]; omega)]
    rfl
  constructor
  · obtain ⟨p, hp⟩ := oc c List.mem_cons_self
    exact List.length_pos_of_mem (mem (y := ch c) (a := l) hp rfl)
  · intro m hm hle
    constructor
    · obtain ⟨kv, hkv, g⟩ := List.mem_filterMap.mp hm
      obtain ⟨y, p, rfl, hp⟩ := T.mem kv hkv
      have g' : (if Txt.endswith lg y = true then some (p + aheadAt ds y) else none) = some m := g
      by_cases q : Txt.endswith lg y = true
      · rw [if_pos q] at g'
        obtain ⟨a, ha⟩ := ends_iff.mp q
        rw [hg] at ha
        exact ⟨y, p, a, _, hp, ha, ah hp ha, (Option.some.inj g').symm⟩
      · rw [if_neg q] at g'
        cases g'
    · intro z p a y hz h2 h3
      rw [ah hz h2] at h3
      rw [← Option.some.inj h3]
      exact hle _ (mem hz h2)
/-- _law_large -/
def spLarge : Sp := fun vs H Q _ => ∃ (l : Addr) (n : Nat), vs = [.ref l] ∧ Dice H l (n + 2) ∧ ∀ (i : Int) H', isInteger (.int i) = true → Kp l H H' → Dice H' l n → Q (.int i) H'
theorem isI_of {i : Int} (h : i.natAbs < 10 ^ 60) : isInteger (.int i) = true := decide_eq_true h
theorem ten60 : (10 : Int) ^ (60 : Int).toNat = ((10 ^ 60 : Nat) : Int) := by decide +kernel
theorem large60 : 1000 ≤ (10 ^ 60 : Nat) := by decide +kernel
/-! ### fronts as data -/
def dFront (l : List Nat) (ds : List Int) : PyData := .tuple [.str (sOf l), .tuple (ds.map PyData.int)]
def dStep (l : List Nat) (ds : List Int) (m : Int) : PyData := .tuple [dFront l ds, .int m]
theorem dpAll_ints {K : PySem.W.Frag} {H : Hp} : ∀ ds : List Int, DpAll K H (ds.map V.int) (ds.map PyData.int)
  | [] => .nil
  | d :: r => .cons (.int d) (dpAll_ints r)
theorem dp_front {K : PySem.W.Frag} {H : Hp} {t : Addr} {l : List Nat} {ds : List Int} (f : FrontAt H t l ds) : Dp K H (.ref t) (dFront l ds) := by
  obtain ⟨td, h1, h2⟩ := f
  exact .tup (SqT.of h1) (.cons (.str _) (.cons (.tup (SqT.of h2) (dpAll_ints ds)) .nil))
theorem dp_step {K : PySem.W.Frag} {H : Hp} {t : Addr} {l : List Nat} {ds : List Int} {m : Int} (f : StepAt H t l ds m) : Dp K H (.ref t) (dStep l ds m) := by
  obtain ⟨u, h1, h2⟩ := f
  exact .tup (SqT.of h1) (.cons (dp_front h2) (.cons (.int m) .nil))
theorem shw_tuple {ds : List PyData} {k n : Nat} (h : ∀ d ∈ ds, Shw d k n) : Shw (.tuple ds) (k + 1) (ds.length * (n + 2) + 4) := by
  obtain ⟨b1, b2, b3, b4⟩ := shwAll h
  refine ⟨by simpa [PyData.showable] using b1, by simpa [PyData.hasDict] using b2, by simp only [PyData.depth]; omega, ?_⟩
  simp only [PyData.shown]
  unfold tupleText
  rw [strLen_append, strLen_append]
  have c1 : (("(" : String) : Str).length = 1 := by decide +kernel
  have c2 : ((if (PyData.shownAll ds).length == 1 then ",)" else ")" : String) : Str).length ≤ 2 := by split <;> decide +kernel
  have c3 : piled (PyData.shownAll ds) ≤ (PyData.shownAll ds).length * (n + 2) := by
    have gen : ∀ l : List Str, (∀ t ∈ l, t.length ≤ n) → piled l ≤ l.length * (n + 2) := by
      intro l hl
      induction l with
      | nil => simp [piled]
      | cons t r ih =>
        have h1 := hl t List.mem_cons_self
        have h2 := ih fun u hu => hl u (List.mem_cons_of_mem _ hu)
        have e : piled (t :: r) = t.length + 2 + piled r := by simp [piled]
        rw [e, List.length_cons, Nat.add_mul]
        omega
    exact gen _ b4
  have c4 : (Str.join ", " (PyData.shownAll ds)).length ≤ piled (PyData.shownAll ds) := by
    by_cases q : PyData.shownAll ds = []
    · rw [q]
      decide +kernel
    · have := join_length_add _ q
      omega
  have c5 : (PyData.shownAll ds).length = ds.length := by rw [shownAll_map, List.length_map]
  rw [c5] at c3
  omega
theorem shw_str {z : Str} {n : Nat} (h : z.length ≤ n) (hc : ∀ c ∈ cs z, c < 16 ^ 8) : Shw (.str z) 0 (10 * n + 2) :=
  ⟨by simp [PyData.showable], by simp [PyData.hasDict], by simp [PyData.depth], by simp only [PyData.shown]; exact Nat.le_trans (StrLaws.reprText_len z hc) (by omega)⟩
theorem shw_front {l : List Nat} {ds : List Int} (hl : l.length ≤ 5) (hc : ∀ c ∈ l, lett c = true) (hd : ds.length ≤ 5) (hi : ∀ d ∈ ds, d.natAbs < 2 ^ 300) : Shw (dFront l ds) 2 (2 * 9700) := by
  have h1 : Shw (.str (sOf l)) 1 9650 := (shw_str (n := 5) (by rw [sOf_len]; exact hl) fun c h => by
    rw [cs_sOf] at h
    have := hc c h
    unfold lett at this
    rw [Bool.and_eq_true] at this
    have := of_decide_eq_true this.2
    exact Nat.lt_of_le_of_lt this (by decide)).le (by omega) (by omega)
  have h2 : Shw (.tuple (ds.map PyData.int)) 1 9650 := (shw_tuple (k := 0) (n := 1921) fun d hd' => by
    obtain ⟨i, hi', rfl⟩ := List.mem_map.mp hd'
    exact shw_int (log_of (hi i hi'))).le (by omega) (by
      rw [List.length_map]
      have := Nat.mul_le_mul_right (1921 + 2) hd
      omega)
  refine (shw_tuple (k := 1) (n := 9650) fun d hd' => ?_).le (by omega) (by show 2 * (9650 + 2) + 4 ≤ 2 * 9700; omega)
  simp only [List.mem_cons, List.not_mem_nil, or_false] at hd'
  rcases hd' with rfl | rfl
  · exact h1
  · exact h2
theorem shw_step {l : List Nat} {ds : List Int} {m : Int} (hl : l.length ≤ 5) (hc : ∀ c ∈ l, lett c = true) (hd : ds.length ≤ 5) (hi : ∀ d ∈ ds, d.natAbs < 2 ^ 300) (hm : m.natAbs < 2 ^ 300) : Shw (dStep l ds m) 3 40000 := by
  refine (shw_tuple (k := 2) (n := 2 * 9700) fun d hd' => ?_).le (by omega) (by show 2 * (2 * 9700 + 2) + 4 ≤ 40000; omega)
  simp only [List.mem_cons, List.not_mem_nil, or_false] at hd'
  rcases hd' with rfl | rfl
  · exact shw_front hl hc hd hi
  · exact (shw_int (log_of hm)).le (by omega) (by omega)
/-- repr of shown data -/
theorem repr_shw {K : PySem.W.Frag} {H : Hp} {x : V} {d : PyData} {k n : Nat} {Q : VK} (h : Dp K H x d) (s : Shw d k n) (hk : k ≤ 60) (hn : n ≤ 100000) (q : Q (.str d.shown) H) : rRepr K [x] H Q :=
  ⟨x, d, rfl, h, s.s, s.h, Nat.le_trans s.dp hk, Nat.le_trans s.len (fits_sz hn), q⟩
theorem lift_ch {P : Nat → Prop} : ∀ {ys : List Str}, (∀ y ∈ ys, ∃ c, y = ch c ∧ P c) → ∃ sg : List Nat, ys = sg.map ch ∧ ∀ c ∈ sg, P c
  | [], _ => ⟨[], rfl, fun _ h => (List.not_mem_nil h).elim⟩
  | y :: r, h => by
    obtain ⟨c, rfl, hc⟩ := h y List.mem_cons_self
    obtain ⟨sg, rfl, hs⟩ := lift_ch (ys := r) fun z hz => h z (List.mem_cons_of_mem _ hz)
    refine ⟨c :: sg, rfl, fun d hd => ?_⟩
    rcases List.mem_cons.mp hd with rfl | hd
    · exact hc
    · exact hs d hd
/-! ### bounds -/
theorem lp_bound {F : Tf} (G : Good F) : ∀ l, Over F l → 0 ≤ lp F l ∧ lp F l ≤ 99 * (l.length : Int)
  | [], _ => by
    rw [lp_nil G]
    exact ⟨Int.le_refl _, by decide⟩
  | c :: r, o => by
    have o1 : Over F [c] := fun d hd => o d (by rw [List.mem_singleton.mp hd]; exact List.mem_cons_self)
    have o2 : Over F r := fun d hd => o d (List.mem_cons_of_mem _ hd)
    obtain ⟨p, hp⟩ := o c List.mem_cons_self
    have h1 : lp F [c] ≤ p := lp_piece G hp
    have h2 := (G.pos _ _ hp).2
    have h3 := (lp_bound G r o2).2
    have h4 : lp F (c :: r) ≤ lp F [c] + lp F r := lp_add G o1 o2
    obtain ⟨d, hd, e⟩ := lp_cut G o
    have h5 := fee_pos G d hd.1
    rw [List.length_cons]
    omega
theorem front_small {F : Tf} {L : Nat} {l : List Nat} (G : Good F) (o : Over F l) : ∀ d ∈ frontD F L l, d.natAbs ≤ 99 * l.length := fun d hd => by
  unfold frontD at hd
  obtain ⟨i, _, rfl⟩ := List.mem_map.mp hd
  have h1 := lp_bound G _ o
  have h2 := lp_bound G _ (o.take (l.length - (i + 1)))
  have h3 : (l.take (l.length - (i + 1))).length ≤ l.length := by
    rw [List.length_take]
    omega
  omega
theorem frontW_mem {L : Nat} {l : List Nat} {c : Nat} (h : c ∈ frontW L l) : c ∈ l := List.mem_of_mem_drop h
theorem stepW_mem {L : Nat} {l : List Nat} {c d : Nat} (h : d ∈ stepW L l c) : d ∈ l ∨ d = c := by
  have h1 := List.mem_of_mem_drop h
  rcases List.mem_append.mp h1 with h | h
  · exact Or.inl h
  · exact Or.inr (List.mem_singleton.mp h)
theorem stepR_small {F : Tf} {l : List Nat} {ds : List Int} {c B : Nat} {m : Int} (G : Good F) (h : StepR F l ds c m) (hb : ∀ d ∈ ds, d.natAbs ≤ B) : m.natAbs ≤ B + 99 := by
  obtain ⟨⟨z, p, a, y, h1, _, h3, rfl⟩, _⟩ := h
  have h4 := G.pos _ _ h1
  rcases List.mem_cons.mp (List.mem_of_getElem? h3) with rfl | h5
  · omega
  · have := hb y h5
    omega
theorem stepD_small {L : Nat} {l : List Nat} {ds : List Int} {c B : Nat} {m : Int} (hm : m.natAbs ≤ B + 99) (hb : ∀ d ∈ ds, d.natAbs ≤ B) : ∀ d ∈ stepD L l ds c m, d.natAbs ≤ 2 * B + 99 := fun d hd => by
  obtain ⟨x, hx, rfl⟩ := List.mem_map.mp (List.mem_of_mem_take hd)
  rcases List.mem_cons.mp hx with rfl | h5
  · omega
  · have := hb x h5
    omega
theorem stepD_len {L : Nat} {l : List Nat} {ds : List Int} {c : Nat} {m : Int} : (stepD L l ds c m).length ≤ (stepW L l c).length := by
  unfold stepD
  rw [List.length_take]
  omega
/-! ### fronts of given books, worked out -/
def psK (kvs : List (Key × V)) : List (List Nat × Int) := kvs.filterMap fun kv => match kv with | (.inr z, .int p) => some (cs z, p) | _ => none
theorem ps_tf {kvs : List (Key × V)} (nd : (kvs.map (·.1)).Nodup) {z : Str} {p : Int} : tfD kvs z = some p ↔ (cs z, p) ∈ psK kvs := by
  unfold psK
  rw [List.mem_filterMap]
  constructor
  · intro h
    exact ⟨_, valV_mem (tf_some.mp h), rfl⟩
  · rintro ⟨⟨k, v⟩, h1, h2⟩
    have h3 := val_nodup nd _ h1
    rcases k with i | y
    · cases h2
    · cases v
      case int q =>
        have e := Option.some.inj h2
        have e1 : y = z := str_ext (Prod.mk.inj e).1
        have e2 : q = p := (Prod.mk.inj e).2
        subst e1
        subst e2
        exact tf_some.mpr h3
      all_goals cases h2
def candF (ps : List (List Nat × Int)) (w : List Nat) (d : List Int) (c : Nat) : List Int :=
  ps.filterMap fun q => if (w ++ [c]).drop ((w ++ [c]).length - q.1.length) = q.1 then (((0 : Int) :: d)[q.1.length - 1]?).map fun y => q.2 + y else none
def minI : List Int → Option Int
  | [] => none
  | a :: r => match minI r with
    | none => some a
    | some b => some (if a ≤ b then a else b)
theorem minI_none : ∀ {xs : List Int}, minI xs = none → xs = []
  | [], _ => rfl
  | a :: r, h => by
    unfold minI at h
    split at h <;> cases h
theorem minI_spec : ∀ {xs : List Int} {m : Int}, minI xs = some m → m ∈ xs ∧ ∀ y ∈ xs, m ≤ y
  | [], _, h => by cases h
  | a :: r, m, h => by
    unfold minI at h
    split at h
    · rename_i e
      have er := minI_none e
      have em := Option.some.inj h
      subst em
      rw [er]
      exact ⟨List.mem_cons_self, fun y hy => by rw [List.mem_singleton.mp hy]; exact Int.le_refl _⟩
    · rename_i b e
      obtain ⟨h1, h2⟩ := minI_spec e
      have em := Option.some.inj h
      subst em
      constructor
      · split
        · exact List.mem_cons_self
        · exact List.mem_cons_of_mem _ h1
      · intro y hy
        rcases List.mem_cons.mp hy with rfl | hy
        · split <;> omega
        · have := h2 y hy
          split <;> omega
theorem step_of {kvs : List (Key × V)} (nd : (kvs.map (·.1)).Nodup) {w : List Nat} {d : List Int} {c : Nat} {m : Int} (h : minI (candF (psK kvs) w d c) = some m) : StepR (tfD kvs) w d c m := by
  obtain ⟨h1, h2⟩ := minI_spec h
  constructor
  · obtain ⟨q, hq, e⟩ := List.mem_filterMap.mp h1
    split at e
    · rename_i s
      obtain ⟨y, hy, rfl⟩ := Option.map_eq_some_iff.mp e
      refine ⟨sOf q.1, q.2, (w ++ [c]).take ((w ++ [c]).length - q.1.length), y, (ps_tf nd).mpr (by rw [cs_sOf]; exact hq), ?_, by rw [cs_sOf]; exact hy, rfl⟩
      rw [cs_sOf]
      conv => rhs; rw [← s]
      exact (List.take_append_drop _ _).symm.trans (by rw [s])
    · cases e
  · intro z p a y hz hs hy
    refine h2 _ (List.mem_filterMap.mpr ⟨_, (ps_tf nd).mp hz, ?_⟩)
    have e : (w ++ [c]).drop ((w ++ [c]).length - (cs z).length) = cs z := by
      rw [hs, List.length_append, Nat.add_sub_cancel, List.drop_left]
    dsimp only
    rw [if_pos e, hy]
    rfl
def runF (ps : List (List Nat × Int)) (L : Nat) : List Nat → List Nat → List Int → Option (List Nat × List Int)
  | [], w, d => some (w, d)
  | c :: r, w, d => match minI (candF ps w d c) with
    | none => none
    | some m => runF ps L r (stepW L w c) (stepD L w d c m)
theorem run_front {kvs : List (Key × V)} (nd : (kvs.map (·.1)).Nodup) (G : Good (tfD kvs)) {L : Nat} (W : Wide (tfD kvs) L) (hL : 1 ≤ L) : ∀ {r l w : List Nat} {d : List Int} {w' : List Nat} {d' : List Int}, Over (tfD kvs) (l ++ r) → frontW L l = w → frontD (tfD kvs) L l = d →
    runF (psK kvs) L r w d = some (w', d') → frontW L (l ++ r) = w' ∧ frontD (tfD kvs) L (l ++ r) = d'
  | [], l, w, d, w', d', _, hw, hd, h => by
    have e := Option.some.inj h
    rw [List.append_nil, hw, hd]
    exact Prod.mk.inj e
  | c :: r, l, w, d, w', d', o, hw, hd, h => by
    unfold runF at h
    split at h
    · cases h
    · rename_i m e
      have st := step_of nd e
      have o1 : Over (tfD kvs) (l ++ [c]) := fun x hx => o x (by
        rcases List.mem_append.mp hx with h | h
        · exact List.mem_append_left _ h
        · rw [List.mem_singleton.mp h]
          exact List.mem_append_right _ List.mem_cons_self)
      have fc := front_change G W o1
      have em : m = lp (tfD kvs) (l ++ [c]) - lp (tfD kvs) l := (show StepR (tfD kvs) (frontW L l) (frontD (tfD kvs) L l) c m by rw [hw, hd]; exact st).uniq fc
      have e2 : l ++ c :: r = (l ++ [c]) ++ r := by rw [List.append_assoc]; rfl
      rw [e2]
      refine run_front nd G W hL (by rw [← e2]; exact o) ?_ ?_ h
      · rw [← hw, front_stepW hL]
      · rw [← hw, ← hd, em, front_stepD hL]
theorem run_all {kvs : List (Key × V)} (nd : (kvs.map (·.1)).Nodup) (G : Good (tfD kvs)) {L : Nat} (W : Wide (tfD kvs) L) (hL : 1 ≤ L) {r w' : List Nat} {d' : List Int} (o : Over (tfD kvs) r) (h : runF (psK kvs) L r [] [] = some (w', d')) : frontW L r = w' ∧ frontD (tfD kvs) L r = d' :=
  run_front nd G W hL (l := []) (w := []) (d := []) o (by unfold frontW; exact List.drop_nil) (by unfold frontD; rw [List.length_nil, Nat.min_zero]; rfl) h
/-- a front that comes back behind a word -/
theorem run_round {kvs : List (Key × V)} (nd : (kvs.map (·.1)).Nodup) (G : Good (tfD kvs)) {L : Nat} (W : Wide (tfD kvs) L) (hL : 1 ≤ L) {r w : List Nat} {d : List Int} (o : Over (tfD kvs) r) (h1 : runF (psK kvs) L r [] [] = some (w, d)) (h2 : runF (psK kvs) L r w d = some (w, d)) :
    ∀ n : Nat, frontW L (List.replicate (n + 1) r).flatten = w ∧ frontD (tfD kvs) L (List.replicate (n + 1) r).flatten = d
  | 0 => by
    have e : (List.replicate 1 r).flatten = r := by simp
    rw [e]
    exact run_all nd G W hL o h1
  | n + 1 => by
    obtain ⟨i1, i2⟩ := run_round nd G W hL o h1 h2 n
    have e : (List.replicate (n + 1 + 1) r).flatten = (List.replicate (n + 1) r).flatten ++ r := by
      rw [List.replicate_succ', List.flatten_append]
      simp
    rw [e]
    refine run_front nd G W hL (fun c hc => ?_) i1 i2 h2
    rcases List.mem_append.mp hc with h | h
    · obtain ⟨t, ht, hc⟩ := List.mem_flatten.mp h
      rw [(List.mem_replicate.mp ht).2] at hc
      exact o c hc
    · exact o c h
theorem wide_ps {kvs : List (Key × V)} (nd : (kvs.map (·.1)).Nodup) {L : Nat} (h : ((psK kvs).any fun q => decide (q.1.length = L)) = true) (k : ((psK kvs).all fun q => decide (q.1.length ≤ L)) = true) : Wide (tfD kvs) L := by
  constructor
  · obtain ⟨q, hq, e⟩ := List.any_eq_true.mp h
    exact ⟨sOf q.1, q.2, (ps_tf nd).mpr (by rw [cs_sOf]; exact hq), by rw [cs_sOf]; exact of_decide_eq_true e⟩
  · intro z p hz
    exact of_decide_eq_true (List.all_eq_true.mp k _ ((ps_tf nd).mp hz))
theorem over_ps {kvs : List (Key × V)} (nd : (kvs.map (·.1)).Nodup) {l : List Nat} (h : (l.all fun c => (psK kvs).any fun q => decide (q.1 = [c])) = true) : Over (tfD kvs) l := fun c hc => by
  obtain ⟨q, hq, e⟩ := List.any_eq_true.mp (List.all_eq_true.mp h c hc)
  exact ⟨q.2, (ps_tf nd).mpr (by
    show ([c], q.2) ∈ _
    rw [← of_decide_eq_true e]
    exact hq)⟩
end G
/-! sorted(d.items()) of a dict from texts to ints. -/
namespace G
open PySem PySem.W PySem.Spec PyProof.Rows
/-- the text that stands first in a tuple -/
def txK (h : Heap) (v : Value) : Str := DT.txOf (DT.seqAt0 h (DT.refOf (some v)))
def PairTI (h : Heap) (v : Value) (y : Str) (n : Int) : Prop := ∃ a t u, v = .ref a ∧ IsTup h a #[.str y t, .int n u]
theorem PairTI.tx {h : Heap} {v : Value} {y : Str} {n : Int} (x : PairTI h v y n) : txK h v = y := by
  obtain ⟨a, t, u, rfl, i⟩ := x
  have e := DT.seqAt0_of i
  unfold txK
  show DT.txOf (DT.seqAt0 h a) = y
  rw [e]
  rfl
theorem firstsTI {h : Heap} {M : Str → Int} : ∀ vs : List Value, (∀ v ∈ vs, ∃ y, PairTI h v y (M y)) → ∃ fs : List Value, KatTups h vs fs ∧ fs.length = vs.length ∧ ∀ f ∈ fs, ∃ y t, f = Value.str y t
  | [], _ => ⟨[], KatTups.nil, rfl, fun _ z => (List.not_mem_nil z).elim⟩
  | v :: r, x => by
    obtain ⟨fs, k, hl, hi⟩ := firstsTI r fun u hu => x u (List.mem_cons_of_mem _ hu)
    obtain ⟨y, a, t, u, rfl, ⟨o, ho, hc, n, hd⟩⟩ := x v List.mem_cons_self
    refine ⟨.str y t :: fs, KatTups.cons ho hc hd rfl k, congrArg (· + 1) hl, fun f hf => ?_⟩
    rcases List.mem_cons.mp hf with rfl | hf
    · exact ⟨y, t, rfl⟩
    · exact hi f hf
section
variable {prog : Program} {w : World} {A : Around} {E : Value → Shared → Prop} {s : Shared}
theorem kindTI {vs : List Value} {ρ : Str → Int} {M : Str → Int} (h2 : 2 ≤ vs.length) (x : ∀ v ∈ vs, ∃ y, PairTI s.heap v y (M y))
    (hρ : ∀ v ∈ vs, ∀ u ∈ vs, decide ((txK s.heap v).cps.toList < (txK s.heap u).cps.toList) = decide (ρ (txK s.heap v) < ρ (txK s.heap u))) (Q : SortKind → Shared → Prop)
    (h : ∀ κ, _root_.TS.Cmp prog w A s κ (pairsOf vs) (fun v => ρ (txK s.heap v)) → Q κ s) : wpAny (model prog w) A (keyKind' vs.toArray) Q E s := by
  obtain ⟨fs, k, hl, hi⟩ := firstsTI vs x
  refine kat_kind (T := Value.type "str") k (by omega) (fun f hf => ?_) rfl (h _ ?_)
  · obtain ⟨y, t, rfl⟩ := hi f hf
    exact .now
  · have hb : (Value.type "str" != Value.type "tuple") = true := by first | rfl | decide | simp
    rw [hb]
    intro p q hp hq Q' E' hQ
    rw [pairsOf_toList] at hp hq
    have mp := (mem_zip_self hp).2
    have mq := (mem_zip_self hq).2
    obtain ⟨y, py⟩ := x _ mp
    obtain ⟨z, pz⟩ := x _ mq
    have hQ1 : Q' (decide (ρ (txK s.heap p.1) < ρ (txK s.heap q.1))) s := hQ
    rw [← hρ _ mp _ mq, py.tx, pz.tx] at hQ1
    obtain ⟨a, t, u, e1, ⟨o, ho, _, n, hd⟩⟩ := py
    obtain ⟨b, t', u', e2, ⟨o', ho', _, n', hd'⟩⟩ := pz
    rw [e1, e2]
    refine kat_lt ho hd ho' hd' ?_
    show KatLex prog w A true false Q' [(Value.str y t, Value.str z t'), (Value.int (M y) u, Value.int (M z) u')] 0 s
    refine kat_cons (SeqAt.EqAt.str_str y t z t' _ _ _ _ ?_)
    refine kat_go (fun e0 => ?_) (fun e0 => ?_)
    · have e : y = z := by simpa using e0
      subst e
      have irr : decide (y.cps.toList < y.cps.toList) = false := decide_eq_false (List.lt_irrefl _)
      rw [irr] at hQ1
      refine kat_yes (kat_cons (SeqAt.EqAt.int_int (M y) u (M y) u' _ _ _ _ ?_))
      refine kat_go (fun _ => kat_yes (kat_nil hQ1)) (fun e1' => ?_)
      simp at e1'
    · refine kat_no ?_
      show wpAny _ _ (oneLt' true _ _) _ _ _
      exact oneLt_str hQ1
end
/-! ### the rank of a text among some -/
def rankOf (ks : List Str) (y : Str) : Int := (ks.countP fun k => decide (cs k < cs y) : Nat)
theorem countP_le {α : Type} {p q : α → Bool} : ∀ {l : List α}, (∀ a ∈ l, p a = true → q a = true) → l.countP p ≤ l.countP q
  | [], _ => Nat.le_refl _
  | a :: r, h => by
    have ih := countP_le (l := r) fun b hb => h b (List.mem_cons_of_mem _ hb)
    rw [List.countP_cons, List.countP_cons]
    have := h a List.mem_cons_self
    by_cases e : p a = true
    · rw [if_pos e, if_pos (this e)]
      omega
    · rw [if_neg e]
      split <;> omega
theorem countP_lt {α : Type} {p q : α → Bool} {x : α} : ∀ {l : List α}, (∀ a ∈ l, p a = true → q a = true) → x ∈ l → p x = false → q x = true → l.countP p < l.countP q
  | [], _, hx, _, _ => (List.not_mem_nil hx).elim
  | a :: r, h, hx, h1, h2 => by
    have hr : ∀ b ∈ r, p b = true → q b = true := fun b hb => h b (List.mem_cons_of_mem _ hb)
    rw [List.countP_cons, List.countP_cons]
    rcases List.mem_cons.mp hx with rfl | hx
    · have ih := countP_le hr
      rw [if_neg (by rw [h1]; exact Bool.false_ne_true), if_pos h2]
      omega
    · have ih := countP_lt hr hx h1 h2
      have := h a List.mem_cons_self
      by_cases e : p a = true
      · rw [if_pos e, if_pos (this e)]
        omega
      · rw [if_neg e]
        split <;> omega
theorem rank_lt {ks : List Str} {y z : Str} (hy : y ∈ ks) (hz : z ∈ ks) : decide (cs y < cs z) = decide (rankOf ks y < rankOf ks z) := by
  unfold rankOf
  by_cases h : cs y < cs z
  · have h1 := countP_lt (p := fun k => decide (cs k < cs y)) (q := fun k => decide (cs k < cs z)) (l := ks) (fun a _ ha => decide_eq_true (List.lt_trans (of_decide_eq_true ha) h)) hy (decide_eq_false (List.lt_irrefl _)) (decide_eq_true h)
    rw [decide_eq_true h, decide_eq_true (by omega)]
  · have h1 := countP_le (p := fun k => decide (cs k < cs z)) (q := fun k => decide (cs k < cs y)) (l := ks) fun a _ ha => by
      by_cases q : cs a < cs y
      · exact decide_eq_true q
      · exact absurd (List.lt_of_le_of_lt (List.not_lt.mp q) (of_decide_eq_true ha)) h
    rw [decide_eq_false h, decide_eq_false (by omega)]
theorem rank_le {ks : List Str} {y z : Str} (hy : y ∈ ks) (hz : z ∈ ks) (h : rankOf ks y ≤ rankOf ks z) : cs y ≤ cs z := by
  have h1 := rank_lt hz hy
  rw [decide_eq_false (by omega : ¬ rankOf ks z < rankOf ks y)] at h1
  exact List.not_lt.mp (of_decide_eq_false h1)
/-! ### the rule -/
theorem pairs_get {prog : Program} {w : World} {K : Type} [DecidableEq K] {knd : KeyKind prog w K} : ∀ {es : List DictEntry} {kvs : List (K × Value)} {j : Nat} {e : DictEntry}, Pairs knd es kvs → es[j]? = some e → ∃ kv, kvs[j]? = some kv ∧ knd.is kv.1 e.key = true ∧ e.val = kv.2
  | _, _, _, _, .nil, h => by simp at h
  | _, _, 0, _, .cons h1 h2 _, h => by
    cases h
    exact ⟨_, rfl, h1, h2⟩
  | _, _, j + 1, _, .cons _ _ t, h => pairs_get (j := j) t (by simpa using h)
theorem pairs_len {prog : Program} {w : World} {K : Type} [DecidableEq K] {knd : KeyKind prog w K} : ∀ {es : List DictEntry} {kvs : List (K × Value)}, Pairs knd es kvs → es.length = kvs.length
  | _, _, .nil => rfl
  | _, _, .cons _ _ t => congrArg (· + 1) (pairs_len t)
abbrev entS (e : Str × Int) : L2.Key × L2.V := (Sum.inr e.1, L2.V.int e.2)
/-- d.items(), d locked or not -/
theorem mt_itemsK {X : L2.Cx} : L2.MtR X "dict.items" (fun x xs H Q => ∃ d kvs, x = .ref d ∧ xs = [] ∧ L2.Rd H d (.dK kvs) ∧ ∀ r, H r = none → Q (.ref r) (L2.upd H r (L2.DX.itemsO r d))) := by
  intro pins s σ H x xs v us Q I rx rs h
  obtain ⟨d, kvs, rfl, rfl, hd, q⟩ := h
  cases rx
  cases rs
  obtain ⟨_, low, vs, _, o, es, ep, ho, hx, hdat, _⟩ := L2.dk_rd I.hok hd
  refine DT.callItems (es := es) (ep := ep) low ⟨o, ho, hx, hdat⟩ ?_
  exact ⟨.ref s.heap.objs.size, _, I.laid (t' := s.toks) (o := L2.DX.itemsO s.heap.objs.size d) (fun _ _ e => Heap.get?_push_of_some _ e) (Nat.le_refl _) (L2.DX.itemsO_ok (Heap.get?_push_size _ rfl)), rfl, q _ (I.hok.fresh (Nat.le_refl _))⟩
/-- sorted(d.items()), d from texts to ints -/
def rSortTI : List L2.V → L2.Hp → L2.VK → Prop := fun vs H Q => ∃ (p a : Addr) (ks : List (Str × Int)), vs = [.ref p] ∧ H p = some (L2.DX.itemsO p a) ∧ L2.Rd H a (.dK (ks.map entS)) ∧ (ks.map (·.1)).Nodup ∧ ks.length < 64 ∧
  ∀ (H' : L2.Hp) (l : Addr) (ps : List (Addr × Str × Int)), L2.Same H H' → (ps.map (·.2)).Perm ks → (ps.map (·.2)).Pairwise (fun e f => cs e.1 ≤ cs f.1) → H' l = some (.lst (ps.map fun z => L2.V.ref z.1)) → (∀ z ∈ ps, H' z.1 = some (.tup [.str z.2.1, .int z.2.2])) → Q (.ref l) H'
def valS (ks : List (Str × Int)) (y : Str) : Int := ((ks.find? fun e => decide (e.1 = y)).map (·.2)).getD 0
theorem valS_of : ∀ {ks : List (Str × Int)} {e : Str × Int}, (ks.map (·.1)).Nodup → e ∈ ks → valS ks e.1 = e.2
  | [], _, _, h => (List.not_mem_nil h).elim
  | a :: r, e, nd, h => by
    obtain ⟨n1, n2⟩ := List.nodup_cons.mp nd
    unfold valS
    rw [List.find?_cons]
    rcases List.mem_cons.mp h with rfl | h
    · rw [decide_eq_true rfl]
      rfl
    · have ne : ¬ a.1 = e.1 := fun q => n1 (by
      show a.1 ∈ _
      rw [q]
      exact List.mem_map.mpr ⟨e, h, rfl⟩)
      rw [decide_eq_false ne]
      exact valS_of n2 h
open L2 in
theorem cr_sortTI {X : Cx} (hc : X.calm = true) : CallR X (.builtin "sorted") rSortTI := by
  intro pins s σ H xs us Q I r h
  obtain ⟨p, a, ks, rfl, hp, ha, nk, h64, q⟩ := h
  obtain rfl := Vals.ref1 r
  have view : s.heap.IsItemsView p a := (show ObjOk X.prog X.w H s.heap p (DX.itemsO p a) from I.hok p _ hp).1
  obtain ⟨_, low, ws, kv, o, es, ep, ho, hx, hdat, _, prs, _⟩ := dk_rd I.hok ha
  have n1 : ks.length = ws.length := by
    have := Paired.length kv
    rwa [List.length_map] at this
  have n2 : es.size = ws.length := by
    have := pairs_len prs
    rwa [Array.length_toList] at this
  refine DT.sortedI (es := es) (ep := ep) (I.ok.hd hc) view ⟨o, ho, hx, hdat⟩ (by rw [sizeLine_eq]; omega) fun g tk as hk hlt hl hG => ?_
  have nas : as.length = ks.length := by omega
  have nd : as.Nodup := List.Pairwise.imp (fun h => Nat.ne_of_lt h) hG.rise
  have made : ∀ (j : Nat) (b : Addr), as[j]? = some b → ∃ (e : Str × Int) (t u : Tok), ks[j]? = some e ∧ g.get? b = some { cls := .type "tuple", data := .seq #[Value.str e.1 t, Value.int e.2 u] } := by
    intro j b hj
    obtain ⟨en, he, hg⟩ := hG.pairs j b hj
    obtain ⟨kw, hw, h1, h2⟩ := pairs_get (j := j) prs (by rw [Array.getElem?_toList]; exact he)
    obtain ⟨e0, he0, r1, r2⟩ := DX.pget kv hw
    rw [List.getElem?_map] at he0
    cases hkj : ks[j]? with
    | none =>
      rw [hkj] at he0
      cases he0
    | some e =>
      rw [hkj] at he0
      cases he0
      have rk : RelV (kV (Sum.inr e.1)) en.key := relV_key (show keyIs (Sum.inr e.1) en.key = true by rw [show (Sum.inr e.1 : L2.Key) = kw.1 from r1]; exact h1)
      obtain ⟨t, ek⟩ := rk
      have rv : RelV (V.int e.2) en.val := by
        rw [h2]
        exact r2
      obtain ⟨u, ev⟩ := rv
      refine ⟨e, t, u, rfl, ?_⟩
      rw [hg, ek, ev]
  -- the heap while the sort asks
  have lo : (g.push { cls := .type "list", data := .seq (as.map Value.ref).toArray }).get? g.objs.size = some (seqObj "list" (as.map Value.ref).toArray 0) := Heap.get?_push_size _ rfl
  have up : ∀ b o, g.get? b = some o → (g.push { cls := .type "list", data := .seq (as.map Value.ref).toArray }).get? b = some o := fun b o e => Heap.get?_push_of_some _ e
  have off : ∀ b o, g.get? b = some o → b ≠ g.objs.size := fun b o e => Nat.ne_of_lt (Heap.lt_size e)
  generalize g.push { cls := .type "list", data := .seq (as.map Value.ref).toArray } = m at lo up ⊢
  have pin : ∀ (j : Nat) (b : Addr), as[j]? = some b → ∃ e : Str × Int, ks[j]? = some e ∧ PairTI (_root_.TS.midHeap m g.objs.size (as.map Value.ref)) (.ref b) e.1 (valS ks e.1) := by
    intro j b hj
    obtain ⟨e, t, u, he, hg⟩ := made j b hj
    refine ⟨e, he, b, t, u, rfl, ⟨_, _root_.TS.midHeap_old (off _ _ hg) (up _ _ hg), rfl, 0, ?_⟩⟩
    rw [valS_of nk (List.mem_of_getElem? he)]
  have tx : ∀ (j : Nat) (b : Addr) (e : Str × Int), as[j]? = some b → ks[j]? = some e → txK (_root_.TS.midHeap m g.objs.size (as.map Value.ref)) (.ref b) = e.1 := by
    intro j b e hj he
    obtain ⟨e', he', hp'⟩ := pin j b hj
    rw [he] at he'
    cases he'
    exact hp'.tx
  have each : ∀ v ∈ as.map Value.ref, ∃ (j : Nat) (b : Addr) (e : Str × Int), v = .ref b ∧ as[j]? = some b ∧ ks[j]? = some e := by
    intro v hv
    obtain ⟨b, hb, rfl⟩ := List.mem_map.mp hv
    obtain ⟨j, hj⟩ := List.mem_iff_getElem?.mp hb
    obtain ⟨e, _, _, he, _⟩ := made j b hj
    exact ⟨j, b, e, rfl, hj, he⟩
  have inK : ∀ {j : Nat} {e : Str × Int}, ks[j]? = some e → e.1 ∈ ks.map (·.1) := fun h => List.mem_map.mpr ⟨_, List.mem_of_getElem? h, rfl⟩
  refine wpAny_call_entry PyProof.Rows.slot_list_sort ⟨_, lo, rfl⟩ PyProof.Rows.entry_list_sort (SK.plain_sort (s := { s with heap := m, toks := tk })
    (r := fun v => rankOf (ks.map (·.1)) (txK (_root_.TS.midHeap m g.objs.size (as.map Value.ref)) v)) lo (by rw [List.length_map]; omega) (fun two Qk hQk => ?_) fun ps out o1 o2 o3 => ⟨.none, rfl, ?_⟩) (PyProof.Rows.args_list_sort _)
  · refine kindTI (s := { s with heap := _root_.TS.midHeap m g.objs.size (as.map Value.ref), toks := tk }) (ρ := rankOf (ks.map (·.1))) (M := valS ks) two (fun v hv => ?_) (fun v hv u hu => ?_) Qk hQk
    · obtain ⟨j, b, e, rfl, hj, _⟩ := each v hv
      obtain ⟨e', _, hp'⟩ := pin j b hj
      exact ⟨e'.1, hp'⟩
    · obtain ⟨j, b, e, rfl, hj, he⟩ := each v hv
      obtain ⟨j', b', e', rfl, hj', he'⟩ := each u hu
      dsimp only
      rw [tx j b e hj he, tx j' b' e' hj' he']
      exact rank_lt (inK he) (inK he')
  · show EP X pins σ Q (.ref g.objs.size) { s with heap := sortedHeap m g.objs.size (as.map Value.ref) out, toks := tk }
    obtain ⟨zs, pz, ez⟩ := perm_lift (fun z : Addr × Str × Int => (Value.ref z.1, Value.ref z.1)) o2 (as.zip ks) (DX.zip_self Value.ref as ks nas)
    have idx : ∀ z ∈ zs, ∃ j : Nat, as[j]? = some z.1 ∧ ks[j]? = some z.2 := by
      intro z hz
      obtain ⟨j, hj⟩ := List.mem_iff_getElem?.mp (pz.mem_iff.mp hz)
      exact ⟨j, List.getElem?_zip_eq_some.mp hj⟩
    have eout : out.toList = zs.map fun z => Value.ref z.1 := by
      rw [o1, ← ez, List.map_map]
      rfl
    have perm : (zs.map (·.2)).Perm ks := by
      have e := pz.map (·.2)
      rwa [show (as.zip ks).map (·.2) = ks from List.map_snd_zip (by omega)] at e
    have srt : (zs.map (·.2)).Pairwise (fun e f => cs e.1 ≤ cs f.1) := by
      rw [← ez, List.pairwise_map] at o3
      rw [List.pairwise_map]
      refine List.Pairwise.imp_of_mem (fun {x y} hx hy h => ?_) o3
      obtain ⟨j, j1, j2⟩ := idx x hx
      obtain ⟨i, i1, i2⟩ := idx y hy
      dsimp only at h
      rw [tx j _ _ j1 j2, tx i _ _ i1 i2] at h
      exact rank_le (inK j2) (inK i2) h
    have keepM : ∀ b o, b ≠ g.objs.size → m.get? b = some o → (sortedHeap m g.objs.size (as.map Value.ref) out).get? b = some o := fun b o hb e => (PyProof.Rows.sortedHeap_old hb (Heap.lt_size e)).trans e
    have keepS : ∀ b o, s.heap.get? b = some o → (sortedHeap m g.objs.size (as.map Value.ref) out).get? b = some o := fun b o e => keepM b o (off _ _ (hk b o e)) (up _ _ (hk b o e))
    obtain ⟨ce, hce⟩ := PyProof.Rows.sortedHeap_at (vs := as.map Value.ref) (out := out) lo
    have J1 : Inv X pins σ H { s with heap := sortedHeap m g.objs.size (as.map Value.ref) out, toks := tk } := I.kept (t' := tk) keepS
    have free : H g.objs.size = none := I.hok.fresh (Nat.le_of_lt hlt)
    have zlen : (zs.map fun z => V.ref z.1).length ≤ sizeLine := by
      have e := perm.length_eq
      rw [List.length_map] at e
      rw [List.length_map, sizeLine_eq]
      omega
    have J2 : Inv X pins σ (upd H g.objs.size (.lst (zs.map fun z => V.ref z.1))) { s with heap := sortedHeap m g.objs.size (as.map Value.ref) out, toks := tk } :=
      J1.take (h' := sortedHeap m g.objs.size (as.map Value.ref) out) (t' := tk) (fun b ob _ e => e) (I.fpOk (Nat.le_of_lt hlt) free) ⟨zlen, out.toList, ce, by rw [eout]; exact vals_maps (fun z : Addr × Str × Int => V.ref z.1) (fun z => Value.ref z.1) zs fun _ _ => rfl, hce⟩
    obtain ⟨H2, J3, kp, tups⟩ := DX.takeT (P := fun b xs => ∃ (j : Nat) (e : Str × Int), as[j]? = some b ∧ ks[j]? = some e ∧ xs = [V.str e.1, V.int e.2]) I as _ J2 nd fun b hb => by
      obtain ⟨j, hj⟩ := List.mem_iff_getElem?.mp hb
      obtain ⟨e, t, u, he, hg⟩ := made j b hj
      have low' : s.heap.objs.size ≤ b := Nat.le_of_lt (hG.above b hb)
      refine ⟨low', ?_, [V.str e.1, V.int e.2], ⟨j, e, hj, he, rfl⟩, fun H3 => ⟨by show 2 ≤ sizeLine; decide, [Value.str e.1 t, Value.int e.2 u], .cons ⟨t, rfl⟩ (.cons ⟨u, rfl⟩ .nil), ⟨_, keepM _ _ (off _ _ hg) (up _ _ hg), rfl, 0, rfl⟩⟩⟩
      rw [upd_ne (off _ _ hg)]
      exact I.hok.fresh low'
    have same : Same H H2 := fun b o e => kp b o (by rw [upd_ne (ne_of_none e free)]; exact e)
    refine ⟨.ref g.objs.size, H2, J3, rfl, q H2 g.objs.size zs same perm srt (kp _ _ upd_same) fun z hz => ?_⟩
    obtain ⟨i, i1, i2⟩ := idx z hz
    obtain ⟨xs, ⟨j, e, j1, j2, rfl⟩, hH⟩ := tups z.1 (List.mem_of_getElem? i1)
    have eij : i = j := (List.getElem?_inj (List.getElem?_eq_some_iff.mp i1).1 nd).mp (i1.trans j1.symm)
    subst eij
    rw [i2] at j2
    cases j2
    exact hH
/-! ### repr of a dict from texts to ints -/
def dDict (ks : List (Str × Int)) : PyData := .dict (ks.map fun e => (PyData.str e.1, PyData.int e.2))
theorem reads_ks {prog : Program} {w : World} {h : Heap} : ∀ {ks : List (Str × Int)} {es : List DictEntry} {ws : List (L2.Key × Value)}, Pairs (L2.mixKind prog w) es ws → L2.KV (ks.map entS) ws →
    ReadsAll h (es.map (·.key)) (ks.map fun e => PyData.str e.1) [] ∧ ReadsAll h (es.map (·.val)) (ks.map fun e => PyData.int e.2) []
  | [], _, _, .nil, _ => ⟨.nil, .nil⟩
  | [], _, _, .cons _ _ _, kv => by cases kv
  | _ :: _, _, _, .nil, kv => by cases kv
  | e :: r, _, _, .cons h1 h2 t, kv => by
    cases kv with
    | cons hd tl =>
      obtain ⟨i1, i2⟩ := reads_ks (h := h) t tl
      obtain ⟨r1, r2⟩ := hd
      obtain ⟨tk, ek⟩ : L2.RelV (L2.kV (Sum.inr e.1)) _ := L2.relV_key (show L2.keyIs (Sum.inr e.1) _ = true by rw [show (Sum.inr e.1 : L2.Key) = _ from r1]; exact h1)
      obtain ⟨u, ev⟩ : L2.RelV (L2.V.int e.2) _ := by
        rw [← h2] at r2
        exact r2
      refine ⟨?_, ?_⟩
      · rw [List.map_cons, List.map_cons, ek]
        exact ReadsAll.cons (as := []) (bs := []) (.str _ _) i1
      · rw [List.map_cons, List.map_cons, ev]
        exact ReadsAll.cons (as := []) (bs := []) (.int _ _) i2
theorem depth_kv : ∀ ks : List (Str × Int), PyData.depthKv (ks.map fun e => (PyData.str e.1, PyData.int e.2)) = 0
  | [] => by simp [PyData.depthKv]
  | e :: r => by simp [PyData.depthKv, PyData.depth, depth_kv r]
theorem piled_le {n : Nat} : ∀ {ts : List Str}, (∀ t ∈ ts, t.length ≤ n) → piled ts ≤ ts.length * (n + 2)
  | [], _ => by simp [piled]
  | t :: r, h => by
    have h1 := h t List.mem_cons_self
    have h2 := piled_le (ts := r) fun u hu => h u (List.mem_cons_of_mem _ hu)
    have e : piled (t :: r) = t.length + 2 + piled r := by simp [piled]
    rw [e, List.length_cons, Nat.add_mul]
    omega
/-- a dict of pieces and prices may be shown -/
theorem show_dict {ks : List (Str × Int)} (hl : ks.length ≤ 100) (h : ∀ e ∈ ks, e.1.length ≤ 10 ∧ (∀ c ∈ cs e.1, c < 128) ∧ 0 ≤ e.2 ∧ e.2 ≤ 99) : (dDict ks).showable = true ∧ (dDict ks).shown.length ≤ sizeLine := by
  constructor
  · have : ∀ l : List (Str × Int), (∀ e ∈ l, 0 ≤ e.2 ∧ e.2 ≤ 99) → PyData.showableKv (l.map fun e => (PyData.str e.1, PyData.int e.2)) = true := by
      intro l hl
      induction l with
      | nil => simp [PyData.showableKv]
      | cons a r ih =>
        have h1 := hl a List.mem_cons_self
        have h2 : a.2.natAbs.log2 < 1920 := Nat.lt_of_lt_of_le (PySem.Flt.log2_lt_of (k := 7) (by decide) (by omega)) (by decide)
        simp [PyData.showableKv, PyData.showable, h2, ih fun e he => hl e (List.mem_cons_of_mem _ he)]
    unfold dDict
    simp only [PyData.showable]
    exact this ks fun e he => (h e he).2.2
  · have each : ∀ t ∈ PyData.shownKv (ks.map fun e => (PyData.str e.1, PyData.int e.2)), t.length ≤ 2100 := by
      intro t ht
      have gen : ∀ l : List (Str × Int), t ∈ PyData.shownKv (l.map fun e => (PyData.str e.1, PyData.int e.2)) → ∃ e ∈ l, t = reprText e.1 ++ ": " ++ toString e.2 := by
        intro l
        induction l with
        | nil => intro h; simp [PyData.shownKv] at h
        | cons a r ih =>
          intro h
          simp only [List.map_cons, PyData.shownKv, PyData.shown, List.mem_cons] at h
          rcases h with h | h
          · exact ⟨a, List.mem_cons_self, h⟩
          · obtain ⟨e, he, q⟩ := ih h
            exact ⟨e, List.mem_cons_of_mem _ he, q⟩
      obtain ⟨e, he, rfl⟩ := gen ks ht
      obtain ⟨l1, l2, l3, l4⟩ := h e he
      have r1 := StrLaws.reprText_len e.1 fun c hc => Nat.lt_of_lt_of_le (l2 c hc) (by decide)
      have r2 := int_text_len_1921 (i := e.2) (Nat.lt_of_lt_of_le (PySem.Flt.log2_lt_of (k := 7) (by decide) (by omega)) (by decide))
      have r3 : ((": " : String) : Str).length = 2 := by decide +kernel
      rw [strLen_append, strLen_append, r3]
      omega
    unfold dDict
    simp only [PyData.shown]
    unfold dictText
    rw [strLen_append, strLen_append]
    have c1 : (("{" : String) : Str).length = 1 := by decide +kernel
    have c2 : (("}" : String) : Str).length = 1 := by decide +kernel
    have c3 := piled_le each
    have c4 : (PyData.shownKv (ks.map fun e => (PyData.str e.1, PyData.int e.2))).length = ks.length := by
      generalize ks = l
      induction l with
      | nil => simp [PyData.shownKv]
      | cons a r ih => simp [PyData.shownKv, ih]
    rw [c4] at c3
    have c5 : (Str.join ", " (PyData.shownKv (ks.map fun e => (PyData.str e.1, PyData.int e.2)))).length ≤ piled (PyData.shownKv (ks.map fun e => (PyData.str e.1, PyData.int e.2))) := by
      by_cases q : PyData.shownKv (ks.map fun e => (PyData.str e.1, PyData.int e.2)) = []
      · rw [q]
        decide +kernel
      · have := join_length_add _ q
        omega
    have c6 : ks.length * (2100 + 2) ≤ 100 * 2102 := Nat.mul_le_mul_right _ hl
    rw [c1, c2]
    exact Nat.le_trans (by omega : _ ≤ 1000000) (by decide)
def rReprD : List L2.V → L2.Hp → L2.VK → Prop := fun xs H Q => ∃ a ks, xs = [.ref a] ∧ L2.Rd H a (.dK (ks.map entS)) ∧ (dDict ks).showable = true ∧ (dDict ks).shown.length ≤ sizeLine ∧ Q (.str (dDict ks).shown) H
theorem call_reprD {X : L2.Cx} (hg : X.A.guards = some []) (hu : X.A.units + 64 < cLine) : L2.CallR X (.builtin "repr") rReprD := by
  intro pins s σ H xs us Q I r h
  obtain ⟨a, ks, rfl, ha, hs, hz, q⟩ := h
  obtain rfl := L2.Vals.ref1 r
  obtain ⟨_, low, ws, kv, o, es, ep, ho, hx, hdat, _, prs, _⟩ := L2.dk_rd I.hok ha
  obtain ⟨k1, k2⟩ := reads_ks (h := s.heap) prs kv
  have rd : Reads s.heap (.ref a) (dDict ks) [a] := by
    refine Reads.dict (as := []) (bs := []) ho hx.1 hdat ?_ ?_
    · rw [List.map_map]
      exact k1
    · rw [List.map_map]
      exact k2
  have dep : (dDict ks).depth ≤ 10 := by
    unfold dDict
    simp only [PyData.depth, depth_kv]
    omega
  refine repr_of_reads' rd hs (fun _ hm => ?_) hg (by omega) (fun _ _ e => e) (fun h' u tk keeps => ⟨L2.V.str (dDict ks).shown, H, I.kept keeps, ⟨u, rfl⟩, q⟩) hz
  rw [List.mem_singleton.mp hm] at low
  simp at low
/-- dict(pairs) without double keys -/
theorem merge_nd : ∀ {more kvs : List (L2.Key × L2.V)}, ((kvs ++ more).map (·.1)).Nodup → L2.mergeK kvs more = kvs ++ more
  | [], kvs, _ => by rw [List.append_nil]; rfl
  | a :: r, kvs, h => by
    have no : L2.valV kvs a.1 = none := valV_none fun m => by
      rw [List.map_append, List.map_cons] at h
      exact (List.nodup_append.mp h).2.2 _ m _ List.mem_cons_self rfl
    show L2.mergeK (L2.putK kvs a.1 a.2) r = _
    rw [L2.putK_new _ no, merge_nd (by rw [List.append_assoc]; exact h), List.append_assoc]
    rfl
/-- two lists of pairs, both ascending by their texts, with the same pairs -/
theorem pairs_eq {xs ys : List (Str × Int)} (nd : (xs.map (·.1)).Nodup) (hx : xs.Pairwise fun e f => cs e.1 ≤ cs f.1) (hy : ys.Pairwise fun e f => cs e.1 ≤ cs f.1) (p : xs.Perm ys) : xs = ys := by
  refine p.eq_of_pairwise (fun a b ha hb h1 h2 => ?_) hx hy
  have e : a.1 = b.1 := str_ext (List.le_antisymm h1 h2)
  have hb' := p.mem_iff.mpr hb
  have v1 := valS_of nd ha
  have v2 := valS_of nd hb'
  rw [e] at v1
  exact Prod.ext e (v1.symm.trans v2)
theorem lift_ent : ∀ {kvs : List (L2.Key × L2.V)}, (∀ kv ∈ kvs, ∃ z p, kv = (Sum.inr z, L2.V.int p)) → ∃ ks : List (Str × Int), kvs = ks.map entS
  | [], _ => ⟨[], rfl⟩
  | kv :: r, h => by
    obtain ⟨z, p, rfl⟩ := h kv List.mem_cons_self
    obtain ⟨ks, rfl⟩ := lift_ent (kvs := r) fun x hx => h x (List.mem_cons_of_mem _ hx)
    exact ⟨(z, p) :: ks, rfl⟩
theorem keys_ent : ∀ ks : List (Str × Int), keyStrs (ks.map entS) = ks.map (·.1)
  | [] => rfl
  | e :: r => congrArg (e.1 :: ·) (keys_ent r)
theorem nd_ent {ks : List (Str × Int)} (nd : ((ks.map entS).map (·.1)).Nodup) : (ks.map (·.1)).Nodup := by
  have e : (ks.map entS).map (·.1) = (ks.map (·.1)).map (Sum.inr : Str → L2.Key) := by
    rw [List.map_map, List.map_map]
    rfl
  rw [e] at nd
  exact List.Pairwise.imp (fun h q => h (congrArg _ q)) (List.pairwise_map.mp nd)
theorem ps_perm {ks : List (Str × Int)} {ys : List Str} (al : ((ks.map entS).all fun kv => isPiece (L2.kV kv.1) && isPrice kv.2) = true) (nd : ((ks.map entS).map (·.1)).Nodup) (pm : ys.Perm (keyStrs (ks.map entS))) : (psOf (ks.map entS) ys).Perm ks := by
  rw [keys_ent] at pm
  have h1 := pm.map fun y => (y, priceIn (ks.map entS) y)
  refine h1.trans ?_
  rw [List.map_map]
  have h2 : ks.map ((fun y => (y, priceIn (ks.map entS) y)) ∘ (·.1)) = ks := by
    conv => rhs; rw [← List.map_id ks]
    refine List.map_congr_left fun e he => ?_
    have h3 := L2.val_nodup nd _ (List.mem_map.mpr ⟨e, he, rfl⟩)
    have hk : e.1 ∈ keyStrs (ks.map entS) := by
      rw [keys_ent]
      exact List.mem_map.mpr ⟨e, he, rfl⟩
    have h4 := (price_of_key al hk).1
    rw [show L2.valV (ks.map entS) (Sum.inr e.1) = some (L2.V.int e.2) from h3] at h4
    have h5 := L2.V.int.inj (Option.some.inj h4)
    show (e.1, priceIn (ks.map entS) e.1) = e
    rw [← h5]
  rw [h2]
theorem so_ps {kvs : List (L2.Key × L2.V)} {ys : List Str} (h : sortedS ys = true) : (psOf kvs ys).Pairwise fun e f => cs e.1 ≤ cs f.1 := List.pairwise_map.mpr (so_pw h)
theorem ps_keys {kvs : List (L2.Key × L2.V)} {ys : List Str} : (psOf kvs ys).map (·.1) = ys := by
  unfold psOf
  rw [List.map_map]
  exact List.map_id' ys
end G
/-! Own operators: in, ==, | & - of a class's instances, by the promise of the method. -/
namespace G
open PySem PySem.Spec PyProof.Rows L2
open L2 (St)
/-- the promise of a method that returns a truth -/
def backB (Q : VK) : VK := fun r H => ∃ b, r = .bl b ∧ Q (.bl b) H
def rInO (C : Addr) (sp : Sp) : R2 := fun x y H Q => ∃ a dx fs, y = .ref a ∧ H a = some (.ins C dx fs) ∧ sp [.ref a, x] H (backB Q) C8.E0
def rNotInO (C : Addr) (sp : Sp) : R2 := fun x y H Q => ∃ a dx fs, y = .ref a ∧ H a = some (.ins C dx fs) ∧ sp [.ref a, x] H (fun r H' => ∃ b, r = .bl b ∧ Q (.bl (!b)) H') C8.E0
section
variable {X : Cx} {k j : Nat} {C : Addr} {sp : Sp}
theorem met_run {m : Str} {pins : List (Addr × Obj)} {σ : L2.St} {H : Hp} {s : Shared} {Q : VK} {us : List Value} {vs : List V} (c : C8.Met X.prog X.w X.K X.mg X.base k C m sp []) (hr : Room j X.A) (hk : k ≤ j) (I : Inv X pins σ H s) (r : Vals vs us) (h : sp vs H Q C8.E0) :
    ∃ f : Addr, PySem.W.findIn X.K (.ref C) m = some (some (.ref f)) ∧ PySem.W.isFn X.K (.ref f) = true ∧ wpAny (model X.prog X.w) X.A (call (.ref f) us) (EP X pins σ Q) X.xe s := by
  obtain ⟨f, fd, ps, ds, hc, hm, F, b, d⟩ := c.ex
  refine ⟨f, hm.at_, hm.fn, ?_⟩
  have e : vs ++ ([] : List V) = vs := List.append_nil vs
  exact run_fn F (hr.mono hk) b d C8.pass0 I r (by rw [e]; exact h)
theorem op_inO (c : C8.Met X.prog X.w X.K X.mg X.base k C "__contains__" sp []) (hr : Room j X.A) (hk : k ≤ j) : OpR X (compareOp .In) (rInO C sp) := by
  intro pins s σ H x y v u Q I rx ry h
  obtain ⟨a, dx, fs, rfl, ha, q⟩ := h
  cases ry
  obtain ⟨mA, J, _⟩ := ins_get I.hok ha
  obtain ⟨od, J, _⟩ := J.look
  obtain ⟨m, hF⟩ := I.fr
  obtain ⟨f, h1, h2, h3⟩ := met_run (us := [.ref a, v]) (vs := [.ref a, x]) c hr hk I (.cons rfl (.cons rx .nil)) q
  refine PySem.W.in_K hF I.ok.mod.kin J h1 h2 (wpAny_mono h3 (fun r s' hq => ?_) fun _ _ e => e)
  obtain ⟨z, H', I', rz, b, rfl, q⟩ := hq
  cases rz
  exact wpAny_truthy_bool ⟨.bl b, H', I', rfl, q⟩
theorem op_notInO (c : C8.Met X.prog X.w X.K X.mg X.base k C "__contains__" sp []) (hr : Room j X.A) (hk : k ≤ j) : OpR X (compareOp .NotIn) (rNotInO C sp) := by
  intro pins s σ H x y v u Q I rx ry h
  obtain ⟨a, dx, fs, rfl, ha, q⟩ := h
  cases ry
  obtain ⟨mA, J, _⟩ := ins_get I.hok ha
  obtain ⟨od, J, _⟩ := J.look
  obtain ⟨m, hF⟩ := I.fr
  obtain ⟨f, h1, h2, h3⟩ := met_run (us := [.ref a, v]) (vs := [.ref a, x]) c hr hk I (.cons rfl (.cons rx .nil)) q
  refine PySem.W.notIn_K hF I.ok.mod.kin J h1 h2 (wpAny_mono h3 (fun r s' hq => ?_) fun _ _ e => e)
  obtain ⟨z, H', I', rz, b, rfl, q⟩ := hq
  cases rz
  exact wpAny_truthy_bool ⟨.bl (!b), H', I', rfl, q⟩
/-- == of two instances of one class -/
def rEqO (C : Addr) (sp : Sp) : R2 := fun x y H Q => ∃ a dx fs b dy gs, x = .ref a ∧ y = .ref b ∧ H a = some (.ins C dx fs) ∧ H b = some (.ins C dy gs) ∧ sp [.ref a, .ref b] H (backB Q) C8.E0
theorem op_eqO (c : C8.Met X.prog X.w X.K X.mg X.base k C "__eq__" sp []) (hr : Room j X.A) (hk : k ≤ j) (hu : X.A.units < cLine) : OpR X (compareOp .Eq) (rEqO C sp) := by
  intro pins s σ H x y v u Q I rx ry h
  obtain ⟨a, dx, fs, b, dy, gs, rfl, rfl, ha, hb, q⟩ := h
  cases rx
  cases ry
  obtain ⟨_, J, _⟩ := ins_get I.hok ha
  obtain ⟨_, J', _⟩ := ins_get I.hok hb
  obtain ⟨_, J, _⟩ := J.look
  obtain ⟨_, J', _⟩ := J'.look
  obtain ⟨m, hF⟩ := I.fr
  obtain ⟨f, h1, h2, h3⟩ := met_run (us := [.ref a, .ref b]) (vs := [.ref a, .ref b]) c hr hk I (.cons rfl (.cons rfl .nil)) q
  refine PySem.W.cmp_K (op := .Eq) (tb := .ref C) hu hF I.ok.mod.kin J J'.type (by simp [PySem.W.notFirst]) h1 h2 (wpAny_mono h3 (fun r s' hq => ?_) fun _ _ e => e)
  obtain ⟨z, H', I', rz, b', rfl, q⟩ := hq
  cases rz
  exact ⟨.bl b', H', I', rfl, q⟩
end
end G
/-! Needless pieces; books made of parts of books. -/
namespace G
open PySem PySem.Spec PyProof.Rows L2
/-! ### books by their signs -/
structure Sgs (kvs : List (Key × V)) (sg : List Nat) : Prop where
  ok : PrOk sg kvs
  n1 : 1 ≤ sg.length
  n4 : sg.length ≤ 4
  lt : ∀ c ∈ sg, lett c = true
  tf : ∀ c, (∃ q, tfD kvs (ch c) = some q) ↔ c ∈ sg
theorem sgs_of {kvs : List (Key × V)} (av : arePrices kvs = true) (nd : (kvs.map (·.1)).Nodup) : ∃ sg, Sgs kvs sg := by
  obtain ⟨⟨n1, n2⟩, al, n4, _⟩ := ap_parts av
  have tar := tar_of av nd
  have mem : ∀ c, c ∈ (((keyStrs kvs).filter fun z => decide ((cs z).length = 1)).map cs).flatten ↔ ch c ∈ keyStrs kvs := fun c => by
    rw [List.mem_flatten]
    constructor
    · rintro ⟨l, hl, hc⟩
      obtain ⟨z, hz, rfl⟩ := List.mem_map.mp hl
      obtain ⟨h1, h2⟩ := List.mem_filter.mp hz
      obtain ⟨d, rfl⟩ := G.one_sign (z := z) (by simpa using h2)
      have e : c = d := by simpa [cs] using hc
      rw [e]
      exact h1
    · intro h
      exact ⟨[c], List.mem_map.mpr ⟨ch c, List.mem_filter.mpr ⟨h, rfl⟩, rfl⟩, List.mem_cons_self⟩
  have len : (((keyStrs kvs).filter fun z => decide ((cs z).length = 1)).map cs).flatten.length = ((keyStrs kvs).filter fun z => decide ((cs z).length = 1)).length := by
    rw [List.length_flatten, List.map_map]
    have : ∀ l : List Str, (∀ z ∈ l, (cs z).length = 1) → (l.map (List.length ∘ cs)).sum = l.length := by
      intro l h
      induction l with
      | nil => rfl
      | cons a r ih =>
        rw [List.map_cons, List.sum_cons, ih fun z hz => h z (List.mem_cons_of_mem _ hz), List.length_cons]
        have := h a List.mem_cons_self
        show (cs a).length + _ = _
        omega
    exact this _ fun z hz => by simpa using (List.mem_filter.mp hz).2
  have tf : ∀ c, (∃ q, tfD kvs (ch c) = some q) ↔ c ∈ (((keyStrs kvs).filter fun z => decide ((cs z).length = 1)).map cs).flatten := fun c => by
    rw [mem, tf_key al]
  refine ⟨_, ⟨fun kv hkv => ?_, nd⟩, ?_, by rw [len]; exact n4, fun c hc => ?_, tf⟩
  · obtain ⟨z, p, rfl, hp⟩ := tar.mem kv hkv
    exact ⟨z, p, rfl, tar.good.len z p hp, fun c hc => (tf c).mp (tar.good.cov z p hp c hc), tar.good.pos z p hp⟩
  · cases kvs with
    | nil => simp at n1
    | cons a r =>
      obtain ⟨z, p, rfl, hp⟩ := tar.mem a List.mem_cons_self
      have h1 := (tar.good.len z p hp).1
      obtain ⟨c, hc⟩ : ∃ c, c ∈ cs z := by
        cases e : cs z with
        | nil =>
          rw [e] at h1
          simp at h1
        | cons c _ => exact ⟨c, List.mem_cons_self⟩
      exact List.length_pos_of_mem ((tf c).mp (tar.good.cov z p hp c hc))
  · exact (keyStrs_piece al (ch c) ((mem c).mp hc)).2.2 c (by simp [cs])
/-- some of a book's pieces, all signs among them -/
theorem ap_sub {kvs kvs' : List (Key × V)} (av : arePrices kvs = true) (nd : (kvs.map (·.1)).Nodup) (nd' : (kvs'.map (·.1)).Nodup) (sub : ∀ kv ∈ kvs', kv ∈ kvs) (one : ∀ c, (∃ q, tfD kvs (ch c) = some q) → ∃ q, tfD kvs' (ch c) = some q) (len : kvs'.length ≤ 12) :
    arePrices kvs' = true ∧ ∀ c, (∃ q, tfD kvs' (ch c) = some q) ↔ ∃ q, tfD kvs (ch c) = some q := by
  obtain ⟨sg, S⟩ := sgs_of av nd
  have P : PrOk sg kvs' := ⟨fun kv h => S.ok.mem kv (sub kv h), nd'⟩
  obtain ⟨h1, h2⟩ := P.right (fun c hc => by
    obtain ⟨q, hq⟩ := one c ((S.tf c).mpr hc)
    rw [tf_some.mp hq]
    rfl) S.lt S.n4 S.n1 len
  exact ⟨h1, fun c => by rw [h2 c, S.tf c]⟩
theorem tf_put {kvs : List (Key × V)} {z y : Str} {p : Int} : tfD (putK kvs (Sum.inr z) (.int p)) y = if y = z then some p else tfD kvs y := by
  unfold tfD
  rw [valV_put]
  by_cases h : y = z
  · subst h
    rw [if_pos rfl, if_pos rfl]
  · rw [if_neg (fun e => h (Sum.inr.inj e)), if_neg h]
/-- a further piece, or another price -/
theorem ap_put {kvs : List (Key × V)} {z : Str} {p : Int} (av : arePrices kvs = true) (nd : (kvs.map (·.1)).Nodup) (len : kvs.length ≤ 11) (lz : 1 ≤ (cs z).length ∧ (cs z).length ≤ 5) (ov : Over (tfD kvs) (cs z)) (hp : 1 ≤ p ∧ p ≤ 99) :
    arePrices (putK kvs (Sum.inr z) (.int p)) = true ∧ ((putK kvs (Sum.inr z) (.int p)).map (·.1)).Nodup := by
  obtain ⟨sg, S⟩ := sgs_of av nd
  have P : PrOk sg (putK kvs (Sum.inr z) (.int p)) := S.ok.put lz (fun c hc => (S.tf c).mp (ov c hc)) hp
  have h1 := put_len (kvs := kvs) (k := Sum.inr z) (v := .int p)
  refine ⟨(P.right (fun c hc => ?_) S.lt S.n4 S.n1 (by omega)).1, P.nd⟩
  rw [valV_put]
  split
  · rfl
  · obtain ⟨q, hq⟩ := (S.tf c).mpr hc
    rw [tf_some.mp hq]
    rfl
/-! ### needless pieces -/
def remF (F : Tf) (z : Str) : Tf := fun y => if y = z then none else F y
def Needless (F : Tf) (z : Str) : Prop := ∃ p, F z = some p ∧ 1 < (cs z).length ∧ lp (remF F z) (cs z) ≤ p
theorem rem_good {F : Tf} (G : Good F) {z : Str} (hz : 1 < (cs z).length) : Good (remF F z) := by
  have sub : ∀ {y p}, remF F z y = some p → F y = some p := fun {y p} h => by
    unfold remF at h
    split at h
    · cases h
    · exact h
  refine ⟨fun y p h => G.pos y p (sub h), fun y p h => G.len y p (sub h), fun y p h c hc => ?_⟩
  obtain ⟨q, hq⟩ := G.cov y p (sub h) c hc
  refine ⟨q, ?_⟩
  unfold remF
  rw [if_neg fun e => ?_]
  · exact hq
  · rw [← e] at hz
    exact absurd (show 1 < 1 from hz) (by decide)
theorem rem_over {F : Tf} {z : Str} {l : List Nat} (hz : 1 < (cs z).length) (o : Over F l) : Over (remF F z) l := fun c hc => by
  obtain ⟨q, hq⟩ := o c hc
  refine ⟨q, ?_⟩
  unfold remF
  rw [if_neg fun e => ?_]
  · exact hq
  · rw [← e] at hz
    exact absurd (show 1 < 1 from hz) (by decide)
/-! ### dict comprehensions with a test -/
section
variable {α : Type} {J : It} {G : Hp → Prop} {Y : Nat → Hp → V → Hp → Prop}
theorem dcsF (its : List α) (w : Walk J its.length G Y) (keep : α → Bool) (h : α → Key × V) (nd : (its.map fun a => (h a).1).Nodup) {g : TG} {tt : TT} {tk tv : TE} {vs : List Nat} {σ : L2.St} {H1 : Hp} {D : Addr} {Qd : Hp → Prop} (hD : H1 D = none) (hz : its.length ≤ 100000) (hG : ∀ H, Same H1 H → G H)
    (hs : ∀ i a x H H', its[i]? = some a → Same H1 H → Y i H x H' → ∀ (N : V → V → Hp → Prop) (M : Hp → Prop), (∀ H3, keep a = true → Same H H3 → N (kV (h a).1) (h a).2 H3) → (∀ H3, keep a = false → Same H H3 → M H3) →
      g x (wipe σ vs) H' fun σ2 H2 => wipe σ2 vs = wipe σ vs ∧ tt σ2 H2 fun b H3 => if b = true then tk σ2 H3 fun y H4 => tv σ2 H4 fun z H5 => N y z H5 else M H3)
    (hd : ∀ H, Same H1 H → H D = some (.dK ((its.filter keep).map h)) → Qd H) :
    ∃ W : Nat → Nat → Hp → Prop, (∃ m, W 0 m (upd H1 D (.dK []))) ∧ ∀ i m H, W i m H →
      (J.stop i H ∧ Qd H) ∨ (J.go i H ∧ ∃ Nx : Hp → Prop, (∀ H', Nx H' → ∃ m', m' < m ∧ W (i + 1) m' H') ∧ ∀ x H', J.yld i H x H' → g x (wipe σ vs) H' fun σ2 H2 => wipe σ2 vs = wipe σ vs ∧ tt σ2 H2 fun b H3 =>
        if b = true then tk σ2 H3 fun y H4 => tv σ2 H4 fun z H5 => ∃ kvs k, y = kV k ∧ H5 D = some (.dK kvs) ∧ kvs.length < sizeLine ∧ Nx (upd H5 D (.dK (putK kvs k z))) else Nx H3) := by
  refine ⟨fun i m H => m = its.length - i ∧ i ≤ its.length ∧ Same H1 H ∧ H D = some (.dK (((its.take i).filter keep).map h)), ⟨_, rfl, Nat.zero_le _, same_new hD, upd_same⟩, ?_⟩
  rintro i m H ⟨rfl, hi, s, e⟩
  by_cases hlt : i < its.length
  · obtain ⟨a, ha⟩ : ∃ a, its[i]? = some a := ⟨_, List.getElem?_eq_getElem hlt⟩
    refine .inr ⟨w.goes i H hlt (hG H s), fun H' => Same H1 H' ∧ H' D = some (.dK (((its.take (i + 1)).filter keep).map h)), fun H' q => ⟨its.length - (i + 1), by omega, rfl, hlt, q⟩, ?_⟩
    intro x H' y
    have e1 : its.take (i + 1) = its.take i ++ [a] := by
      rw [List.take_add_one, ha]
      rfl
    refine hs i a x H H' ha s (w.yields i H x H' hlt (hG H s) y) _ _ (fun H3 kp s3 => ⟨_, (h a).1, rfl, s3 _ _ e, ?_, fun b o q => ?_, ?_⟩) fun H3 kp s3 => ⟨s.trans s3, ?_⟩
    · have h1 := List.length_filter_le keep (its.take i)
      rw [List.length_take] at h1
      rw [List.length_map]
      exact Nat.lt_of_le_of_lt (by omega : _ ≤ 100000) (by decide)
    · rw [upd_ne (ne_of_none q hD)]
      exact s3 _ _ (s _ _ q)
    · have e2 : valV (((its.take i).filter keep).map h) (h a).1 = none := valV_none fun m => by
        rw [List.map_map] at m
        have nd' : ((its.take (i + 1)).map fun a => (h a).1).Nodup := nd.sublist ((List.take_sublist _ _).map _)
        rw [e1, List.map_append] at nd'
        obtain ⟨b, hb, eb⟩ := List.mem_map.mp m
        exact (List.nodup_append.mp nd').2.2 _ (List.mem_map.mpr ⟨b, (List.mem_filter.mp hb).1, eb⟩) _ (List.mem_singleton.mpr rfl) rfl
      rw [upd_same, putK_new _ e2, e1, List.filter_append, List.map_append]
      have : [a].filter keep = [a] := by simp [kp]
      rw [this]
      rfl
    · have : [a].filter keep = [] := by simp [kp]
      rw [e1, List.filter_append, this, List.append_nil]
      exact s3 _ _ e
  · have ei : i = its.length := by omega
    subst ei
    refine .inl ⟨w.stops H (hG H s), hd H s ?_⟩
    rw [e, List.take_length]
end
noncomputable def needB (kvs : List (Key × V)) (z : Str) : Bool := decide (1 < (cs z).length) && decide (lp (remF (tfD kvs) z) (cs z) ≤ priceIn kvs z)
def others (kvs : List (Key × V)) (ys : List Str) (z : Str) : List (Key × V) := (ys.filter fun y => !decide (y = z)).map fun y => (Sum.inr y, .int (priceIn kvs y))
theorem tf_others {kvs : List (Key × V)} {ys : List Str} {z : Str} (al : (kvs.all fun kv => isPiece (kV kv.1) && isPrice kv.2) = true) (pm : ys.Perm (keyStrs kvs)) : tfD (others kvs ys z) = remF (tfD kvs) z := by
  funext y
  have e := congrFun (tf_psOf al pm) y
  unfold tfD at e ⊢
  rw [kvOf_ps, val_fun] at e
  unfold others remF
  rw [val_fun]
  by_cases h : y = z
  · rw [if_pos h, if_neg (fun q => by simpa [h] using (List.mem_filter.mp q).2)]
  · rw [if_neg h]
    by_cases m : y ∈ ys
    · rw [if_pos m] at e
      rw [if_pos (List.mem_filter.mpr ⟨m, by simp [h]⟩)]
      exact e
    · rw [if_neg m] at e
      rw [if_neg fun q => m (List.mem_filter.mp q).1]
      exact e
theorem tar_others {kvs : List (Key × V)} {ys : List Str} {z : Str} (av : arePrices kvs = true) (pm : ys.Perm (keyStrs kvs)) (ndy : ys.Nodup) (len : ys.length ≤ 1000) (hz : 1 < (cs z).length) : Tar (others kvs ys z) := by
  obtain ⟨_, al, _, _⟩ := ap_parts av
  have e := tf_others (z := z) al pm
  refine ⟨by rw [e]; exact rem_good (good_of av) hz, fun kv hkv => ?_, ?_⟩
  · obtain ⟨y, hy, rfl⟩ := List.mem_map.mp hkv
    refine ⟨y, priceIn kvs y, rfl, ?_⟩
    unfold tfD others
    rw [val_fun, if_pos hy]
  · unfold others
    rw [List.length_map]
    exact Nat.le_trans (List.length_filter_le _ _) len
theorem ne_key {y z : Str} {b : Bool} (q : (!decide (V.str y = kV (Sum.inr z))) = b) : (!decide (y = z)) = b := by
  rw [← q]
  have e : decide (V.str y = kV (Sum.inr z)) = decide (y = z) := decide_eq_decide.mpr ⟨fun h => V.str.inj h, fun h => congrArg V.str h⟩
  rw [e]
def partK (kvs : List (Key × V)) (ys : List Str) (q : Str → Bool) : List (Key × V) := (ys.filter q).map fun y => (Sum.inr y, .int (priceIn kvs y))
theorem tf_part {kvs : List (Key × V)} {ys : List Str} {q : Str → Bool} (al : (kvs.all fun kv => isPiece (kV kv.1) && isPrice kv.2) = true) (pm : ys.Perm (keyStrs kvs)) (z : Str) : tfD (partK kvs ys q) z = if q z = true then tfD kvs z else none := by
  have e := congrFun (tf_psOf al pm) z
  unfold tfD at e ⊢
  rw [kvOf_ps, val_fun] at e
  unfold partK
  rw [val_fun]
  by_cases h : q z = true
  · rw [if_pos h]
    by_cases m : z ∈ ys
    · rw [if_pos m] at e
      rw [if_pos (List.mem_filter.mpr ⟨m, h⟩)]
      exact e
    · rw [if_neg m] at e
      rw [if_neg fun w => m (List.mem_filter.mp w).1]
      exact e
  · rw [if_neg h, if_neg fun w => h (List.mem_filter.mp w).2]
theorem part_book {kvs : List (Key × V)} {ys : List Str} {q : Str → Bool} (av : arePrices kvs = true) (nd : (kvs.map (·.1)).Nodup) (pm : ys.Perm (keyStrs kvs)) (one : ∀ c, (∃ p, tfD kvs (ch c) = some p) → q (ch c) = true) :
    arePrices (partK kvs ys q) = true ∧ ((partK kvs ys q).map (·.1)).Nodup := by
  obtain ⟨⟨_, n2⟩, al, _, _⟩ := ap_parts av
  have ndy : ys.Nodup := pm.nodup_iff.mpr (keys_nd al nd)
  have ly : ys.length ≤ 12 := by
    have h := congrArg List.length (keys_of al)
    rw [List.length_map, List.length_map] at h
    rw [pm.length_eq]
    omega
  have nd' : ((partK kvs ys q).map (·.1)).Nodup := by
    unfold partK
    rw [List.map_map]
    exact List.pairwise_map.mpr (List.Pairwise.imp (R := fun a b : Str => a ≠ b) (fun h e => h (Sum.inr.inj e)) (ndy.filter _))
  refine ⟨(ap_sub av nd nd' (fun kv hkv => ?_) (fun c hc => ?_) ?_).1, nd'⟩
  · obtain ⟨y, hy, rfl⟩ := List.mem_map.mp hkv
    exact valV_mem (price_of_key al (pm.mem_iff.mp (List.mem_filter.mp hy).1)).1
  · obtain ⟨p, hp⟩ := hc
    exact ⟨p, by rw [tf_part al pm, if_pos (one c ⟨p, hp⟩)]; exact hp⟩
  · unfold partK
    rw [List.length_map]
    exact Nat.le_trans (List.length_filter_le _ _) ly
theorem need_sign {F : Tf} {c : Nat} : ¬ Needless F (ch c) := fun ⟨_, _, h, _⟩ => absurd (show 1 < 1 from h) (by decide)
/-! ### promises -/
def spNeedIn (C : Addr) : Sp := fun vs H Q _ => ∃ b kvs, vs = [.ref b] ∧ Book1 C H b kvs ∧ ∀ p (zs : List Str) H', H p = none → H' p = some (.lst (zs.map V.str)) → (∀ z, z ∈ zs ↔ Needless (tfD kvs) z) → (zs.Pairwise (fun y z => cs y ≤ cs z) ∧ zs.Nodup) → Same H H' → Q (.ref p) H'
def spNeed (C : Addr) : Sp := fun vs H Q _ => ∃ b kvs, vs = [.ref b] ∧ Book1 C H b kvs ∧ ∀ p (zs : List Str) H', H p = none → H' p = some (.tup (zs.map V.str)) → (∀ z, z ∈ zs ↔ Needless (tfD kvs) z) → (zs.Pairwise (fun y z => cs y ≤ cs z) ∧ zs.Nodup) → Same H H' → Q (.ref p) H'
def spLeast (C : Addr) : Sp := fun vs H Q _ => ∃ b kvs, vs = [.ref b] ∧ Book1 C H b kvs ∧ ∀ p kvs' H', Book1 C H' p kvs' → (∀ z q, tfD kvs' z = some q ↔ tfD kvs z = some q ∧ ¬ Needless (tfD kvs) z) → Same H H' → Q (.ref p) H'
def spResult (C : Addr) : Sp := fun vs H Q _ => ∃ d kvs, vs = [.ref d] ∧ H d = some (.dK kvs) ∧ arePrices kvs = true ∧ (kvs.map (·.1)).Nodup ∧ ∀ p H', Book1 C H' p kvs → Same H H' → Q (.ref p) H'
def spWith (C : Addr) : Sp := fun vs H Q _ => ∃ b kvs z p, vs = [.ref b, .str z, .int p] ∧ Book1 C H b kvs ∧ kvs.length ≤ 11 ∧ (1 ≤ (cs z).length ∧ (cs z).length ≤ 5) ∧ Over (tfD kvs) (cs z) ∧ (1 ≤ p ∧ p ≤ 99) ∧
  ∀ b' kvs' H', Book1 C H' b' kvs' → (∀ y, tfD kvs' y = if y = z then some p else tfD kvs y) → kvs'.length ≤ kvs.length + 1 → Same H H' → Q (.ref b') H'
/-- own in, of a text -/
def spHasKey (C : Addr) : Sp := fun vs H Q _ => ∃ b kvs z, vs = [.ref b, .str z] ∧ Book1 C H b kvs ∧ z.length ≤ 8000 ∧ ∀ H', Same H H' → Q (.bl (tfD kvs z).isSome) H'
/-! ### name = {k: v for ..}, the name a local -/
section
variable {X : L2.Cx}
abbrev AllBlk (X : L2.Cx) (scope : Scope) (P : L2.Cx → Prop) : Prop := ∀ (s : Shared) (H : L2.Hp) (C : Addr) (cl : List (Str × Addr)) (fp : List Addr), P (X.blk s H scope (compEnvC scope cl C X.env) fp)
theorem ps_setDc {i : Nat} {y : Str} {py : Pos} {kx vx tg iter : Expr} {ifs : List Expr} {scope : Scope} {own : List (Str × Nat)} {pos spos : Pos} {wi : TI} {g : TG} {tt : TT} {tk tv : TE} (hc : X.calm = true) (hN : X.N.Nodup) (hy : X.N[i]? = some y) (hyl : X.env.scope.names.lookup y = some .local)
    (hsw : swapsWith (.DictComp kx vx [⟨tg, iter, ifs, 0⟩] scope pos) (some (.Name y py)) spos.line X.env = pure true) (hi : PI X tg iter wi) (ok : BlkOk X.N X.env.scope scope own)
    (hg : AllBlk X scope fun B => PG B tg g) (ht : AllBlk X scope fun B => PTs B ifs tt) (hk : AllBlk X scope fun B => PE B kx tk) (he : AllBlk X scope fun B => PE B vx tv)
    (hs : ∀ x, foldedSetIterable iter X.env x = pure x := by intro _; rfl) : PS X (.Assign [.Name y py] (.DictComp kx vx [⟨tg, iter, ifs, 0⟩] scope pos) spos) (tAsg (tDc wi g tt tk tv (own.map (·.2))) (gName i)) := by
  refine ⟨fun pins s σ H D I h => ?_⟩
  rw [exec_Assign_Name_used _ _ _ _ hsw]
  refine wpAny_bind (wpAny_standAt (wpAny_bind ?_))
  show wpAny _ X.A (do let _ ← comprehension (.DictComp kx vx [⟨tg, iter, ifs, 0⟩] scope pos) scope X.env (firstIterPos [⟨tg, iter, ifs, 0⟩] pos) newDict false (eval iter X.env) (some (assign (.Name y py) X.env))) _ _ s
  have h : tDc wi g tt tk tv (own.map (·.2)) σ H (fun x H1 => gName i x σ H1 D.nx) := h
  refine wpAny_bind (thn (dc_core (Qf := fun _ s' => SP X pins D .next s') hc hN I hi ok hg ht hk he hs h fun L C s' m H' I' q hn f => ?_) fun _ s' hq => wpAny_pure (wpAny_pure hq))
  show wpAny _ _ (assign (.Name y py) X.env (.ref L)) _ _ _
  refine wpAny_assign_Name (store_ok2 (v := V.ref L) I' hN hy (.inl hyl) rfl (fun s2 I2 ⟨a, sb, ha⟩ => ?_) (.inr hyl))
  obtain ⟨f0, f1, f2, f3, f4, f5⟩ := f
  have other : C ≠ a := by
    rcases ha with z | z
    · rw [z]
      exact f1
    · exact fun e => f4 y a z e.symm
  exact ⟨m, hn.sameBut sb other, fun h3 sb3 => ⟨_, H', I2.turned (t' := s2.toks) (fun b o hb e => (sb3.2 b hb).trans e) f0 f1 f3 f4 f5, q⟩⟩
theorem sw_trueD {kx vx : Expr} {gs : List Comprehension} {scope : Scope} {pos py : Pos} {y : Str} {l : Nat} {env : Env} (hk : env.scope.kind = .function) (hy : env.scope.names.lookup y = some .local) (hl : (py.line == pos.line) = true)
    (ha : (scope.names.any fun (n, k) => n == y && (k == .local || k == .cell)) = false) : swapsWith (.DictComp kx vx gs scope pos) (some (.Name y py)) l env = pure true := by
  have kind : env.kindOf y = some .local := hy
  have fn : env.blockKind = .function := by
    unfold Env.blockKind
    rw [hk]
    rfl
  unfold swapsWith
  simp only [fn, kind, ha, Expr.pos, hl]
  rfl
end
end G
/-! All cuts of a text, as lists of pieces. -/
namespace G
open PySem PySem.Spec PyProof.Rows L2
def IsCut (F : Tf) (l : List Nat) (c : List Str) : Prop := (∀ y ∈ c, ∃ p, F y = some p) ∧ (c.map cs).flatten = l
/-- a list of objects that are just the cuts -/
structure CutsAt (H : Hp) (F : Tf) (l : List Nat) (ws : List (Addr × List Str)) : Prop where
  at_ : ∀ w ∈ ws, H w.1 = some (.tup (w.2.map V.str))
  all : ∀ c, (∃ w ∈ ws, w.2 = c) ↔ IsCut F l c
  len : ws.length ≤ 2 ^ l.length
theorem CutsAt.same {H H' : Hp} {F : Tf} {l : List Nat} {ws : List (Addr × List Str)} (C : CutsAt H F l ws) (s : Same H H') : CutsAt H' F l ws := ⟨fun w hw => s _ _ (C.at_ w hw), C.all, C.len⟩
theorem cut_nil {F : Tf} (G : Good F) {c : List Str} : IsCut F [] c ↔ c = [] := by
  constructor
  · rintro ⟨h1, h2⟩
    cases c with
    | nil => rfl
    | cons y r =>
      obtain ⟨p, hp⟩ := h1 y List.mem_cons_self
      have h3 := (G.len y p hp).1
      have h4 := congrArg List.length h2
      rw [List.map_cons, List.flatten_cons, List.length_append] at h4
      have h5 : (cs y).length + (r.map cs).flatten.length = 0 := h4
      omega
  · rintro rfl
    exact ⟨fun _ h => (List.not_mem_nil h).elim, rfl⟩
/-- the cuts that end with a piece that begins ahead of s -/
def CutTo (F : Tf) (l : List Nat) (s : Nat) (c : List Str) : Prop := ∃ a y, a < s ∧ (∃ p, F y = some p) ∧ (cs y) = l.drop a ∧ ∃ d, IsCut F (l.take a) d ∧ c = d ++ [y]
theorem cut_to {F : Tf} (G : Good F) {l : List Nat} (ne : l ≠ []) {c : List Str} : CutTo F l l.length c ↔ IsCut F l c := by
  constructor
  · rintro ⟨a, y, ha, hy, e, d, ⟨h1, h2⟩, rfl⟩
    refine ⟨fun z hz => ?_, ?_⟩
    · rcases List.mem_append.mp hz with h | h
      · exact h1 z h
      · rw [List.mem_singleton.mp h]
        exact hy
    · rw [List.map_append, List.flatten_append, h2]
      show _ ++ [cs y].flatten = _
      rw [List.flatten_singleton, e, List.take_append_drop]
  · rintro ⟨h1, h2⟩
    have nc : c ≠ [] := fun q => ne (by rw [← h2, q]; rfl)
    obtain ⟨d, y, rfl⟩ : ∃ d y, c = d ++ [y] := ⟨c.dropLast, c.getLast nc, (List.dropLast_concat_getLast nc).symm⟩
    rw [List.map_append, List.flatten_append] at h2
    have h2' : (d.map cs).flatten ++ cs y = l := by
      rw [← h2]
      show _ = _ ++ [cs y].flatten
      rw [List.flatten_singleton]
    obtain ⟨p, hp⟩ := h1 y (List.mem_append_right _ List.mem_cons_self)
    have n1 := (G.len y p hp).1
    have e : l.length = (d.map cs).flatten.length + (cs y).length := by rw [← h2', List.length_append]
    refine ⟨(d.map cs).flatten.length, y, by omega, ⟨p, hp⟩, ?_, d, ⟨fun z hz => h1 z (List.mem_append_left _ hz), ?_⟩, rfl⟩
    · rw [← h2', List.drop_left]
    · rw [← h2', List.take_left]
theorem cut_zero {F : Tf} {l : List Nat} {c : List Str} : ¬ CutTo F l 0 c := fun ⟨_, _, h, _⟩ => absurd h (Nat.not_lt_zero _)
theorem cut_succ {F : Tf} {l : List Nat} {s : Nat} {c : List Str} : CutTo F l (s + 1) c ↔ CutTo F l s c ∨ ∃ y, (∃ p, F y = some p) ∧ cs y = l.drop s ∧ ∃ d, IsCut F (l.take s) d ∧ c = d ++ [y] := by
  constructor
  · rintro ⟨a, y, ha, r⟩
    rcases Nat.lt_or_ge a s with h | h
    · exact Or.inl ⟨a, y, h, r⟩
    · have e : a = s := by omega
      subst e
      exact Or.inr ⟨y, r⟩
  · rintro (⟨a, y, ha, r⟩ | ⟨y, r⟩)
    · exact ⟨a, y, by omega, r⟩
    · exact ⟨s, y, by omega, r⟩
def spCuts : Sp := fun vs H Q _ => ∃ d kvs z, vs = [.ref d, .str z] ∧ H d = some (.dK kvs) ∧ Tar kvs ∧ z.length ≤ 5 ∧
  ∀ p ws H', H' p = some (.lst (ws.map fun w : Addr × List Str => V.ref w.1)) → CutsAt H' (tfD kvs) (cs z) ws → Same H H' → Q (.ref p) H'
/-! ### the cheapest cut -/
def sumOf (F : Tf) (c : List Str) : Int := (c.map fun y => (F y).getD 0).sum
theorem fee_sum {F : Tf} : ∀ {c : Ps}, (∀ p ∈ c, F p.1 = some p.2) → sumOf F (c.map (·.1)) = fee c
  | [], _ => rfl
  | q :: r, h => by
    have h1 := h q List.mem_cons_self
    have ih := fee_sum (c := r) fun p hp => h p (List.mem_cons_of_mem _ hp)
    rw [fee_cons, ← ih]
    show ((F q.1).getD 0 :: (r.map (·.1)).map fun y => (F y).getD 0).sum = _
    rw [List.sum_cons, h1]
    rfl
theorem cut_iff {F : Tf} {l : List Nat} {d : List Str} : IsCut F l d ↔ ∃ c, Cut F l c ∧ c.map (·.1) = d := by
  constructor
  · rintro ⟨h1, h2⟩
    refine ⟨d.map fun y => (y, (F y).getD 0), ⟨fun p hp => ?_, ?_⟩, ?_⟩
    · obtain ⟨y, hy, rfl⟩ := List.mem_map.mp hp
      obtain ⟨q, hq⟩ := h1 y hy
      rw [hq]
      rfl
    · rw [List.map_map]
      exact h2
    · rw [List.map_map]
      exact List.map_id' d
  · rintro ⟨c, ⟨h1, h2⟩, rfl⟩
    refine ⟨fun y hy => ?_, ?_⟩
    · obtain ⟨p, hp, rfl⟩ := List.mem_map.mp hy
      exact ⟨p.2, h1 p hp⟩
    · rw [List.map_map]
      exact h2
/-- the least of all sums is the cheapest price -/
theorem cuts_min {F : Tf} {l : List Nat} {H : Hp} {ws : List (Addr × List Str)} (G : Good F) (o : Over F l) (C : CutsAt H F l ws) : 0 < (ws.map fun w => sumOf F w.2).length ∧ ∀ m, m ∈ ws.map (fun w => sumOf F w.2) → (∀ y ∈ ws.map (fun w => sumOf F w.2), m ≤ y) → m = lp F l := by
  have mem : ∀ c, Cut F l c → fee c ∈ ws.map fun w => sumOf F w.2 := fun c hc => by
    obtain ⟨w, hw, e⟩ := (C.all _).mpr (cut_iff.mpr ⟨c, hc, rfl⟩)
    exact List.mem_map.mpr ⟨w, hw, by rw [e, fee_sum hc.1]⟩
  constructor
  · obtain ⟨c, hc, _⟩ := lp_cut G o
    exact List.length_pos_of_mem (mem c hc)
  · intro m hm hle
    refine (lp_of ⟨?_, fun c hc => hle _ (mem c hc)⟩).symm
    obtain ⟨w, hw, rfl⟩ := List.mem_map.mp hm
    obtain ⟨c, hc, e⟩ := cut_iff.mp ((C.all w.2).mp ⟨w, hw, rfl⟩)
    exact ⟨c, hc, by rw [← e, fee_sum hc.1]⟩
theorem unpaired {α β : Type} {F : α → β → Prop} {as : List α} {bs : List β} (h : Paired F as bs) : ∃ ps : List (α × β), ps.map (·.1) = as ∧ ps.map (·.2) = bs ∧ ∀ p ∈ ps, F p.1 p.2 := by
  induction h with
  | nil => exact ⟨[], rfl, rfl, fun _ h => (List.not_mem_nil h).elim⟩
  | @cons a b as bs h t ih =>
    obtain ⟨ps, h1, h2, h3⟩ := ih
    refine ⟨(a, b) :: ps, by rw [List.map_cons, h1], by rw [List.map_cons, h2], fun p hp => ?_⟩
    rcases List.mem_cons.mp hp with rfl | hp
    · exact h
    · exact h3 p hp
def Upto (kv : List (Key × V)) (up : Int) : Prop := ∀ e ∈ kv, ∀ q, e.2 = V.int q → q ≤ up
theorem Upto.put {kv : List (Key × V)} {up : Int} (h : Upto kv up) {k : Key} {p : Int} (hp : p ≤ up) : Upto (putK kv k (.int p)) up := fun e he q eq => by
  rcases put_val_mem he with e1 | h1
  · subst e1
    have := V.int.inj eq
    omega
  · exact h e h1 q eq
/-- _law_prices of these laws -/
def spPrices6 (K : PySem.W.Frag) : Sp := fun vs H Q _ => ∃ (l sa : Addr) (sg : List Nat) (many : Nat) (up : Int) (n : Nat), vs = [.ref l, .ref sa, .int (many : Int), .int up] ∧ sa ≠ l ∧ SqL K H sa (sg.map chV) ∧ 1 ≤ sg.length ∧ sg.length ≤ 4 ∧ (∀ c ∈ sg, lett c = true) ∧
  many ≤ 8 ∧ 1 ≤ up ∧ up ≤ 99 ∧ Dice H l (n + 100) ∧
  ∀ (p : Addr) (kvs : List (Key × V)) H', H p = none → p ≠ l → H' p = some (.dK kvs) → arePrices kvs = true → (kvs.map (·.1)).Nodup → (∀ c, (∃ q, tfD kvs (ch c) = some q) ↔ c ∈ sg) → kvs.length ≤ sg.length + many → (∀ z q, tfD kvs z = some q → q ≤ up) → Kp l H H' → Dice H' l n → Q (.ref p) H'
theorem g_catA {X : L2.Cx} (K : PySem.W.Frag) (e : X.K = K := by rfl) : OpR X (binaryOp .Add) (rCatA K) := by
  subst e
  exact op_catA
theorem CutsAt.updL {H : Hp} {F : Tf} {l : List Nat} {ws : List (Addr × List Str)} {D : Addr} {ys : List V} {o : HO} (C : CutsAt H F l ws) (h : H D = some (.lst ys)) : CutsAt (upd H D o) F l ws :=
  ⟨fun w hw => by
    have n : w.1 ≠ D := fun e => by
      have := C.at_ w hw
      rw [e, h] at this
      cases this
    rw [upd_ne n]
    exact C.at_ w hw, C.all, C.len⟩
theorem isCut_len {F : Tf} (G : Good F) {l : List Nat} {d : List Str} (h : IsCut F l d) (hl : l.length ≤ 1000) : d.length ≤ 1000 := by
  obtain ⟨h1, h2⟩ := h
  have h3 := congrArg List.length h2
  rw [List.length_flatten, List.map_map] at h3
  have h4 : ∀ l : List Str, (∀ y ∈ l, ∃ p, F y = some p) → l.length ≤ (l.map (List.length ∘ cs)).sum := fun l hl => by
    induction l with
    | nil => exact Nat.le_refl _
    | cons y r ih =>
      obtain ⟨p', hp'⟩ := hl y List.mem_cons_self
      have := (G.len y p' hp').1
      have := ih fun x hx => hl x (List.mem_cons_of_mem _ hx)
      rw [List.map_cons, List.sum_cons, List.length_cons]
      show _ ≤ (cs y).length + _
      omega
  have := h4 d h1
  omega
theorem _root_.G.Dice.ne_of {H : Hp} {l a : Addr} {n : Nat} {kvs : List (Key × V)} (D : Dice H l n) (h : H a = some (.dK kvs)) : a ≠ l := fun e => by
  obtain ⟨_, _, _, h2, _⟩ := D
  rw [e, h2] at h
  cases h
end G
/-! What one further piece, or another price, changes. -/
namespace G
open PySem PySem.Spec PyProof.Rows L2
def putF (F : Tf) (w : Str) (p : Int) : Tf := fun y => if y = w then some p else F y
section
variable {F : Tf} {w : Str} {p : Int} {r : V}
theorem put_at_w : putF F w p w = some p := if_pos rfl
theorem put_ne {y : Str} (h : y ≠ w) : putF F w p y = F y := if_neg h
theorem rem_put (h0 : F w = none) : remF (putF F w p) w = F := by
  funext y
  unfold remF
  by_cases h : y = w
  · rw [if_pos h, h, h0]
  · rw [if_neg h, put_ne h]
theorem fwd_iff (G : Good F) : NoDear F (putF F w p) ↔ lp F (cs w) ≤ p := by
  constructor
  · intro h
    exact h w p put_at_w
  · intro h z q hz
    by_cases e : z = w
    · subst e
      rw [put_at_w] at hz
      have e := Option.some.inj hz
      omega
    · rw [put_ne e] at hz
      exact lp_piece G hz
theorem bwd_all (Gp : Good (putF F w p)) (h0 : F w = none) : NoDear (putF F w p) F := fun z q hz => by
  have e : z ≠ w := fun e => by
    rw [e, h0] at hz
    cases hz
  exact lp_piece Gp (by rw [put_ne e]; exact hz)
theorem need_iff (h0 : F w = none) (hw : 1 < (cs w).length) : Needless (putF F w p) w ↔ lp F (cs w) ≤ p := by
  unfold Needless
  rw [rem_put h0, put_at_w]
  constructor
  · rintro ⟨q, e, _, h⟩
    have := Option.some.inj e
    omega
  · intro h
    exact ⟨p, rfl, hw, h⟩
theorem dear_fwd (G : Good F) (d : DearR F (putF F w p) r) : r = if p < lp F (cs w) then .str w else .non := by
  rcases d with ⟨h1, h2⟩ | ⟨z, q, h1, h2, h3, _⟩
  · have := (fwd_iff G).mp h2
    rw [if_neg (by omega)]
    exact h1
  · have e : z = w := by
      by_cases e : z = w
      · exact e
      · rw [put_ne e] at h2
        have := lp_piece G h2
        omega
    subst e
    rw [put_at_w] at h2
    have e := Option.some.inj h2
    rw [if_pos (by omega)]
    exact h1
theorem dear_bwd (Gp : Good (putF F w p)) (h0 : F w = none) (d : DearR (putF F w p) F r) : r = .non := by
  rcases d with ⟨h1, h2⟩ | ⟨z, q, h1, h2, h3, _⟩
  · exact h1
  · have := bwd_all Gp h0 z q h2
    omega
/-- a sign is cut in one way -/
theorem lp_sign (G : Good F) {c : Nat} {q : Int} (h : F (ch c) = some q) : lp F [c] = q := by
  have o : Over F [c] := fun d hd => ⟨q, by rw [List.mem_singleton.mp hd]; exact h⟩
  obtain ⟨z, p, a, h1, h2, h3⟩ := lp_last G o (by simp)
  have n1 := (G.len z p h1).1
  have hl := congrArg List.length h2
  rw [List.length_append, List.length_singleton] at hl
  have ea : a = [] := List.length_eq_zero_iff.mp (by omega)
  subst ea
  have ez : z = ch c := str_ext h2.symm
  subst ez
  rw [h] at h1
  have := Option.some.inj h1
  rw [h3, lp_nil G]
  omega
theorem sign_fwd (G : Good F) {c : Nat} {q : Int} (h : F (ch c) = some q) : NoDear F (putF F (ch c) p) ↔ q ≤ p := by
  rw [fwd_iff G]
  show lp F [c] ≤ p ↔ _
  rw [lp_sign G h]
theorem put_back {c : Nat} {q : Int} (h : F (ch c) = some q) : putF (putF F (ch c) p) (ch c) q = F := by
  funext y
  by_cases e : y = ch c
  · rw [e, put_at_w, h]
  · rw [put_ne e, put_ne e]
theorem sign_bwd (Gp : Good (putF F (ch c) p)) {q : Int} (h : F (ch c) = some q) : NoDear (putF F (ch c) p) F ↔ p ≤ q := by
  have e := sign_fwd (F := putF F (ch c) p) (p := q) Gp put_at_w
  rwa [put_back h] at e
end
theorem lp_most {F : Tf} (G : Good F) {B : Int} (hb : ∀ z p, F z = some p → p ≤ B) : ∀ l, Over F l → lp F l ≤ B * (l.length : Int)
  | [], _ => by
    rw [lp_nil G]
    exact Int.le_of_eq (by simp)
  | c :: r, o => by
    have o1 : Over F [c] := fun d hd => o d (by rw [List.mem_singleton.mp hd]; exact List.mem_cons_self)
    have o2 : Over F r := fun d hd => o d (List.mem_cons_of_mem _ hd)
    obtain ⟨p, hp⟩ := o c List.mem_cons_self
    have h1 := lp_sign G hp
    have h2 := hb _ _ hp
    have h3 := lp_most G hb r o2
    have h4 : lp F (c :: r) ≤ lp F [c] + lp F r := lp_add G o1 o2
    rw [List.length_cons, Int.natCast_add, Int.mul_add]
    omega
theorem lp_pos {F : Tf} (G : Good F) {l : List Nat} (o : Over F l) (ne : l ≠ []) : 1 ≤ lp F l := by
  obtain ⟨z, p, a, h1, h2, h3⟩ := lp_last G o ne
  have oa : Over F a := fun c hc => o c (by rw [h2]; exact List.mem_append_left _ hc)
  obtain ⟨d, hd, e⟩ := lp_cut G oa
  have := fee_pos G d hd.1
  have := (G.pos z p h1).1
  omega
/-! ### lists of pairs -/
def dPairs (ks : List (Str × Int)) : PyData := .list (ks.map fun e => .tuple [.str e.1, .int e.2])
theorem dp_pairs {K : PySem.W.Frag} {H : Hp} : ∀ {ps : List (Addr × Str × Int)}, (∀ z ∈ ps, H z.1 = some (.tup [.str z.2.1, .int z.2.2])) → DpAll K H (ps.map fun z => V.ref z.1) ((ps.map (·.2)).map fun e => PyData.tuple [.str e.1, .int e.2])
  | [], _ => .nil
  | z :: r, h => .cons (.tup (SqT.of (h z List.mem_cons_self)) (.cons (.str _) (.cons (.int _) .nil))) (dp_pairs fun y hy => h y (List.mem_cons_of_mem _ hy))
theorem neD_same {K : PySem.W.Frag} {H : Hp} {x y : V} {d : PyData} {Q : VK} (hx : Dp K H x d) (hy : Dp K H y d) (s : SeqAt.shaped d = true) (q : Q (.bl false) H) : rNeD K x y H Q := by
  refine ⟨d, d, hx, hy, s, s, ?_⟩
  rw [SeqAt.eqv_refl _ (SeqAt.canLay_of_shaped s)]
  exact q
theorem shaped_pairs {ks : List (Str × Int)} (h : ∀ e ∈ ks, ∀ c ∈ cs e.1, lett c = true) : SeqAt.shaped (dPairs ks) = true := by
  have h1 : ∀ l : List (Str × Int), (∀ e ∈ l, ∀ c ∈ cs e.1, lett c = true) → PyData.canLayAll0 (l.map fun e => PyData.tuple [.str e.1, .int e.2]) = true := by
    intro l hl
    induction l with
    | nil => rfl
    | cons e r ih =>
      have hs := shaped_lstrs (zs := [e.1]) fun z hz => by
        rw [List.mem_singleton.mp hz]
        exact hl e List.mem_cons_self
      have hc := SeqAt.canLay_of_shaped hs
      have h2 : PyData.canLay0 (.str e.1) = true := by
        have h3 : (PyData.canLay0 (.str e.1) && true) = true := hc
        rwa [Bool.and_true] at h3
      show (PyData.canLay0 (.tuple [.str e.1, .int e.2]) && _) = true
      rw [ih fun x hx => hl x (List.mem_cons_of_mem _ hx), Bool.and_true]
      show (PyData.canLay0 (.str e.1) && (true && true)) = true
      rw [h2]
      rfl
  have h2 : ∀ l : List (Str × Int), PyData.depthAll (l.map fun e => PyData.tuple [.str e.1, .int e.2]) ≤ 2 := by
    intro l
    induction l with
    | nil => simp [PyData.depthAll]
    | cons e r ih =>
      simp only [List.map_cons, PyData.depthAll, PyData.depth]
      omega
  unfold SeqAt.shaped dPairs
  rw [Bool.and_eq_true, decide_eq_true_eq]
  refine ⟨h1 ks h, ?_⟩
  have := h2 ks
  simp only [PyData.depth]
  omega
/-- _law_prices_of -/
def spPricesOf (C : Addr) : Sp := fun vs H Q _ => ∃ b kvs, vs = [.ref b] ∧ Book1 C H b kvs ∧ ∀ p (ps : List (Addr × Str × Int)) ys H', ys.Perm (keyStrs kvs) → sortedS ys = true → ps.map (·.2) = psOf kvs ys → H' p = some (.lst (ps.map fun z => V.ref z.1)) → (∀ z ∈ ps, H' z.1 = some (.tup [.str z.2.1, .int z.2.2])) → Same H H' → Q (.ref p) H'
/-- what the laws' parts about one book promise -/
def spPart (ok : List (Key × V) → Str → Prop) : Sp := fun vs H Q _ => ∃ (l pd : Addr) (kvs : List (Key × V)) (w : Str) (n : Nat), vs = [.ref l, .ref pd, .str w] ∧ pd ≠ l ∧ H pd = some (.dK kvs) ∧ arePrices kvs = true ∧ (kvs.map (·.1)).Nodup ∧ ok kvs w ∧ Dice H l (n + 1) ∧ ∀ H', Kp l H H' → Dice H' l n → Q (.bl true) H'
def lessK (kvs : List (Key × V)) (w : Str) : List (Key × V) := kvs.filter fun kv => !decide (kv.1 = Sum.inr w)
theorem tf_less {kvs : List (Key × V)} {w : Str} : tfD (lessK kvs w) = remF (tfD kvs) w := by
  have h : ∀ (l : List (Key × V)) (y : Str), valV (lessK l w) (Sum.inr y) = if y = w then none else valV l (Sum.inr y) := by
    intro l y
    induction l with
    | nil =>
      show (none : Option V) = _
      split <;> rfl
    | cons a r ih =>
      by_cases e : a.1 = Sum.inr w
      · have e1 : lessK (a :: r) w = lessK r w := by
          unfold lessK
          rw [List.filter_cons, if_neg (by simp [e])]
        rw [e1, ih]
        by_cases q : y = w
        · rw [if_pos q, if_pos q]
        · rw [if_neg q, if_neg q]
          unfold valV
          rw [List.find?_cons, decide_eq_false (fun z => q (Sum.inr.inj (z.symm.trans e)))]
      · have e1 : lessK (a :: r) w = a :: lessK r w := by
          unfold lessK
          rw [List.filter_cons, if_pos (by simp [e])]
        rw [e1]
        by_cases z : a.1 = Sum.inr y
        · have q : y ≠ w := fun q => e (by rw [z, q])
          rw [if_neg q]
          unfold valV
          rw [List.find?_cons, List.find?_cons, decide_eq_true z]
        · have h1 : valV (a :: lessK r w) (Sum.inr y) = valV (lessK r w) (Sum.inr y) := by
            unfold valV
            rw [List.find?_cons, decide_eq_false z]
          have h2 : valV (a :: r) (Sum.inr y) = valV r (Sum.inr y) := by
            unfold valV
            rw [List.find?_cons, decide_eq_false z]
          rw [h1, h2, ih]
  funext y
  unfold tfD remF
  rw [h]
  by_cases q : y = w
  · rw [if_pos q, if_pos q]
  · rw [if_neg q, if_neg q]
theorem less_book {kvs : List (Key × V)} {w : Str} (av : arePrices kvs = true) (nd : (kvs.map (·.1)).Nodup) (hw : 1 < (cs w).length) : arePrices (lessK kvs w) = true ∧ ((lessK kvs w).map (·.1)).Nodup := by
  have nd' : ((lessK kvs w).map (·.1)).Nodup := nd.sublist (List.filter_sublist.map _)
  refine ⟨(ap_sub av nd nd' (fun kv h => (List.mem_filter.mp h).1) (fun c hc => ?_) (Nat.le_trans (List.length_filter_le _ _) (ap_parts av).1.2)).1, nd'⟩
  obtain ⟨q, hq⟩ := hc
  refine ⟨q, ?_⟩
  rw [tf_less]
  unfold remF
  rw [if_neg fun e => ?_]
  · exact hq
  · rw [← e] at hw
    exact absurd (show 1 < 1 from hw) (by decide)
theorem bool_iff {b : Bool} {P : Prop} [Decidable P] (h : b = true ↔ P) : b = decide P := by
  by_cases q : P
  · rw [decide_eq_true q, h.mpr q]
  · rw [decide_eq_false q]
    cases b with
    | false => rfl
    | true => exact absurd (h.mp rfl) q
/-- data of a list of truths, a text or None behind them -/
theorem repr_three {K : PySem.W.Frag} {H : Hp} {a : Addr} {b1 b2 : Bool} {x : V} {d : PyData} {Q : VK} (h : H a = some (.lst [.bl b1, .bl b2, x])) (hd : Dp K H x d) (s : Shw d 0 1000) (q : Q (.str (PyData.list [.bool b1, .bool b2, d]).shown) H) : rRepr K [.ref a] H Q := by
  have S : Shw (PyData.list [.bool b1, .bool b2, d]) 1 _ := shw_list (k := 0) (n := 1000) fun e he => by
    simp only [List.mem_cons, List.not_mem_nil, or_false] at he
    rcases he with rfl | rfl | rfl
    · exact (shw_bool b1).le (Nat.le_refl _) (by omega)
    · exact (shw_bool b2).le (Nat.le_refl _) (by omega)
    · exact s
  exact ⟨_, _, rfl, .lst (SqL.of h) (.cons (.bl b1) (.cons (.bl b2) (.cons hd .nil))), S.s, S.h, Nat.le_trans S.dp (by omega), Nat.le_trans S.len (fits_sz (by show _ ≤ 100000; simp)), q⟩
theorem shw_non6 : Shw PyData.none 0 1000 := ⟨by simp [PyData.showable], by simp [PyData.hasDict], by simp [PyData.depth], by simp only [PyData.shown]; decide +kernel⟩
theorem shw_word {z : Str} (h : z.length ≤ 5) (hc : ∀ c ∈ cs z, c < 16 ^ 8) : Shw (.str z) 0 1000 :=
  ⟨by simp [PyData.showable], by simp [PyData.hasDict], by simp [PyData.depth], by simp only [PyData.shown]; exact Nat.le_trans (StrLaws.reprText_len z hc) (by omega)⟩
theorem seq_if_join {tc : TT} {ta tb tr : TS} {D : Ends} {σ : L2.St} {H : Hp} (P : L2.St → Hp → Prop) (h : ∀ N : L2.St → Hp → Prop, (∀ σ' H', P σ' H' → N σ' H') → tIfS tc ta tb { D with nx := N } σ H) (k : ∀ σ' H', P σ' H' → tr D σ' H') : tSeq (tIfS tc ta tb) tr D σ H := h _ k
def longG : Key × V → Option Str := fun kv => match kv.1 with | .inr y => if 1 < y.length then some y else none | .inl _ => none
theorem long_mem {kvs : List (Key × V)} (T : Tar kvs) {z : Str} (h : z ∈ kvs.filterMap longG) : 1 < z.length ∧ ∃ q, tfD kvs z = some q := by
  obtain ⟨kv, hkv, e⟩ := List.mem_filterMap.mp h
  obtain ⟨y, q, rfl, hq⟩ := T.mem kv hkv
  have e' : (if 1 < y.length then some y else none) = some z := e
  split at e'
  · rename_i l
    cases e'
    exact ⟨l, q, hq⟩
  · cases e'
end G
/-! Cuts from the front: the pieces at a place, the prices of the rests, a cheapest cut; what cutbehind.cuts.cuts promises. -/
namespace G
open PySem PySem.Spec PyProof.Rows L2
section
variable {F : Tf} {l m : List Nat}
/-- the first piece of a cheapest cut -/
theorem lp_first (G : Good F) (o : Over F l) (ne : l ≠ []) : ∃ z p b, F z = some p ∧ l = cs z ++ b ∧ lp F l = p + lp F b := by
  obtain ⟨c, hc, e⟩ := lp_cut G o
  obtain ⟨q, d, rfl⟩ : ∃ q d, c = q :: d := by
    cases c with
    | nil => exact absurd hc.2.symm ne
    | cons q d => exact ⟨q, d, rfl⟩
  have hq := hc.1 q List.mem_cons_self
  have hl : l = cs q.1 ++ (d.map fun p => cs p.1).flatten := by
    rw [← hc.2, List.map_cons, List.flatten_cons]
  have hd : Cut F (d.map fun p => cs p.1).flatten d := ⟨fun p hp => hc.1 p (List.mem_cons_of_mem _ hp), rfl⟩
  have ob : Over F (d.map fun p => cs p.1).flatten := by
    rw [hl] at o
    exact o.right
  refine ⟨q.1, q.2, _, hq, hl, ?_⟩
  have h1 := lp_le G hd ob
  have h2 := lp_add G (G.cov _ _ hq) ob
  have h3 := lp_piece G hq
  rw [← hl] at h2
  rw [fee_cons] at e
  omega
theorem lp_pre (G : Good F) (o : Over F (cs z ++ b)) {p : Int} (h : F z = some p) : lp F (cs z ++ b) ≤ p + lp F b := by
  have h2 := lp_add G (G.cov _ _ h) o.right
  have h3 := lp_piece G h
  omega
/-- the piece of so many signs with which a row of signs begins -/
def headAt (F : Tf) (m : List Nat) (j : Nat) : Option Str := if (F (sOf (m.take (j + 1)))).isSome = true then some (sOf (m.take (j + 1))) else none
def headsK (F : Tf) (m : List Nat) (k : Nat) : List Str := (List.range (min k m.length)).filterMap (headAt F m)
/-- the pieces with which a row of signs begins, shorter ones first -/
def heads (F : Tf) (m : List Nat) : List Str := headsK F m 5
theorem headAt_some {j : Nat} {z : Str} : headAt F m j = some z ↔ (∃ p, F z = some p) ∧ z = sOf (m.take (j + 1)) := by
  unfold headAt
  split
  · rename_i h
    obtain ⟨p, hp⟩ := Option.isSome_iff_exists.mp h
    constructor
    · intro e
      have e := Option.some.inj e
      subst e
      exact ⟨⟨p, hp⟩, rfl⟩
    · rintro ⟨_, rfl⟩
      rfl
  · rename_i h
    constructor
    · intro e
      cases e
    · rintro ⟨⟨p, hp⟩, rfl⟩
      rw [hp] at h
      exact absurd rfl h
theorem heads_mem (G : Good F) {z : Str} : z ∈ heads F m ↔ ∃ p b, F z = some p ∧ m = cs z ++ b := by
  unfold heads headsK
  rw [List.mem_filterMap]
  constructor
  · rintro ⟨j, hj, e⟩
    obtain ⟨⟨p, hp⟩, rfl⟩ := headAt_some.mp e
    exact ⟨p, m.drop (j + 1), hp, by rw [cs_sOf, List.take_append_drop]⟩
  · rintro ⟨p, b, hp, e⟩
    obtain ⟨h1, h5⟩ := G.len z p hp
    have hm := congrArg List.length e
    rw [List.length_append] at hm
    refine ⟨(cs z).length - 1, List.mem_range.mpr (by omega), headAt_some.mpr ⟨⟨p, hp⟩, str_ext ?_⟩⟩
    rw [cs_sOf, e, show (cs z).length - 1 + 1 = (cs z).length by omega, List.take_left]
/-- that many signs are enough, if no piece is longer -/
theorem heads_long {k : Nat} (hk : ∀ z p, F z = some p → (cs z).length ≤ k) (h5 : k ≤ 5) : headsK F m k = heads F m := by
  unfold heads headsK
  have e : List.range (min 5 m.length) = List.range (min k m.length) ++ (List.range (min 5 m.length - min k m.length)).map (min k m.length + ·) := by
    rw [← List.range_add]
    congr 1
    omega
  rw [e, List.filterMap_append]
  have e2 : ((List.range (min 5 m.length - min k m.length)).map (min k m.length + ·)).filterMap (headAt F m) = [] := by
    rw [List.filterMap_eq_nil_iff]
    intro j hj
    obtain ⟨i, hi, rfl⟩ := List.mem_map.mp hj
    have hi := List.mem_range.mp hi
    cases e3 : headAt F m (min k m.length + i) with
    | none => rfl
    | some z =>
      obtain ⟨⟨p, hp⟩, rfl⟩ := headAt_some.mp e3
      have h := hk _ _ hp
      rw [cs_sOf, List.length_take] at h
      omega
  rw [e2, List.append_nil]
/-- the price of the cheapest cut of a row from the prices of its first pieces -/
noncomputable def frontCosts (F : Tf) (m : List Nat) : List Int := (heads F m).map fun z => (F z).getD 0 + lp F (m.drop (cs z).length)
theorem front_min (G : Good F) (o : Over F m) (ne : m ≠ []) : 0 < (frontCosts F m).length ∧ ∀ y ∈ frontCosts F m, (∀ x ∈ frontCosts F m, y ≤ x) → y = lp F m := by
  obtain ⟨z, p, b, hz, e, h⟩ := lp_first G o ne
  have dz : m.drop (cs z).length = b := by rw [e, List.drop_left]
  have hin : p + lp F b ∈ frontCosts F m := List.mem_map.mpr ⟨z, (heads_mem G).mpr ⟨p, b, hz, e⟩, by rw [hz, dz]; rfl⟩
  refine ⟨List.length_pos_of_mem hin, fun y hy hl => ?_⟩
  have h1 := hl _ hin
  obtain ⟨x, hx, rfl⟩ := List.mem_map.mp hy
  obtain ⟨p', b', hx', e'⟩ := (heads_mem G).mp hx
  have h2 := lp_pre G (z := x) (b := b') (by rw [← e']; exact o) hx'
  rw [← e'] at h2
  have dx : m.drop (cs x).length = b' := by rw [e', List.drop_left]
  rw [hx', dx] at h1 ⊢
  have h3 : (some p').getD 0 = p' := rfl
  rw [h3] at h1 ⊢
  omega
/-- the pieces with which a cheapest cut of a row begins -/
noncomputable def bests (F : Tf) (m : List Nat) : List Str := (heads F m).filter fun z => decide ((F z).getD 0 + lp F (m.drop (cs z).length) = lp F m)
theorem bests_mem (G : Good F) {z : Str} : z ∈ bests F m ↔ ∃ p b, F z = some p ∧ m = cs z ++ b ∧ p + lp F b = lp F m := by
  unfold bests
  rw [List.mem_filter, heads_mem G, decide_eq_true_eq]
  constructor
  · rintro ⟨⟨p, b, hp, e⟩, h⟩
    refine ⟨p, b, hp, e, ?_⟩
    rw [hp, e, List.drop_left] at h
    rw [e]
    exact h
  · rintro ⟨p, b, hp, e, h⟩
    refine ⟨⟨p, b, hp, e⟩, ?_⟩
    rw [hp, e, List.drop_left]
    rw [e] at h
    exact h
theorem bests_ne (G : Good F) (o : Over F m) (ne : m ≠ []) : bests F m ≠ [] := by
  obtain ⟨z, p, b, hz, e, h⟩ := lp_first G o ne
  exact List.ne_nil_of_mem ((bests_mem G).mpr ⟨p, b, hz, e, h.symm⟩)
end
/-- the prices of the rests from the place a on, 0 ahead of it -/
noncomputable def restV (F : Tf) (l : List Nat) (a : Nat) : List V := (List.range (l.length + 1)).map fun i => V.int (if a ≤ i then lp F (l.drop i) else 0)
theorem restV_len {F : Tf} {l : List Nat} {a : Nat} : (restV F l a).length = l.length + 1 := by simp [restV]
theorem restV_at {F : Tf} {l : List Nat} {a i : Nat} (h : i ≤ l.length) (ha : a ≤ i) : (restV F l a)[i]? = some (.int (lp F (l.drop i))) := by
  unfold restV
  rw [List.getElem?_map, List.getElem?_range (by omega)]
  show some (V.int (if a ≤ i then _ else _)) = _
  rw [if_pos ha]
theorem restV_set {F : Tf} {l : List Nat} {a : Nat} (h : a < l.length) : (restV F l (a + 1)).set a (.int (lp F (l.drop a))) = restV F l a := by
  refine List.ext_getElem? fun i => ?_
  rw [List.getElem?_set]
  unfold restV
  by_cases e : a = i
  · subst e
    rw [if_pos rfl, if_pos (by simp; omega), List.getElem?_map, List.getElem?_range (by omega)]
    show _ = some (V.int (if a ≤ a then _ else _))
    rw [if_pos (Nat.le_refl _)]
  · rw [if_neg e, List.getElem?_map, List.getElem?_map]
    by_cases hi : i < l.length + 1
    · rw [List.getElem?_range hi]
      show some (V.int (if a + 1 ≤ i then _ else _)) = some (V.int (if a ≤ i then _ else _))
      by_cases h2 : a + 1 ≤ i
      · rw [if_pos h2, if_pos (by omega)]
      · rw [if_neg h2, if_neg (by omega)]
    · rw [List.getElem?_eq_none (by simp; omega)]
      rfl
theorem restV_start {F : Tf} {l : List Nat} (G : Good F) : (List.replicate (l.length + 1) [V.int 0]).flatten = restV F l l.length := by
  unfold restV
  have e : (List.replicate (l.length + 1) [V.int 0]).flatten = List.replicate (l.length + 1) (V.int 0) := by
    induction l.length + 1 with
    | zero => rfl
    | succ k ih => rw [List.replicate_succ, List.replicate_succ, List.flatten_cons, ih]; rfl
  rw [e]
  refine List.ext_getElem? fun i => ?_
  rw [List.getElem?_map]
  by_cases hi : i < l.length + 1
  · rw [List.getElem?_range hi, List.getElem?_replicate, if_pos hi]
    show _ = some (V.int (if l.length ≤ i then _ else _))
    by_cases h : l.length ≤ i
    · rw [if_pos h, List.drop_eq_nil_of_le h, lp_nil G]
    · rw [if_neg h]
  · rw [List.getElem?_eq_none (by simp; omega), List.getElem?_eq_none (by simp; omega)]
    rfl
theorem fm_ifs {p : Str → Bool} : ∀ l : List Str, (l.filterMap fun y => if p y = true then some (V.str y) else none) = (l.filter p).map V.str
  | [] => rfl
  | y :: r => by
    have ih := fm_ifs (p := p) r
    cases h : p y with
    | true =>
      rw [List.filterMap_cons, List.filter_cons, h, if_pos rfl, if_pos rfl, ih]
      rfl
    | false =>
      rw [List.filterMap_cons, List.filter_cons, h, if_neg Bool.false_ne_true, if_neg Bool.false_ne_true, ih]
theorem heads_le {F : Tf} {m : List Nat} : (heads F m).length ≤ 5 := by
  unfold heads headsK
  refine Nat.le_trans (List.length_filterMap_le _ _) ?_
  rw [List.length_range]
  omega
/-! ### promises -/
/-- a book and a text over it -/
structure BT (C : Addr) (H : Hp) (b : Addr) (kvs : List (Key × V)) (z : Str) : Prop where
  bk : Book1 C H b kvs
  ov : Over (tfD kvs) (cs z)
  len : z.length ≤ 8000
theorem over_text {kvs : List (Key × V)} (av : arePrices kvs = true) {z : Str} (h : Over (tfD kvs) (cs z)) (hz : z.length ≤ 8000) : overB kvs z = true := by
  obtain ⟨_, al, _, _⟩ := ap_parts av
  refine overB_true (isText_of (by rw [cs_len]; exact hz) fun c hc => ?_) h
  obtain ⟨_, _, hl⟩ := keyStrs_piece al _ ((tf_key al).mpr (h c hc))
  exact hl c (by simp [cs])
theorem BT.over {C : Addr} {H : Hp} {b : Addr} {kvs : List (Key × V)} {z : Str} (B : BT C H b kvs z) : overB kvs z = true := over_text B.bk.av B.ov B.len
theorem BT.same {C : Addr} {H H' : Hp} {b : Addr} {kvs : List (Key × V)} {z : Str} (B : BT C H b kvs z) (s : Same H H') : BT C H' b kvs z := ⟨B.bk.same s, B.ov, B.len⟩
def spPriceIn (C : Addr) : Sp := fun vs H Q _ => ∃ b kvs z, vs = [.ref b, .str z] ∧ BT C H b kvs z ∧ ∀ H', Same H H' → Q (.int (lp (tfD kvs) (cs z))) H'
def spPiecesAt (C : Addr) : Sp := fun vs H Q _ => ∃ (b : Addr) (kvs : List (Key × V)) (z : Str) (a : Nat), vs = [.ref b, .str z, .int (a : Int)] ∧ BT C H b kvs z ∧ a ≤ z.length ∧ ∀ p H', H p = none → H' p = some (.lst ((heads (tfD kvs) ((cs z).drop a)).map V.str)) → Same H H' → Q (.ref p) H'
def spRests (C : Addr) : Sp := fun vs H Q _ => ∃ b kvs z, vs = [.ref b, .str z] ∧ BT C H b kvs z ∧ ∀ p H', H p = none → H' p = some (.lst (restV (tfD kvs) (cs z) 0)) → Same H H' → Q (.ref p) H'
def spHarmlessAt (C : Addr) : Sp := fun vs H Q _ => ∃ (b : Addr) (kvs : List (Key × V)) (z : Str) (r : Addr) (a : Nat), vs = [.ref b, .str z, .ref r, .int (a : Int)] ∧ BT C H b kvs z ∧ H r = some (.lst (restV (tfD kvs) (cs z) 0)) ∧ a ≤ z.length ∧ ∀ p H', H p = none → H' p = some (.lst ((bests (tfD kvs) ((cs z).drop a)).map V.str)) → Same H H' → Q (.ref p) H'
/-- the steps: one list for each place -/
def StepsAt (H : Hp) (p : Addr) (f : Nat → List Str) (n : Nat) : Prop := ∃ ps : List Addr, ps.length = n ∧ H p = some (.lst (ps.map V.ref)) ∧ ∀ i q, ps[i]? = some q → H q = some (.lst ((f i).map V.str))
def spSteps (C : Addr) (g : Tf → List Nat → List Str) : Sp := fun vs H Q _ => ∃ b kvs z, vs = [.ref b, .str z] ∧ BT C H b kvs z ∧ ∀ p H', H p = none → StepsAt H' p (fun i => g (tfD kvs) ((cs z).drop i)) z.length → Same H H' → Q (.ref p) H'
/-- a cheapest cut -/
structure Cheap (F : Tf) (l : List Nat) (c : List Str) : Prop where
  all : ∀ y ∈ c, ∃ p, F y = some p
  flat : (c.map cs).flatten = l
  sum : (c.map fun y => (F y).getD 0).sum = lp F l
def spCheapest (C : Addr) : Sp := fun vs H Q _ => ∃ b kvs z, vs = [.ref b, .str z] ∧ BT C H b kvs z ∧ ∀ p c H', H p = none → Cheap (tfD kvs) (cs z) c → H' p = some (.tup (c.map V.str)) → Same H H' → Q (.ref p) H'
def spReqPair (C : Addr) : Sp := fun vs H Q _ => ∃ b kvs z, vs = [.ref b, .str z] ∧ BT C H b kvs z ∧ ∀ H', Same H H' → Q .non H'
/-! ### the laws' drawn books -/
/-- pairs of a text and a number, at their places -/
structure PrsAt (H : Hp) (prs : List (Addr × (Key × V))) : Prop where
  at_ : ∀ p ∈ prs, H p.1 = some (.tup [kV p.2.1, p.2.2])
  ent : ∀ p ∈ prs, ∃ e : Str × Int, p.2 = entS e ∧ ∀ c ∈ cs e.1, lett c = true
theorem dp_prs {K : PySem.W.Frag} {H : Hp} : ∀ {prs : List (Addr × (Key × V))}, PrsAt H prs → ∃ ks : List (Str × Int), DpAll K H (prs.map fun p => V.ref p.1) (ks.map fun e => PyData.tuple [.str e.1, .int e.2]) ∧ ks.length = prs.length ∧ ∀ e ∈ ks, ∀ c ∈ cs e.1, lett c = true
  | [], _ => ⟨[], .nil, rfl, fun _ h => (List.not_mem_nil h).elim⟩
  | p :: r, h => by
    obtain ⟨ks, h1, h2, h3⟩ := dp_prs (prs := r) ⟨fun q hq => h.at_ q (List.mem_cons_of_mem _ hq), fun q hq => h.ent q (List.mem_cons_of_mem _ hq)⟩
    obtain ⟨e, he, hl⟩ := h.ent p List.mem_cons_self
    have ha := h.at_ p List.mem_cons_self
    rw [he] at ha
    refine ⟨e :: ks, .cons (.tup (SqT.of ha) (.cons (.str _) (.cons (.int _) .nil))) h1, by rw [List.length_cons, List.length_cons, h2], fun x hx => ?_⟩
    rcases List.mem_cons.mp hx with rfl | hx
    · exact hl
    · exact h3 x hx
theorem rNe_nilP {K : PySem.W.Frag} {H : Hp} {a p : Addr} {prs : List (Addr × (Key × V))} {Q : VK} (h : H a = some (.lst (prs.map fun z => V.ref z.1))) (hz : PrsAt H prs) (hp : H p = some (.lst [])) (q : Q (.bl (!prs.isEmpty)) H) : rNeD K (.ref a) (.ref p) H Q := by
  obtain ⟨ks, h1, h2, h3⟩ := dp_prs (K := K) hz
  refine ⟨dPairs ks, .list [], .lst (SqL.of h) h1, .lst (SqL.of hp) .nil, shaped_pairs h3, by decide, ?_⟩
  have e : PyData.eqv (dPairs ks) (.list []) = prs.isEmpty := by
    cases ks with
    | nil =>
      cases prs with
      | nil => rfl
      | cons z r => cases h2
    | cons z r =>
      cases prs with
      | nil => cases h2
      | cons z r => simp [dPairs, PyData.eqv, PyData.eqvAll]
  rw [e]
  exact q
/-- _law_mixed: pairs in a drawn order -/
def spMixed : Sp := fun vs H Q _ => ∃ (l a : Addr) (ps : List (Addr × (Key × V))) (n : Nat), vs = [.ref l, .ref a] ∧ a ≠ l ∧ H a = some (.lst (ps.map fun z => V.ref z.1)) ∧ PrsAt H ps ∧ ps.length ≤ 1000 ∧ Dice H l (n + ps.length) ∧
  ∀ p (zs : List (Addr × (Key × V))) H', H p = none → zs.Perm ps → H' p = some (.lst (zs.map fun z => V.ref z.1)) → Kp l H H' → Dice H' l n → Q (.ref p) H'
/-- _law_letters -/
def spLetts : Sp := fun vs H Q _ => ∃ (l : Addr) (m : Nat) (n : Nat), vs = [.ref l, .int (m : Int)] ∧ 1 ≤ m ∧ m ≤ 26 ∧ Dice H l (n + (m + 1)) ∧
  ∀ p (sg : List Nat) H', H p = none → 1 ≤ sg.length → sg.length ≤ m → (∀ c ∈ sg, lett c = true) → H' p = some (.lst (sg.map chV)) → Kp l H H' → Dice H' l n → Q (.ref p) H'
/-- _law_book -/
def spLawBook : Sp := fun vs H Q _ => ∃ (l : Addr) (s lo mo tp : Nat) (n : Nat), vs = [.ref l, .int (s : Int), .int (lo : Int), .int (mo : Int), .int (tp : Int)] ∧ 1 ≤ s ∧ s ≤ 4 ∧ 2 ≤ lo ∧ lo ≤ 5 ∧ s + mo ≤ 12 ∧ 1 ≤ tp ∧ tp ≤ 99 ∧ Dice H l (n + 120) ∧
  ∀ (p : Addr) (kvs : List (Key × V)) H', H p = none → p ≠ l → H' p = some (.dK kvs) → arePrices kvs = true → (kvs.map (·.1)).Nodup → Kp l H H' → Dice H' l n → Q (.ref p) H'
/-- _law_signs -/
def spSigns : Sp := fun vs H Q _ => ∃ (d : Addr) (kvs : List (Key × V)), vs = [.ref d] ∧ H d = some (.dK kvs) ∧ arePrices kvs = true ∧ (kvs.map (·.1)).Nodup ∧
  ∀ p (sg : List Nat) H', H p = none → 1 ≤ sg.length → sg.length ≤ 4 → (∀ c, (∃ q, tfD kvs (ch c) = some q) ↔ c ∈ sg) → H' p = some (.lst (sg.map chV)) → Same H H' → Q (.ref p) H'
theorem lift_chs : ∀ {ys : List Str}, (∀ y ∈ ys, ∃ c, y = ch c) → ∃ sg : List Nat, ys = sg.map ch
  | [], _ => ⟨[], rfl⟩
  | y :: r, h => by
    obtain ⟨c, rfl⟩ := h y List.mem_cons_self
    obtain ⟨sg, rfl⟩ := lift_chs (ys := r) fun z hz => h z (List.mem_cons_of_mem _ hz)
    exact ⟨c :: sg, rfl⟩
theorem chs_strs' (l : List Nat) : l.map chV = (l.map ch).map V.str := by
  rw [List.map_map]
  rfl
/-- a book has a sign -/
theorem some_sign {kvs : List (Key × V)} (av : arePrices kvs = true) (nd : (kvs.map (·.1)).Nodup) : ∃ c q, tfD kvs (ch c) = some q := by
  obtain ⟨⟨n1, _⟩, al, _⟩ := ap_parts av
  have tar := tar_of av nd
  obtain ⟨kv, hkv⟩ : ∃ kv, kv ∈ kvs := by
    cases kvs with
    | nil => simp at n1
    | cons a r => exact ⟨a, List.mem_cons_self⟩
  obtain ⟨z, q, rfl, hq⟩ := tar.mem kv hkv
  have l1 := (tar.good.len z q hq).1
  obtain ⟨c, hc⟩ : ∃ c, c ∈ cs z := by
    cases e : cs z with
    | nil => rw [e] at l1; simp at l1
    | cons c r => exact ⟨c, List.mem_cons_self⟩
  obtain ⟨p, hp⟩ := tar.good.cov z q hq c hc
  exact ⟨c, p, hp⟩
/-- _law_here -/
def spHere : Sp := fun vs H Q _ => ∃ (d : Addr) (kvs : List (Key × V)) (z : Str) (a : Nat), vs = [.ref d, .str z, .int (a : Int)] ∧ H d = some (.dK kvs) ∧ Tar kvs ∧ z.length ≤ 10000 ∧ a ≤ z.length ∧
  ∀ p H', H p = none → H' p = some (.lst ((heads (tfD kvs) ((cs z).drop a)).map V.str)) → Same H H' → Q (.ref p) H'
/-- _law_sum -/
def spSumOf : Sp := fun vs H Q _ => ∃ (d t : Addr) (kvs : List (Key × V)) (c : List Str), vs = [.ref d, .ref t] ∧ H d = some (.dK kvs) ∧ Tar kvs ∧ H t = some (.tup (c.map V.str)) ∧ c.length ≤ 100000 ∧ (∀ y ∈ c, ∃ p, tfD kvs y = some p) ∧
  ∀ H', Same H H' → Q (.int (c.map fun y => (tfD kvs y).getD 0).sum) H'
/-- _law_long -/
def spLong (K : PySem.W.Frag) : Sp := fun vs H Q _ => ∃ (a l sa : Addr) (ns : List Int) (sg : List Nat) (e : Nat) (n : Nat), vs = [.ref a, .ref l, .ref sa, .int (e : Int)] ∧ (∀ H', Kp l H H' → SqL K H' a (ns.map V.int)) ∧ ns.length ≤ 63 ∧ sa ≠ l ∧ H sa = some (.lst (sg.map chV)) ∧ sg ≠ [] ∧ sg.length ≤ 1000 ∧ e ≤ 3 ∧ Dice H l (n + 20) ∧
  ∀ (zs : List Nat) H', zs.length ≤ 200 → (∀ c ∈ zs, c ∈ sg) → Kp l H H' → Dice H' l n → Q (.str (sOf zs)) H'
/-- _law_stranger -/
def spStranger : Sp := fun vs H Q _ => ∃ (d : Addr) (kvs : List (Key × V)), vs = [.ref d] ∧ H d = some (.dK kvs) ∧ arePrices kvs = true ∧ (kvs.map (·.1)).Nodup ∧ ∀ c H', lett c = true → tfD kvs (ch c) = none → Same H H' → Q (.str (ch c)) H'
/-- _law_are_pieces of a tuple of pieces -/
def spArePcs : Sp := fun vs H Q _ => ∃ (d t : Addr) (kvs : List (Key × V)) (c : List Str), vs = [.ref d, .ref t] ∧ H d = some (.dK kvs) ∧ Tar kvs ∧ H t = some (.tup (c.map V.str)) ∧ c.length ≤ 100000 ∧ (∀ y ∈ c, ∃ p, tfD kvs y = some p) ∧ ∀ H', Same H H' → Q (.bl true) H'
/-- _law_least of k11 -/
def spLeastOk : Sp := fun vs H Q _ => ∃ (d : Addr) (kvs : List (Key × V)) (z : Str), vs = [.ref d, .str z] ∧ H d = some (.dK kvs) ∧ arePrices kvs = true ∧ (kvs.map (·.1)).Nodup ∧ Over (tfD kvs) (cs z) ∧ z.length ≤ 1000 ∧ ∀ H', Same H H' → Q (.bl true) H'
theorem fm_ifc {p : Nat → Bool} : ∀ l : List Nat, (l.filterMap fun c => if p c = true then some (chV c) else none) = (l.filter p).map chV
  | [] => rfl
  | y :: r => by
    have ih := fm_ifc (p := p) r
    cases h : p y with
    | true =>
      rw [List.filterMap_cons, List.filter_cons, h, if_pos rfl, if_pos rfl, ih]
      rfl
    | false => rw [List.filterMap_cons, List.filter_cons, h, if_neg Bool.false_ne_true, if_neg Bool.false_ne_true, ih]
/-- eight letters are more than the signs of a book -/
theorem stranger_ex {kvs : List (Key × V)} (av : arePrices kvs = true) {l : List Nat} (nd : l.Nodup) (h8 : 5 ≤ l.length) : l.filter (fun c => !(tfD kvs (ch c)).isSome) ≠ [] := fun e => by
  obtain ⟨_, al, n4, _⟩ := ap_parts av
  rw [List.filter_eq_nil_iff] at e
  have h := nd_sub_len (l1 := l.map ch) (l2 := (keyStrs kvs).filter fun z => decide ((cs z).length = 1)) ?_ fun y hy => ?_
  · rw [List.length_map] at h
    omega
  · exact List.pairwise_map.mpr (nd.imp fun {a b} n e => n (by
      have := congrArg cs e
      simpa [cs] using this))
  · obtain ⟨c, hc, rfl⟩ := List.mem_map.mp hy
    have h1 := e c hc
    refine List.mem_filter.mpr ⟨(tf_key al).mpr (Option.isSome_iff_exists.mp ?_), by simp [cs]⟩
    cases e2 : (tfD kvs (ch c)).isSome with
    | true => rfl
    | false =>
      rw [e2] at h1
      exact absurd rfl h1
end G
/-! Defs that raise: calls of them, statements that are not reached, values that are no books and no texts. -/
namespace G
open PySem PySem.Spec PyProof.Rows L2
section
variable {X : Cx}
/-- what is not reached -/
theorem ps_any {st : Stmt} : PS X st (fun _ _ _ => False) := ⟨fun _ _ _ _ _ _ h => h.elim⟩
theorem pss_any {body : List Stmt} : PSs X body (fun _ _ _ => False) := ⟨fun _ _ _ _ _ _ h => h.elim⟩
end
/-- an own error class without __init__ over ValueError -/
structure ErrC (K : PySem.W.Frag) (mg : Str → Option Value) (x : Str) (C : Addr) : Prop where
  xc : PySem.W.excIn K C [.type "ValueError", .type "Exception", .type "BaseException", .type "object"] "ValueError.__new__" = true
  g : mg x = some (.ref C)
  k : PySem.W.keepIn K (.ref C) = true
  b : PySem.W.subIn K (.ref C) (.type "BaseException") = some true
  t : PySem.W.typeIn K (.ref C) = some (.type "type")
theorem ps_err {X : Cx} {W : WX} {C : Addr} {x m : Str} {j : Nat} {p p2 pos pos2 : Pos} (T : ErrC X.K X.mg x C) (hc : X.calm = true) (tk : Takes X W) (hg : Gl X x := by rfl) (hdb : (x == ("__debug__" : Str)) = false := by decide) :
    PS X (.Raise (some (.Call (.Name x p) [.Constant (.str m) j p2] [] pos)) none pos2) (fun _ σ H => W (.ref C) none σ H) :=
  ps_raise hc tk (pmk_own PySem.F.excBase_ValueError T.xc T.g T.k (raises_own T.b T.t) hg hdb)
/-! ### values of other kinds -/
inductive Odd (H : Hp) : V → Prop
  | non : Odd H .non
  | bl (b : Bool) : Odd H (.bl b)
  | int (i : Int) : Odd H (.int i)
  | lst {a : Addr} {xs : List V} (h : H a = some (.lst xs)) : Odd H (.ref a)
  | tup {a : Addr} {xs : List V} (h : H a = some (.tup xs)) : Odd H (.ref a)
  | dK {a : Addr} {kvs : List (Key × V)} (h : H a = some (.dK kvs)) : Odd H (.ref a)
theorem Odd.mono {H H' : Hp} {x : V} (o : Odd H x) (s : ∀ a u, H a = some u → (∀ ps, u ≠ .tbl ps) → H' a = some u) : Odd H' x := by
  cases o with
  | non => exact .non
  | bl b => exact .bl b
  | int i => exact .int i
  | lst h => exact .lst (s _ _ h fun _ e => nomatch e)
  | tup h => exact .tup (s _ _ h fun _ e => nomatch e)
  | dK h => exact .dK (s _ _ h fun _ e => nomatch e)
theorem Odd.same {H H' : Hp} {x : V} (o : Odd H x) (s : Same H H') : Odd H' x := o.mono fun a u e _ => s a u e
theorem Odd.tyd {K : PySem.W.Frag} {H : Hp} {x : V} (o : Odd H x) : Tyd K H x := by
  cases o with
  | non => exact tyd_non
  | bl b => exact tyd_bl b
  | int i => exact tyd_int i
  | lst h => exact tyd_lst h
  | tup h => exact tyd_tup h
  | dK h => exact tyd_dK h
theorem Odd.text {H : Hp} {x : V} (o : Odd H x) : isText x = false := by cases o <;> rfl
/-- a value of a known kind, texts among them -/
def Val (H : Hp) (x : V) : Prop := Odd H x ∨ ∃ z : Str, x = .str z ∧ z.length ≤ 100000
theorem Val.mono {H H' : Hp} {x : V} (o : Val H x) (s : ∀ a u, H a = some u → (∀ ps, u ≠ .tbl ps) → H' a = some u) : Val H' x := o.imp (fun o => o.mono s) id
theorem Val.same {H H' : Hp} {x : V} (o : Val H x) (s : Same H H') : Val H' x := o.mono fun a u e _ => s a u e
theorem Val.tyd {K : PySem.W.Frag} {H : Hp} {x : V} (o : Val H x) : Tyd K H x := by
  rcases o with o | ⟨z, rfl, _⟩
  · exact o.tyd
  · exact tyd_str z
theorem Val.sz {H : Hp} {x : V} (o : Val H x) : szV x := by
  rcases o with o | ⟨z, rfl, h⟩
  · cases o <;> exact True.intro
  · exact h
theorem Val.kp {H H' : Hp} {l : Addr} {x : V} (o : Val H x) (n : x ≠ .ref l) (k : Kp l H H') : Val H' x := by
  have ne : ∀ {a : Addr}, x = .ref a → a ≠ l := fun e q => n (by rw [e, q])
  rcases o with o | h
  · refine .inl ?_
    cases o with
    | non => exact .non
    | bl b => exact .bl b
    | int i => exact .int i
    | lst h => exact .lst (k _ _ h (ne rfl))
    | tup h => exact .tup (k _ _ h (ne rfl))
    | dK h => exact .dK (k _ _ h (ne rfl))
  · exact .inr h
/-- whether a value is a text over a book -/
def overV (kvs : List (Key × V)) : V → Bool | .str z => overB kvs z | _ => false
theorem overV_text {kvs : List (Key × V)} {x : V} (h : isText x = false) : overV kvs x = false := by
  cases x with
  | str z =>
    show overB kvs z = false
    unfold overB
    rw [h]
    rfl
  | _ => rfl
/-- the built-in kinds are no Book -/
structure NoC (K : PySem.W.Frag) (C : Addr) : Prop where
  non : PySem.W.kitOne K (.type "NoneType") (.ref C) = some false
  bl : PySem.W.kitOne K (.type "bool") (.ref C) = some false
  int : PySem.W.kitOne K (.type "int") (.ref C) = some false
  str : PySem.W.kitOne K (.type "str") (.ref C) = some false
  lst : PySem.W.kitOne K (.type "list") (.ref C) = some false
  tup : PySem.W.kitOne K (.type "tuple") (.ref C) = some false
  dct : PySem.W.kitOne K (.type "dict") (.ref C) = some false
theorem kit_refC {K : PySem.W.Frag} {C : Addr} {T : String} {l : List String} (hcl : (PySem.W.clsIn K C).isSome = true) (ht : PySem.W.typeIn K (.ref C) = some (.type "type")) (h : fastBuiltinMro T = some (l.map Value.type)) : PySem.W.kitOne K (.type T) (.ref C) = some false := by
  have e : (l.map Value.type).contains (.ref C) = false := by
    cases hc : (l.map Value.type).contains (.ref C) with
    | false => rfl
    | true =>
      obtain ⟨n, _, e⟩ := List.mem_map.mp (List.contains_iff_mem.mp hc)
      cases e
  unfold PySem.W.kitOne PySem.W.kitCls PySem.W.subIn
  rw [if_neg (fun q => by have := beq_iff_eq.mp q; cases this)]
  dsimp only
  rw [hcl, ht, if_pos (by rfl), h, Option.map_some, e]
theorem noC_of {K : PySem.W.Frag} {C : Addr} (hcl : (PySem.W.clsIn K C).isSome = true) (ht : PySem.W.typeIn K (.ref C) = some (.type "type")) : NoC K C :=
  ⟨kit_refC hcl ht rfl, kit_refC hcl ht rfl, kit_refC hcl ht rfl, kit_refC hcl ht rfl, kit_refC hcl ht rfl, kit_refC hcl ht rfl, kit_refC hcl ht rfl⟩
theorem call_notC {X : Cx} {C : Addr} (c : NoC X.K C) : CallR X (.builtin "isinstance") (fun xs H Q => ∃ x, xs = [x, .ref C] ∧ Val H x ∧ Q (.bl false) H) := by
  intro pins s σ H xs us Q I r h
  obtain ⟨x, rfl, hv, q⟩ := h
  obtain ⟨u, w', rfl, ru, rw'⟩ := vals2 r
  cases rw'
  have fin : ∀ tk, ∃ y H', Inv X pins σ H' { s with toks := tk } ∧ RelV y (Value.bool false) ∧ Q y H' := fun tk => ⟨.bl false, H, I.tok _, rfl, q⟩
  rcases hv with o | ⟨z, rfl, _⟩
  · cases o with
    | non => exact isinst_ok I ru .non c.non fin
    | bl b => exact isinst_ok I ru (.bl b) c.bl fin
    | int i => exact isinst_ok I ru (.int i) c.int fin
    | lst h => exact isinst_ok I ru (.lst h) c.lst fin
    | tup h => exact isinst_ok I ru (.tup h) c.tup fin
    | dK h => exact isinst_ok I ru (.dK h) c.dct fin
  · exact isinst_ok I ru (.str z) c.str fin
/-! ### promises -/
/-- is_text_over of any value -/
def spOverV (C : Addr) : Sp := fun vs H Q _ => ∃ b kvs x, vs = [.ref b, x] ∧ Book1 C H b kvs ∧ Val H x ∧ ∀ H', Same H H' → Q (.bl (overV kvs x)) H'
def spBadBook (CB : Addr) : Sp := fun vs H _ E => ∃ x, vs = [x] ∧ Val H x ∧ E (.ref CB) none H
def spBadText (C CT : Addr) : Sp := fun vs H _ E => ∃ b kvs x, vs = [.ref b, x] ∧ Book1 C H b kvs ∧ Val H x ∧ overV kvs x = false ∧ ∀ H', Same H H' → E (.ref CT) none H'
/-- a book and a text, one of them is none -/
def spBadPair (C CB CT : Addr) : Sp := fun vs H _ E => ∃ x y, vs = [x, y] ∧ ((Val H x ∧ E (.ref CB) none H) ∨ ∃ b kvs, x = .ref b ∧ Book1 C H b kvs ∧ Val H y ∧ overV kvs y = false ∧ ∀ H', Same H H' → E (.ref CT) none H')
/-- _law_bad_book -/
def spBadB : Sp := fun vs H Q _ => ∃ (l d : Addr) (kvs : List (Key × V)) (n : Nat), vs = [.ref l, .ref d] ∧ d ≠ l ∧ H d = some (.dK kvs) ∧ kvs.length ≤ 1000 ∧ Dice H l (n + 1) ∧ ∀ x H', Val H' x → x ≠ .ref l → Kp l H H' → Dice H' l n → Q x H'
/-- _law_bad_text -/
def spBadT : Sp := fun vs H Q _ => ∃ (l d : Addr) (kvs : List (Key × V)) (z : Str) (n : Nat), vs = [.ref l, .ref d, .str z] ∧ d ≠ l ∧ H d = some (.dK kvs) ∧ arePrices kvs = true ∧ (kvs.map (·.1)).Nodup ∧ z.length ≤ 1000 ∧ Dice H l (n + 1) ∧ ∀ x H', Val H' x → x ≠ .ref l → overV kvs x = false → Kp l H H' → Dice H' l n → Q x H'
/-- a def of two arguments of which the first is no book -/
def spBad2 (CB : Addr) : Sp := fun vs H _ E => ∃ x y, vs = [x, y] ∧ Val H x ∧ E (.ref CB) none H
theorem overB_no {kvs : List (Key × V)} {z : Str} {c : Nat} (hc : c ∈ cs z) (h : tfD kvs (ch c) = none) : overB kvs z = false := by
  cases e : overB kvs z with
  | false => rfl
  | true =>
    unfold overB at e
    rw [Bool.and_eq_true] at e
    have := List.all_eq_true.mp e.2 c hc
    rw [h] at this
    cases this
theorem overB_spoilt {kvs : List (Key × V)} {z : Str} {c : Nat} (hc : c ∈ cs z) (h : lett c = false) : overB kvs z = false := overV_text (x := .str z) (spoilt hc h).1
theorem overB_long {kvs : List (Key × V)} {z : Str} (h : 8000 < z.length) : overB kvs z = false := overV_text (x := .str z) (by
  show (decide ((cs z).length ≤ 8000) && _) = false
  rw [decide_eq_false (by rw [cs_len]; omega)]
  rfl)
theorem upper_no {c : Nat} (h : lett c = true) : isText (.str (Txt.upper (ch c))) = false ∧ (Txt.upper (ch c)).length ≤ 100000 := by
  have h0 : (97 ≤ c ∧ c ≤ 122) := by
    unfold lett at h
    rw [Bool.and_eq_true] at h
    exact ⟨of_decide_eq_true h.1, of_decide_eq_true h.2⟩
  have all : ((List.range 26).all fun i => !isText (.str (Txt.upper (ch (97 + i)))) && decide ((Txt.upper (ch (97 + i))).length ≤ 100000)) = true := by decide +kernel
  have := List.all_eq_true.mp all (c - 97) (List.mem_range.mpr (by omega))
  rw [show 97 + (c - 97) = c by omega, Bool.and_eq_true] at this
  exact ⟨by simpa using this.1, of_decide_eq_true this.2⟩
end G
/-! tuple(d.items()) -/
namespace G
open PySem PySem.Spec PyProof.Rows L2 PyProof
section
variable {prog : Program} {w : World} {A : Around} {E : Value → Shared → Prop} {s : Shared}
theorem code_tuple_items {r d : Addr} {es : Array DictEntry} {ep : Nat} {Q₁ : Value → Shared → Prop} (hh : A.handled = none) (hv : s.heap.IsItemsView r d) (hm : s.heap.DictRaw d es ep) (hn : es.size ≤ sizeLine)
    (h : ∀ (h' : Heap) (tk : Nat) (as : List Addr), (∀ b o, s.heap.get? b = some o → h'.get? b = some o) → as.length = es.size →
      Q₁ (.ref h'.objs.size) { s with heap := h'.push { cls := .type "tuple", data := .seq (as.map Value.ref).toArray }, toks := tk }) :
    codeAny (model prog w) A (.call (.builtin "tuple.__new__") ⟨[.type "tuple", .ref r], []⟩) (wants Q₁ E) s := by
  refine codeAny_of_tree ?_
  show wpAny _ A.in1 (do checkBuiltinCall "tuple.__new__" ⟨[.type "tuple", .ref r], []⟩; again (.builtin "tuple.__new__" ⟨[.type "tuple", .ref r], []⟩)) _ _ s
  refine wpAny_bind (wpAny_of_eq (F.newCall_tuple_1 _) (wpAny_pure ⟨plainId_quiet F.plain_tuple_new _, codeAny_builtin F.entry_tuple_new ?_⟩))
  rw [Around.under_plainId F.plain_tuple_new _]
  have hsub := PySem.sub_tuple_self
  have hinit := PySem.init_tuple_lookup
  have hmh := PySem.madeHere_tuple
  have hTI : s.TypeIs (.ref r) "dict_items" := hv.typeIs
  have hh1 : A.in1.handled = none := hh
  wp_walk using wpAny_typeOf hTI, PySem.W.dil_collect (A := A.in1) hh1 hv hm hn
  intro h' tk as hk hl _
  show wpAny _ _ (Builtin.Tuple.tupleExact (as.map Value.ref).toArray >>= fun v => ret v) _ _ _
  unfold Builtin.Tuple.tupleExact
  refine wpAny_bind (wpAny_newObj_type ?_ (by show (as.map Value.ref).toArray.size ≤ sizeLine; simp; omega))
  refine wpAny_pure ?_
  exact h h' tk as hk hl
theorem call_tuple_items {r d : Addr} {es : Array DictEntry} {ep : Nat} {Q : Value → Shared → Prop} (hh : A.handled = none) (hv : s.heap.IsItemsView r d) (hm : s.heap.DictRaw d es ep) (hn : es.size ≤ sizeLine)
    (hQ : ∀ (h' : Heap) (tk : Nat) (as : List Addr), (∀ b o, s.heap.get? b = some o → h'.get? b = some o) → as.length = es.size →
      Q (.ref h'.objs.size) { s with heap := h'.push { cls := .type "tuple", data := .seq (as.map Value.ref).toArray }, toks := tk }) :
    wpAny (model prog w) A (call (.type "tuple") [.ref r]) Q E s := by
  refine callType_codes (Q₁ := fun obj s₁ => s₁.TypeIs obj "tuple" ∧ Q obj s₁) F.called_tuple (F.typeCall_tuple_1 _) F.entry_object_init
    (code_tuple_items (A := A.in1) hh hv hm hn fun h' tk as hk hl => ⟨⟨_, Heap.get?_push_size _ rfl, rfl⟩, hQ h' tk as hk hl⟩) fun obj s₁ h₁ => ?_
  exact ⟨h₁.1, F.args_object_init_2 obj _, object_init_meets F.called_tuple.init.lookup F.called_tuple.made (by decide) prog w A.in1 _ s₁ ⟨h₁.1, rfl, h₁.2⟩⟩
end
/-- tuple(e.items()): the pairs stand somewhere -/
def tTupItems (te : TE) : TE := fun σ H Q => te σ H fun x H1 => ∃ (d : Addr) (kvs : List (Key × V)), x = .ref d ∧ H1 d = some (.dK kvs) ∧ ∀ (p : Addr) (as : List Addr), H1 p = none → as.length = kvs.length → Q (.ref p) (upd H1 p (.tup (as.map V.ref)))
section
variable {X : Cx} {e : Expr} {te : TE} {p apos cpos pos : Pos}
theorem pe_tupItems (hc : X.calm = true) (he : PE X e te) (hg : Gl X "tuple") (hm : X.mg "tuple" = none) (hv : bootBuiltins "tuple" = some (.type "tuple")) (hbase : attributeBase e "items" X.env (eval e X.env) = eval e X.env := by rfl) (hline : (apos.endLine == cpos.line) = true := by rfl)
    (hs : starEach [.Call (.Attribute e "items" apos) [] [] cpos] X.env = (false, eval (.Call (.Attribute e "items" apos) [] [] cpos) X.env) :: starEach [] X.env := by rfl) :
    PE X (.Call (.Name "tuple" p) [.Call (.Attribute e "items" apos) [] [] cpos] [] pos) (tTupItems te) := by
  refine ⟨fun pins s σ H Q I hq => ?_⟩
  refine wpAny_Call_Name_kw (ld_blt I hg hm hv ?_)
  refine PyProof.Rows.callWith_type1 ?_ hs rfl
  rw [hs]
  show wpAny _ _ (spliced ((false, eval (.Call (.Attribute e "items" apos) [] [] cpos) X.env) :: backTo pos (starEach [] X.env))) _ _ s
  refine Calls.spliced_cons ?_
  refine wpAny_Call_method (T := "dict") (id := "dict.items") hbase rfl hline F.plainAttrs_dict F.slot_dict_items F.type_dict_items (thn (he.run pins s σ H _ I hq) fun u s1 ⟨x, H1, I1, rx, d, kvs, ex, hd, q⟩ => ?_)
  subst ex
  obtain rfl : u = Value.ref d := rx
  obtain ⟨hz, hs0, vs, kv, hdo⟩ := I1.hok d _ hd
  obtain ⟨ep, hat⟩ := hdo.dictAt
  obtain ⟨es, hr, hsz, _⟩ := hat.raw
  have lk : kvs.length = vs.length := Paired.length kv
  have I2 : Inv X pins σ H1 { s1 with heap := s1.heap.push { cls := .type "dict_items", data := .fields #[.ref d] } } := I1.kept (t' := s1.toks) fun b ob q => Heap.get?_push_of_some _ q
  refine ⟨hdo.typeIs, hdo.mapOf.noDict, ?_⟩
  show wpAny _ _ (callWith cpos (.builtin "dict.items") [.ref d] [] []) _ X.xe s1
  refine method_meetsIn F.slot_dict_items F.entry_dict_items rfl (PySem.evalArgs_none ⟨rfl, hdo.typeIs, F.args_dict_items_1 _, _, meets_dict_items (mixKind X.prog X.w) d hs0, ⟨vs, hdo⟩, ?_⟩)
  refine Calls.spliced_nil ?_
  refine call_tuple_items (es := es) (ep := ep) (I1.ok.hd hc) ⟨_, Heap.get?_push_size _ rfl, rfl, rfl⟩ (hr.at fun o e => Heap.get?_push_of_some _ e) (by omega) fun h' tk as hk hl => ?_
  have I3 : Inv X pins σ H1 { s1 with heap := h', toks := tk } := I2.kept hk
  have I4 : Inv X pins σ (upd H1 h'.objs.size (.tup (as.map V.ref))) { s1 with heap := h'.push { cls := .type "tuple", data := .seq (as.map Value.ref).toArray }, toks := tk } :=
    I3.laid (t' := tk) (fun b o e => Heap.get?_push_of_some _ e) (Nat.le_refl _) (show ObjOk X.prog X.w _ _ _ (.tup (as.map V.ref)) from ⟨by rw [List.length_map]; omega, as.map Value.ref, LiI.vals_refs as, IsTup.new _ _⟩)
  exact ⟨.ref h'.objs.size, _, I4, rfl, q _ as (I3.hok.fresh (Nat.le_refl _)) (by omega)⟩
end
end G
/-! The end of a law row for a law whose defs make lambdas: tables of code objects are tracked, and nothing guarded runs. -/
namespace G
open PySem PySem.Spec PyProof.Rows L2 LamX
/-- the tables of the defs that make lambdas: a code object and its table -/
abbrev Tbls := List (Addr × Addr)
/-- what the law's heap starts with -/
def startH (ts : Tbls) (a : Addr) (o : Option HO) : Hp := fun b => if b = a then (match o with | some u => some u | none => if b ∈ ts.map (·.2) then some (.tbl #[]) else none) else if b ∈ ts.map (·.2) then some (.tbl #[]) else none
theorem end_gT {P : Program} {w : World} {K : PySem.W.Frag} {mg mb : Str → Option Value} {k : Nat} {fa a : Addr} {ts : Tbls} {fd : FuncData} {x : Str} {sp : Sp} {s₁ : Shared} {vs : List Value} {ns : List Int}
    (kin : K.In s₁.heap) (nsM : s₁.heap.Ns mainGlobals mg) (nsB : s₁.heap.Ns builtinsNs mb) (plainB : ∀ x : Str, x ≠ "__name__" → mb x = bootBuiltins x) (nolim : s₁.heap.NoLimit) (gens : s₁.gens = #[])
    (tabs : ∀ p ∈ ts, s₁.heap.get? p.2 = some { cls := .none, data := .fields #[] }) (freeT : ∀ p ∈ ts, K.lookup p.2 = none) (codes : ∀ p ∈ ts, PySem.W.CodeHd s₁.heap p.1 p.2)
    (modB : ∃ (bm : Addr) (ob : Obj), mg "__builtins__" = some (.ref bm) ∧ bm ≠ builtinsNs ∧ s₁.heap.get? bm = some ob ∧ ob.cls = .type "module" ∧ ob.dict = some builtinsNs ∧ ob.data = .plain)
    (at' : s₁.heap.get? a = some { cls := .type "list", data := .seq vs.toArray }) (areI : IntsAre vs ns) (short : ns.length ≤ sizeLine) (room : Room k callerA)
    (F : ∀ base : Heap, K.In base → base.Ns mainGlobals mg → (∀ p ∈ ts, TabB base mg p.1 p.2) → FnG P w K mg base CX0 k fa fd [x] sp) (bind : ∀ (s : Shared) (u : Value), BindsTo s fd ⟨[u], []⟩ [(x, u)])
    (prom : ∀ H : Hp, (∀ p ∈ ts, H p.2 = some (.tbl #[])) → SqL K H a (ns.map V.int) → sp [.ref a] H (fun v _ => v = .bl true) fun _ _ _ => False) :
    codeAny (model P w) callerA (.call (.ref fa) ⟨[.ref a], []⟩) (fun r s' => r = .ok (.ret (.bool true)) ∧ OldK s₁.heap s'.heap ∧ s'.os = s₁.os ∧ AllBare s'.gens) s₁ := by
  have hv := vals_ints areI
  have hlen := areI.length
  have tabAt : ∀ {b : Addr}, b ∈ ts.map (·.2) → s₁.heap.get? b = some { cls := .none, data := .fields #[] } := fun {b} h => by
    obtain ⟨p, hp, rfl⟩ := List.mem_map.mp h
    exact tabs p hp
  have tabM : ∀ p ∈ ts, p.2 ∈ ts.map (·.2) := fun p hp => List.mem_map.mpr ⟨p, hp, rfl⟩
  have noScript : a ∉ ts.map (·.2) := fun h => by
    have e := tabAt h
    rw [at'] at e
    cases congrArg Obj.data (Option.some.inj e)
  have go : ∀ H : Hp, (∀ p ∈ ts, H p.2 = some (.tbl #[])) → (∀ b u, H b = some u → b ∈ ts.map (·.2) ∨ (b = a ∧ ∃ o xs, u = .frz o (.lst xs))) → SqL K H a (ns.map V.int) → HOk P w H s₁.heap → (H a ≠ none → K.lookup a = none) →
      codeAny (model P w) callerA (.call (.ref fa) ⟨[.ref a], []⟩) (fun r s' => r = .ok (.ret (.bool true)) ∧ OldK s₁.heap s'.heap ∧ s'.os = s₁.os ∧ AllBare s'.gens) s₁ := by
    intro H tabH onlyH sq hok notK
    have away : ∀ {b : Addr} {o : Obj}, s₁.heap.get? b = some o → (∀ vs n, o.data ≠ .seq vs n) → o.data ≠ .fields #[] → H b = none := fun {b o} e h1 h2 => by
      match hb : H b with
      | none => rfl
      | some u =>
        rcases onlyH b u hb with q | ⟨q, _⟩
        · have e2 := tabAt q
          rw [e2] at e
          cases e
          exact absurd rfl h2
        · subst q
          rw [at'] at e
          cases e
          exact absurd rfl (h1 _ _)
    have dictFree : ∀ {b : Addr} {o : Obj} {es : Array DictEntry} {ep : Nat}, s₁.heap.get? b = some o → o.data = .dict es ep → H b = none := fun e d => away e (fun _ _ z => by rw [d] at z; cases z) fun z => by rw [d] at z; cases z
    have nsT : ∀ {b : Addr} {m : Str → Option Value}, s₁.heap.Ns b m → (hidT s₁.heap H).Ns b m := by
      rintro b m ⟨o, es, ep, e, d, rest⟩
      exact ⟨o, es, ep, hidT_get e (dictFree e d), d, rest⟩
    have kinT : K.In (hidT s₁.heap H) := by
      intro b o e
      refine hidT_get (kin b o e) ?_
      match hb : H b with
      | none => rfl
      | some u =>
        rcases onlyH b u hb with q | ⟨q, _⟩
        · obtain ⟨p, hp, rfl⟩ := List.mem_map.mp q
          rw [freeT p hp] at e
          cases e
        · subst q
          rw [notK (by rw [hb]; exact fun z => by cases z)] at e
          cases e
    have modT : Mod K mg (hidT s₁.heap H) := by
      refine ⟨kinT, nsT nsM, ⟨mb, nsT nsB, plainB⟩, ?_⟩
      obtain ⟨mc, l1, l2⟩ := nolim
      exact ⟨mc, nsT l1, l2⟩
    have tabB : ∀ p ∈ ts, TabB (hidT s₁.heap H) mg p.1 p.2 := by
      intro p hp
      have e2 := tabs p hp
      refine ⟨?_, ?_, ?_⟩
      · obtain ⟨o, us, file, tf, flags, tg, inF, text, tt, e1, r1, r2, r3, rest⟩ := codes p hp
        refine ⟨o, us, file, tf, flags, tg, inF, text, tt, hidT_get e1 (away e1 (fun vs n z => ?_) fun z => ?_), r1, r2, r3, rest⟩
        · rw [r2] at z
          cases z
        · rw [r2] at z
          injection z with z
          rw [z] at r3
          simp at r3
      · obtain ⟨bm, ob, b1, b2, b3, b4, b5, b6⟩ := modB
        refine ⟨bm, ob, b1, b2, fun q => ?_, fun q => ?_, hidT_get b3 (away b3 (fun vs n z => ?_) fun z => ?_), b4, b5, b6⟩
        · obtain ⟨o, es, ep, e, hd, _⟩ := nsM
          rw [q, e] at b3
          cases b3
          rw [hd] at b6
          cases b6
        · rw [q, e2] at b3
          cases b3
          cases b6
        · rw [b6] at z
          cases z
        · rw [b6] at z
          cases z
      · intro q
        obtain ⟨o, es, ep, e, hd, _⟩ := nsM
        rw [q, e2] at e
        cases e
        cases hd
    have start0 : Env0 P w K mg (hidT s₁.heap H) callerA [] s₁ H :=
      ⟨rfl, modT, fun _ _ e => of_hidT e, Nat.le_of_eq (hidT_size _ _), trivial, fun _ z => (List.not_mem_nil z).elim, hok, .of_eq gens⟩
    have ran := (F _ kinT (nsT nsM) tabB).go (args := ⟨[.ref a], []⟩) (us := [.ref a]) (vs := [.ref a]) rfl room start0 (bind s₁ (.ref a)) (.cons rfl .nil) (prom H tabH sq)
    refine codeAny_mono ran ?_
    intro r s' h
    match r, h with
    | .ok .next, z => exact False.elim z
    | .ok .brk, z => exact False.elim z
    | .ok .cont, z => exact False.elim z
    | .error _, z => exact False.elim z
    | .ok (.ret u), ⟨v, H', os, bare, un, hok', rel, val⟩ =>
      have val' : v = .bl true := val
      subst val'
      have eu : u = Value.bool true := rel
      subst eu
      have kept : ∀ b o, b ∉ ts.map (·.2) → s₁.heap.get? b = some o → s'.heap.get? b = some o := by
        intro b o nb e
        match hb : H b with
        | none => exact un.keep b o e hb (fun z => (List.not_mem_nil z).elim) (fun z => (List.not_mem_nil z).elim)
        | some _ =>
          rcases onlyH b _ hb with z | ⟨_, ob, xs, rfl⟩
          · exact absurd z nb
          · have old := (hok b _ hb).1
            have new := (hok' b _ (un.frzs b ob _ hb)).1
            rw [e] at old
            cases old
            exact new
      have more : ∀ p ∈ ts, ∃ l : Array Value, s'.heap.get? p.2 = some { cls := .none, data := .fields l } := fun p hp => by
        obtain ⟨l, z⟩ := un.tbls p.2 #[] (tabH p hp)
        exact ⟨_, hok' p.2 _ z⟩
      refine ⟨rfl, ⟨fun b o e => ?_, fun b o e => ?_⟩, os, bare⟩
      · by_cases hb : b ∈ ts.map (·.2)
        · obtain ⟨p, hp, rfl⟩ := List.mem_map.mp hb
          obtain ⟨l, hl⟩ := more p hp
          have e1 := tabs p hp
          rw [e1] at e
          cases e
          exact .inr (.inl ⟨((codes p hp).tab e1).isCodeTable, rfl, #[], l, rfl, by rw [Array.empty_append]; exact hl⟩)
        · exact .inl (kept b o hb e)
      · by_cases hb : b ∈ ts.map (·.2)
        · obtain ⟨p, hp, rfl⟩ := List.mem_map.mp hb
          obtain ⟨l, hl⟩ := more p hp
          exact ⟨_, hl⟩
        · exact ⟨o, kept b o hb e⟩
  match hk : K.lookup a with
  | some o =>
    have e := kin a o hk
    rw [at'] at e
    cases e
    refine go (startH ts a none) (fun p hp => ?_) (fun b u z => ?_) (Or.inr ⟨_, vs.toArray, _, hk, rfl, rfl, rfl, ?_, by simpa using hv⟩) (fun b u z => ?_) fun z => absurd ?_ z
    · unfold startH
      split <;> exact if_pos (tabM p hp)
    · refine Or.inl ?_
      by_cases hb : b ∈ ts.map (·.2)
      · exact hb
      · unfold startH at z
        rw [if_neg hb] at z
        split at z <;> cases z
    · rw [List.size_toArray, hlen]
      exact short
    · by_cases hb : b ∈ ts.map (·.2)
      · unfold startH at z
        rw [if_pos hb] at z
        have z' : u = .tbl #[] := by split at z <;> exact (Option.some.inj z).symm
        subst z'
        exact tabAt hb
      · unfold startH at z
        rw [if_neg hb] at z
        split at z <;> cases z
    · unfold startH
      rw [if_pos rfl]
      exact if_neg noScript
  | none =>
    have here : startH ts a (some (.frz { cls := .type "list", data := .seq vs.toArray } (.lst (ns.map V.int)))) a = some (.frz { cls := .type "list", data := .seq vs.toArray } (.lst (ns.map V.int))) := if_pos rfl
    refine go (startH ts a (some (.frz { cls := .type "list", data := .seq vs.toArray } (.lst (ns.map V.int))))) (fun p hp => ?_) (fun b u z => ?_) (Or.inl (Or.inr ⟨_, here⟩)) (fun b u z => ?_) fun _ => hk
    · unfold startH
      rw [if_neg (fun (q : p.2 = a) => noScript (by rw [← q]; exact tabM p hp))]
      exact if_pos (tabM p hp)
    · by_cases hb : b = a
      · subst hb
        rw [here] at z
        exact Or.inr ⟨rfl, _, _, (Option.some.inj z).symm⟩
      · unfold startH at z
        rw [if_neg hb] at z
        by_cases h2 : b ∈ ts.map (·.2)
        · exact Or.inl h2
        · rw [if_neg h2] at z
          cases z
    · by_cases hb : b = a
      · subst hb
        rw [here] at z
        cases z
        exact ⟨at', by rw [List.length_map]; exact short, vs, _, hv, at'⟩
      · unfold startH at z
        rw [if_neg hb] at z
        by_cases h2 : b ∈ ts.map (·.2)
        · rw [if_pos h2] at z
          cases z
          exact tabAt h2
        · rw [if_neg h2] at z
          cases z
/-- what is known of the law at the head's heap: its tables, its promise -/
structure LawT (P : Program) (w : World) (K : PySem.W.Frag) (k n : Nat) (x : Str) (mg : Str → Option Value) (fa : Addr) (h : Heap) : Prop where
  ex : ∃ (fd : FuncData) (ts : Tbls) (sp : Sp), (∀ p ∈ ts, h.get? p.2 = some { cls := .none, data := .fields #[] }) ∧ (∀ p ∈ ts, K.lookup p.2 = none) ∧ (∀ p ∈ ts, PySem.W.CodeHd h p.1 p.2) ∧ (∀ (s : Shared) (u : Value), BindsTo s fd ⟨[u], []⟩ [(x, u)]) ∧
    (∀ (H : Hp) (a : Addr) (ns : List Int), ns.length ≤ n → (∀ p ∈ ts, H p.2 = some (.tbl #[])) → SqL K H a (ns.map V.int) → sp [.ref a] H (fun v _ => v = .bl true) fun _ _ _ => False) ∧
    ∀ base : Heap, K.In base → base.Ns mainGlobals mg → (∀ p ∈ ts, TabB base mg p.1 p.2) → FnG P w K mg base CX0 k fa fd [x] sp
theorem walk_gT {l : PySem.W.OpenLaw} {n k : Nat} {q : Program} {loose : List Str} {XP : (Str → Option Value) → Heap → Prop} {YP : World → Heap → Prop} {d : DefRec} {K : Params → PySem.W.Frag} {x : Str}
    (many : l.most = some n) (fits : n ≤ sizeLine) (plain : d.params.defaults = []) (room : Room k callerA) (hY : ∀ (w : World) (h : Heap), YP w h → (K w.params).In h)
    (F : ∀ (w : World) (mg : Str → Option Value) (fa : Addr) (h : Heap), YP w h → (K w.params).In h → h.Ns mainGlobals mg → mg d.name = some (.ref fa) → LawT l.prog w (K w.params) k n x mg fa h) :
    PySem.W.WalkO q loose XP YP l.row.toRowW d [] (fun f vs => PySem.call f vs) := by
  refine Att.attach_call many plain ?_
  intro w s₀ s₁ mg mb fa o pm cd doc a vs ns G Y ho hd hcd hmg hobj hints hlen hgens
  have kin := hY w _ Y
  obtain ⟨fd, ts, sp, tabs, freeT, codes, bind, prom, hF⟩ := (F w mg fa _ Y kin G.T.g hmg).ex
  exact end_gT kin G.T.g G.T.b G.T.builtins G.T.nolimit hgens tabs freeT codes G.T.bmain hobj hints (Nat.le_trans hlen fits) room hF bind fun H hH sq => prom H a ns hlen hH sq
end G
/-! A lambda handed to a def of the law that calls it within a try with several except clauses; what it raises is wished for at the slots as they stand. -/
namespace G
open PySem PySem.Spec PyProof.Rows L2 LamX
section
variable {X : Cx} {pins : List (Addr × Obj)} {σ : L2.St} {H HZ : Hp} {s s1 : Shared}
theorem act_at {CXg : CXT} {Eg : XK} {Ng : List Str} {qg : Str} {sg : Scope} {g f c' : Addr} {cdg pm ctv : Value} {params : Arguments} {body : Expr} {scope : Scope} {k i : Nat} {a : Str} {pn : List (Addr × Obj)} {xe : Value → Shared → Prop} {W : WX} {E : XK} {tb : TE} {p1 p2 : Pos}
    (I : Inv X pins σ H s) (L : LamS X.env.scope scope) (hf : s.heap.get? f = some (PySem.W.kla_obj "<lambda>" (X.env.qual ++ "<lambda>") params body scope (cloFrom X.env.cells scope.names []) pm c' ctv)) (hfn : H f = none) (hfr : f ∉ frs X.stack)
    (hbind : bindArgs (PySem.W.kla_fn "<lambda>" (X.env.qual ++ "<lambda>") params body scope (cloFrom X.env.cells scope.names []) pm (.ref c') ctv) ⟨[], []⟩ = pure [])
    (tk : Takes ((cxOf CXg X.prog X.w X.K X.mg X.base Ng qg sg g cdg X.A X.stack s H Eg).tr pn xe) W) (hr : Room (k + 1) (X.A.deeper (envOfC qg sg s.heap.objs.size g cdg)))
    (hbody : ∀ (A : Around) (outer : List Env) (s : Shared) (H : Hp), Room k (A.deeper (lamEnv X scope s.heap.objs.size f c')) → PE (lamCx X A outer s H E scope f c') body tb)
    (hN : Ng[i]? = some a) (hv : Vis sg a) (hd : (a == ("__debug__" : Str)) = false := by decide) (hcd : (a == ("__classdict__" : Str)) = false := by decide) :
    PE ((cxOf CXg X.prog X.w X.K X.mg X.base Ng qg sg g cdg X.A X.stack s H Eg).tr pn xe) (.Call (.Name a p1) [] [] p2)
      (fun σZ HZ Q => (∀ cls d H', E cls d H' → W cls d σZ H') ∧ σZ[i]? = some (some (.ref f)) ∧ HZ c' = some (CodeO c' (X.env.qual ++ "<lambda>")) ∧ tb σ HZ Q) := by
  refine ⟨fun pinsZ sZ σZ HZ Q IZ h => ?_⟩
  obtain ⟨hW, hs, hc, ht⟩ := h
  refine wpAny_Call_Name_kw (thn ((pe_var (pos := p1) (i := i) hN hv hd hcd).run pinsZ sZ σZ HZ (fun v H1 => v = .ref f ∧ H1 = HZ) IZ ⟨.ref f, hs, rfl, rfl⟩) fun u s1 ⟨v, H1, I1, r1, q1⟩ => ?_)
  obtain ⟨ev, eH⟩ := q1
  subst ev
  rw [eH] at I1
  obtain rfl : u = Value.ref f := r1
  have of1 : s1.heap.get? f = some (PySem.W.kla_obj "<lambda>" (X.env.qual ++ "<lambda>") params body scope (cloFrom X.env.cells scope.names []) pm c' ctv) := I1.base.keep f _ hf hfn hfr (fun z => nomatch (show f ∈ ([] : List Addr) from z))
  refine PySem.W.callWith_F0 ⟨_, _, _, _, of1⟩ ?_
  have un : Un (frs X.stack) [] H HZ s.heap s1.heap := I1.base
  obtain ⟨⟨oc, vs, t, hoc, hdc, hvc⟩, _, _⟩ := I1.hok c' _ hc
  have rc : codeAny (model X.prog X.w) (X.A.deeper (envOfC qg sg s.heap.objs.size g cdg)) (.call (.ref f) ⟨[], []⟩) (CR (L2.CX X.prog X.w) (envOfC qg sg s.heap.objs.size g cdg :: X.stack) X.prog X.w HZ s1 Q E) s1 := by
    refine PySem.W.kla_callFunE hr.depth of1 rfl L.co L.gen rfl ⟨c', oc, vs, t, rfl, hoc, hdc, hvc⟩ ?_
    rw [hbind]
    refine wpAny_pure (wpAny_newFunctionEnv (fun y hy => (L.own y hy).2) (fun y hy => absurd hy (by simp)) (fun h₁ hns hsb => ⟨I1.nolimit.fresh _ hsb, ?_⟩) L.kind)
    show codeAny _ _ (.expr body (lamEnv X scope s1.heap.objs.size f c')) _ _
    have kp : ∀ b o, s1.heap.get? b = some o → h₁.get? b = some o := fun b o e => hsb.extBut b o (Nat.ne_of_lt (Heap.lt_size e)) (Heap.get?_push_of_some _ e)
    have J : Inv (lamCx X (X.A.deeper (envOfC qg sg s.heap.objs.size g cdg)) (envOfC qg sg s.heap.objs.size g cdg :: X.stack) s1 HZ E scope f c') [] σ HZ { s1 with heap := h₁, toks := s1.toks + ([] : List (Str × Value)).length } :=
      lam_start2 I L I1.env0 hr.hd un hns kp
    refine PySem.W.kla_codeExpr (wpAny_mono ((hbody _ _ s1 HZ (hr.deeper _)).run [] _ _ HZ Q J ht) (fun v s' hq => ?_) fun e s' hq => hq)
    obtain ⟨w', H', J', rv, q⟩ := hq
    exact ⟨w', H', J'.os, J'.bare, J'.base, J'.hok, rv, q⟩
  have hx : PassesAt (L2.CX X.prog X.w) ((cxOf CXg X.prog X.w X.K X.mg X.base Ng qg sg g cdg X.A X.stack s H Eg).tr pn xe) σZ (WE W σZ) := passAt tk σZ
  refine wpAny_call (codeAny_mono rc fun r s' hq => ?_)
  cases r with
  | error e =>
    refine hx pinsZ HZ s1 e s' I1 ?_
    obtain ⟨a, B, H', cls, d, q1, q2, q3, q4, q5, q6, q7, q8⟩ := (show L2.CX X.prog X.w _ HZ s1 E e s' from hq)
    exact ⟨a, B, H', cls, d, q1, q2, q3, q4, q5, q6, q7, hW _ _ _ q8⟩
  | ok fl =>
    cases fl with
    | ret u => exact I1.after hq
    | next => exact False.elim hq
    | brk => exact False.elim hq
    | cont => exact False.elim hq
/-- the def that calls what it got -/
def Gives (X : Cx) (Ng : List Str) (x : Str) (sg : Scope) (g : Addr) (cdg : Value) (bg : List Stmt) (a : Str) (q : Str) (TT : (XK → Hp → VK → Prop) → Hp → VK → Prop) : Prop :=
  ∀ (f c' : Addr) (s : Shared) (H : Hp) (Q : VK) (tl : XK → Hp → VK → Prop),
    (∀ (W : WX) (pn : List (Addr × Obj)) (xe : Value → Shared → Prop) (E : XK) (p1 p2 : Pos), Takes ((cxOf C8.CX0 X.prog X.w X.K X.mg X.base Ng x sg g cdg X.A X.stack s H C8.E0).tr pn xe) W →
      PE ((cxOf C8.CX0 X.prog X.w X.K X.mg X.base Ng x sg g cdg X.A X.stack s H C8.E0).tr pn xe) (.Call (.Name a p1) [] [] p2) (fun σZ HZ Q => (∀ cls d H', E cls d H' → W cls d σZ H') ∧ σZ[0]? = some (some (.ref f)) ∧ HZ c' = some (CodeO c' q) ∧ tl E HZ Q)) →
    H c' = some (CodeO c' q) → TT tl H Q →
    ∃ t, PSs (cxOf C8.CX0 X.prog X.w X.K X.mg X.base Ng x sg g cdg X.A X.stack s H C8.E0).nox bg t ∧ t { nx := fun _ H' => Q .non H', rt := Q } (L2.start Ng [.ref f]) H
/-- x(lambda: body) -/
theorem pe_lamcall2 {T : List (Addr × Str)} {TT : (XK → Hp → VK → Prop) → Hp → VK → Prop} {x a : Str} {st : Stmt} {g c P : Addr} {fd : FuncData} {k : Nat} {Ng : List Str}
    {params : Arguments} {body : Expr} {scope : Scope} {t : XK → TE} {p lpos pos : Pos} (F : Fun X.K x x st g fd) (hm : X.mg x = some (.ref g)) (hb : L2.Binds X.K fd [a] []) (Sg : FnScope Ng [a] (defScope st)) (hva : Vis (defScope st) a)
    (hG : ∀ cdv, Gives X Ng x (defScope st) g cdv (defBody st) a (X.env.qual ++ "<lambda>") TT)
    (TB : TabB X.base X.mg c P) (hcode : X.env.code = .ref c) (hmT : (P, X.env.qual ++ "<lambda>") ∈ T) (hu : ∀ p ∈ T, p.1 = P → p.2 = X.env.qual ++ "<lambda>") (hr : Room (k + 2) X.A) (L : LamS X.env.scope scope) (hdef : defaultsOf params X.env = ([], []))
    (hbind : ∀ (q : Str) (cl : List (Str × Addr)) (pm cv ctv : Value), bindArgs (PySem.W.kla_fn "<lambda>" q params body scope cl pm cv ctv) ⟨[], []⟩ = pure [])
    (hbody : ∀ (A : Around) (outer : List Env) (s : Shared) (H : Hp) (E : XK) (f c' : Addr), Room k (A.deeper (lamEnv X scope s.heap.objs.size f c')) → PE (lamCx X A outer s H E scope f c') body (t E))
    (hNg : Ng[0]? = some a := by rfl) (hg : Gl X x := by rfl) (hdb : (x == ("__debug__" : Str)) = false := by decide) (hd : (a == ("__debug__" : Str)) = false := by decide) (hcd : (a == ("__classdict__" : Str)) = false := by decide) :
    PE X (.Call (.Name x p) [.Lambda params body scope lpos] [] pos) (tLam T TT t) := by
  obtain ⟨oc, od, kV, doc, pm, an, cdv, ct, osl, rfl, lk, hcg⟩ := F.ex
  refine ⟨fun pins s σ H Q I h => ?_⟩
  obtain ⟨hT, h⟩ := h
  refine wpAny_Call_Name_kw (ld_glob I hg hm ?_ hdb)
  refine PySem.W.callWith_K (h₀ := X.base) I.ok.mod.kin F.kp ?_ (by rfl) (by rfl)
  show wpAny _ _ (spliced ((false, eval (.Lambda params body scope lpos) X.env) :: backTo pos (starEach [] X.env))) _ _ s
  refine Calls.spliced_cons (lam_make2 I TB hcode hmT hu hT hdef (L.has I.ok) fun f c' pm' ctv H1 s' I1 eN T1 hf hfn hfr hco => ?_)
  refine Calls.spliced_nil ⟨I1.kIn, ?_⟩
  have rc : codeAny (model X.prog X.w) X.A (.call (.ref g) ⟨[.ref f], []⟩) (CR C8.CX0 X.stack X.prog X.w H1 s' Q C8.E0) s' := by
    refine run_ofS (N := Ng) (ps := [a]) (us := [.ref f]) (vs := [.ref f]) lk hcg Sg hr I1.env0 (hb s' [.ref f] I1.kIn rfl) (.cons rfl .nil) rfl fun hr' => ?_
    obtain ⟨t', ht', hq'⟩ := hG cdv f c' s' H1 Q (fun E H' Q' => t E σ H' Q') (fun W pn xe E p1 p2 tk => act_at (i := 0) I1 L hf hfn hfr (hbind _ _ _ _ _) tk hr' (fun A outer s H hr2 => hbody A outer s H E f c' hr2) hNg hva hd hcd) hco (h H1 eN T1)
    exact ⟨t', ht'.nox, hq'⟩
  refine wpAny_call (codeAny_mono rc fun r s2 hq => ?_)
  cases r with
  | error e => exact (show False from hq).elim
  | ok fl =>
    cases fl with
    | ret u => exact I1.after hq
    | next => exact False.elim hq
    | brk => exact False.elim hq
    | cont => exact False.elim hq
end
/-- what is wished of the errors of the lambda, clause by clause: the word of each -/
def WordsE (K : PySem.W.Frag) (Q : VK) : List (Addr × Str) → XK
  | [] => fun _ _ _ => False
  | (C, z) :: r => fun cls d H' => ∃ b, PySem.W.exmOne K cls (.ref C) = some b ∧ (b = true → Q (.str z) H') ∧ (b = false → WordsE K Q r cls d H')
/-- word = z0; try: call() / except C1: word = z1 / ..; return word -/
def TTword (K : PySem.W.Frag) (z0 : Str) (cs : List (Addr × Str)) : (XK → Hp → VK → Prop) → Hp → VK → Prop := fun tl H Q => tl (WordsE K Q cs) H fun _ H' => Q (.str z0) H'
/-- a def whose code object is known -/
theorem okC {P : Program} {w : World} {K : PySem.W.Frag} {mg : Str → Option Value} {base : Heap} {x qual : Str} {st : Stmt} {f c : Addr} {fd : FuncData} {N ps : List Str} {k : Nat} {sp : Sp} (F : Fun K x qual st f fd) (hc : fd.code = .ref c) (S : FnScope N ps (defScope st)) (len : ∀ vs H Q E, sp vs H Q E → vs.length = ps.length)
    (hbody : ∀ (A : Around) (outer : List Env) (s : Shared) (H : Hp) (vs : List V) (Q : VK) (E : XK), Room k (A.deeper (envOfC qual (defScope st) s.heap.objs.size f (.ref c))) → sp vs H Q E →
      ∃ t, PSs (cxOf CX0 P w K mg base N qual (defScope st) f (.ref c) A outer s H E).nox (defBody st) t ∧ t { nx := fun _ H' => Q .non H', rt := Q } (L2.start N vs) H) : FnOk P w K mg base CX0 (k + 1) f fd ps sp := by
  obtain ⟨oc, od, kV, doc, pm, an, cdv, ct, osl, rfl, lk, hcd⟩ := F.ex
  obtain rfl : cdv = .ref c := hc
  refine fn_of lk hcd S len fun A outer s H vs Q E hr hsp => ?_
  obtain ⟨t, h, q⟩ := hbody A outer s H vs Q E hr hsp
  exact ⟨t, h.nox, q⟩
theorem Book1.ext {C : Addr} {H H' : Hp} {b : Addr} {kvs : List (Key × V)} (B : Book1 C H b kvs) (s : ExtN H H') : Book1 C H' b kvs := by
  obtain ⟨ys, L, M, dx, d, tp, ta, od, h1, h2, A⟩ := B.ex
  exact ⟨B.av, B.nd, ys, L, M, dx, d, tp, ta, od, h1, h2, s _ _ A.ob (fun _ e => by cases e), s _ _ A.dc (fun _ e => by cases e), s _ _ A.pi (fun _ e => by cases e), s _ _ A.al (fun _ e => by cases e), A.lo, A.de⟩
/-- a call whose wishes are weakened; what it raises is wished for at the slots as they stand -/
def tAct (f c' : Addr) (q : Str) (tl : XK → Hp → VK → Prop) (W : WX) : TE := fun σ H Q => ∃ (E : XK) (Q' : VK), (∀ cls d H', E cls d H' → W cls d σ H') ∧ (∀ v H', Q' v H' → Q v H') ∧ σ[0]? = some (some (.ref f)) ∧ H c' = some (CodeO c' q) ∧ tl E H Q'
theorem pe_actW {X : Cx} {e : Expr} {f c' : Addr} {q : Str} {tl : XK → Hp → VK → Prop} {W : WX} (h : ∀ E : XK, PE X e (fun σZ HZ Q => (∀ cls d H', E cls d H' → W cls d σZ H') ∧ σZ[0]? = some (some (.ref f)) ∧ HZ c' = some (CodeO c' q) ∧ tl E HZ Q)) : PE X e (tAct f c' q tl W) := by
  refine ⟨fun pins s σ H Q I hh => ?_⟩
  obtain ⟨E, Q', h1, h2, h3, h4, h5⟩ := hh
  exact thn ((h E).run pins s σ H Q' I ⟨h1, h3, h4, h5⟩) fun u s1 ⟨x, H1, I1, r, qq⟩ => ⟨x, H1, I1, r, h2 _ _ qq⟩
/-- except A: word = z / except B: .. -/
inductive Clauses (X : Cx) (sg : Scope) : List ExceptHandler → List (Addr × Str) → Prop
  | nil : Clauses X sg [] []
  | cons {n z : Str} {C : Addr} {j : Nat} {p p' q1 q2 q3 : Pos} {hds : List ExceptHandler} {cs : List (Addr × Str)} (g : sg.names.lookup n = some .globalImplicit) (m : X.mg n = some (.ref C)) (d : (n == ("__debug__" : Str)) = false) (r : Clauses X sg hds cs) :
      Clauses X sg (.ExceptHandler (some (.Name n p)) none [.Assign [.Name "word" q1] (.Constant (.str z) j q2) q3] p' :: hds) ((C, z) :: cs)
def clauseL (cs : List (Addr × Str)) : List (Value × (Addr → Value → Option Addr → TS)) := cs.map fun p => (.ref p.1, fun _ _ _ => tAsg (tC (.str p.2)) (gName 1))
theorem words_many {K : PySem.W.Frag} {Q : VK} {Wout : WX} {D : Ends} {σ : L2.St} {cls : Value} {d : Option Addr} {H' : Hp} (hD : ∀ z H', Q (.str z) H' → D.nx (σ.set 1 (some (.str z))) H') : ∀ cs : List (Addr × Str), WordsE K Q cs cls d H' → wMany K Wout D (clauseL cs) cls d σ H'
  | [], h => h.elim
  | (C, z) :: r, h => by
    obtain ⟨b, hb, h1, h2⟩ := h
    exact ⟨b, hb, fun e a ha => hD z H' (h1 e), fun e => words_many hD r (h2 e)⟩
/-- word = z0; try: call() / except A: word = z1 / ..; return word -/
theorem gives_words {X : Cx} {x z0 q : Str} {sg : Scope} {g : Addr} {cdv : Value} {j0 : Nat} {p1 p2 p3 p4 p5 p6 q8 q9 q10 : Pos} {h₀ : ExceptHandler} {hds : List ExceptHandler} {cs : List (Addr × Str)} (hw : sg.names.lookup ("word" : Str) = some .local) (ha : sg.names.lookup ("call" : Str) = some .local) (hk : Clauses X sg (h₀ :: hds) cs) :
    Gives X ["call", "word"] x sg g cdv [.Assign [.Name "word" p1] (.Constant (.str z0) j0 p2) p3, .Try [.Expr (.Call (.Name "call" p4) [] [] p5) p6] (h₀ :: hds) [] [] q8, .Return (some (.Name "word" q9)) q10] "call" q (TTword X.K z0 cs) := by
  intro f c' s H Q tl act hc h
  have nd : (["call", "word"] : List Str).Nodup := by decide +kernel
  have hds' : ∀ {hs : List ExceptHandler} {l : List (Addr × Str)}, Clauses X sg hs l → HdsOk (cxOf C8.CX0 X.prog X.w X.K X.mg X.base ["call", "word"] x sg g cdv X.A X.stack s H C8.E0).nox hs (clauseL l) := by
    intro hs l hk
    induction hk with
    | nil => exact .nil
    | cons g m d r ih => exact .cons ⟨g, d, .inl m⟩ (fun a oe cls d pn _ _ => pss_one (ps_set (i := 1) nd rfl (Or.inl hw) pe_str)) ih
  refine ⟨_, pss_cons (ps_set (i := 1) nd rfl (Or.inl hw) pe_str) (pss_cons (ps_try_many (X := (cxOf C8.CX0 X.prog X.w X.K X.mg X.base ["call", "word"] x sg g cdv X.A X.stack s H C8.E0).nox) (tb := fun W => tDrop (tAct f c' q tl W)) (Wout := fun _ _ _ _ => False) rfl rfl takes_none5 (fun W pn xe tk _ => pss_one (ps_expr (pe_actW fun E => act W pn xe E p4 p5 tk))) (hds' hk)) (pss_one (ps_ret (pe_var (i := 1) rfl (Or.inl hw))))), ?_⟩
  refine ⟨WordsE X.K Q cs, fun _ H' => Q (.str z0) H', (fun cls d H' hE => by
    refine words_many ?_ cs hE
    exact fun z H' hz => ⟨_, rfl, hz⟩), fun v H' hv => ⟨_, rfl, hv⟩, rfl, hc, h⟩
/-! ### a def that calls the lambda that it gets, as its callers use it -/
structure HasL (K : PySem.W.Frag) (mg : Str → Option Value) (x a : Str) (TT : (XK → Hp → VK → Prop) → Hp → VK → Prop) : Prop where
  ex : ∃ (g : Addr) (fd : FuncData) (st : Stmt) (Ng : List Str), Fun K x x st g fd ∧ mg x = some (.ref g) ∧ L2.Binds K fd [a] [] ∧ FnScope Ng [a] (defScope st) ∧ Vis (defScope st) a ∧ Ng[0]? = some a ∧
    ∀ X : Cx, X.K = K → X.mg = mg → ∀ (cdv : Value) (q : Str), Gives X Ng x (defScope st) g cdv (defBody st) a q TT
theorem pe_lam {X : Cx} {T : List (Addr × Str)} {TT : (XK → Hp → VK → Prop) → Hp → VK → Prop} {x a : Str} {c P : Addr} {k : Nat} {params : Arguments} {body : Expr} {scope : Scope} {t : XK → TE} {p lpos pos : Pos} (F : HasL X.K X.mg x a TT)
    (TB : TabB X.base X.mg c P) (hcode : X.env.code = .ref c) (hmT : (P, X.env.qual ++ "<lambda>") ∈ T) (hu : ∀ p ∈ T, p.1 = P → p.2 = X.env.qual ++ "<lambda>") (hr : Room (k + 2) X.A) (L : LamS X.env.scope scope) (hdef : defaultsOf params X.env = ([], []))
    (hbind : ∀ (q : Str) (cl : List (Str × Addr)) (pm cv ctv : Value), bindArgs (PySem.W.kla_fn "<lambda>" q params body scope cl pm cv ctv) ⟨[], []⟩ = pure [])
    (hbody : ∀ (A : Around) (outer : List Env) (s : Shared) (H : Hp) (E : XK) (f c' : Addr), Room k (A.deeper (lamEnv X scope s.heap.objs.size f c')) → PE (lamCx X A outer s H E scope f c') body (t E))
    (hg : Gl X x := by rfl) (hdb : (x == ("__debug__" : Str)) = false := by decide) (hd : (a == ("__debug__" : Str)) = false := by decide) (hcd : (a == ("__classdict__" : Str)) = false := by decide) :
    PE X (.Call (.Name x p) [.Lambda params body scope lpos] [] pos) (tLam T TT t) := by
  obtain ⟨g, fd, st, Ng, F, hm, hb, sc, hv, hN, G⟩ := F.ex
  exact pe_lamcall2 F hm hb sc hv (fun cdv => G X rfl rfl cdv _) TB hcode hmT hu hr L hdef hbind hbody hN hg hdb hd hcd
/-- a call of a def that may raise -/
theorem pe_hasX {X : Cx} {W : WX} {k : Nat} {x : Str} {ps : List Str} {sp : Sp} {E : XK} {p pos : Pos} {e : Expr} {es : List Expr} {t : TA} (F : HasO X.prog X.w X.K X.mg X.base (L2.CX X.prog X.w) k x ps sp) (hr : Room k X.A) (tk : Takes X W) (hW : ∀ cls d σ H, E cls d H → W cls d σ H) (ha : PA X (e :: es) t) (hl : Gl X x := by rfl)
    (hdb : (x == ("__debug__" : Str)) = false := by decide) (he : starEach (e :: es) X.env = (false, eval e X.env) :: starEach es X.env := by rfl) (hpl : (backTo pos (starEach es X.env)).any (·.1) = false := by rfl) :
    PE X (.Call (.Name x p) (e :: es) [] pos) (tCall sp [] E t) := pe_hasO F hr (passes_call tk hW) ha hl hdb he hpl
/-- the law's promise, with its lambdas' tables -/
def spLawT (T : List (Addr × Str)) (K : PySem.W.Frag) : Sp := fun vs H Q _ => ∃ (a : Addr) (ns : List Int), vs = [.ref a] ∧ Tabs T H ∧ SqL K H a (ns.map V.int) ∧ ns.length ≤ 63 ∧ ∀ H', Q (.bl true) H'
theorem Tabs.kp {T : List (Addr × Str)} {H H' : Hp} {l : Addr} {n : Nat} (t : Tabs T H) (D : Dice H l n) (k : Kp l H H') : Tabs T H' := fun p hp => by
  obtain ⟨ps, h1, h2, h3⟩ := t p hp
  obtain ⟨d0, d1, d2, hl, _⟩ := D
  refine ⟨ps, k _ _ h1 (fun e => by rw [e, hl] at h1; cases h1), h2, fun pos cv hc => ?_⟩
  obtain ⟨c, e1, e2⟩ := h3 pos cv hc
  exact ⟨c, e1, k _ _ e2 fun e => by rw [e, hl] at e2; cases e2⟩
theorem Tabs.same {T : List (Addr × Str)} {H H' : Hp} (t : Tabs T H) (s : Same H H') : Tabs T H' := t.ext fun b o e => s b o e
/-- what was there ahead of the dice stays -/
theorem Kp.seqN {K : PySem.W.Frag} {l a : Addr} {H H' : Hp} {xs : List V} (k : Kp l H H') (hl : H l = none) (h : SqL K H a xs) : SqL K H' a xs := by
  rcases h with (h | ⟨o, h⟩) | h
  · exact Or.inl (Or.inl (k _ _ h (ne_of_none h hl)))
  · exact Or.inl (Or.inr ⟨o, k _ _ h (ne_of_none h hl)⟩)
  · exact Or.inr h
theorem ExtN.lst {H H' : Hp} {a : Addr} {xs : List V} (s : ExtN H H') (h : H a = some (.lst xs)) : H' a = some (.lst xs) := s _ _ h fun _ e => by cases e
theorem ExtN.same {H H' : Hp} (s : Same H H') : ExtN H H' := .of fun b o e => s b o e
/-- two lists of the same texts -/
theorem eq_lstrs {K : PySem.W.Frag} {H : Hp} {a p : Addr} {zs : List Str} {Q : VK} (h : SqL K H a (zs.map V.str)) (hp : SqL K H p (zs.map V.str)) (hl : ∀ z ∈ zs, ∀ c ∈ cs z, lett c = true) (q : Q (.bl true) H) : rEqD K (.ref a) (.ref p) H Q := by
  refine ⟨.list (zs.map PyData.str), .list (zs.map PyData.str), .lst h (dpAll_strs zs), .lst hp (dpAll_strs zs), shaped_lstrs hl, shaped_lstrs hl, ?_⟩
  rw [SeqAt.eqv_refl _ (SeqAt.canLay_of_shaped (shaped_lstrs hl))]
  exact q
/-! ### a row of words told by lambdas about a book, a value that is no book and one that is no text -/
theorem Tabs.upd {T : List (Addr × Str)} {H : Hp} {a : Addr} {xs : List V} {o : HO} (t : Tabs T H) (h : H a = some (.lst xs)) : Tabs T (L2.upd H a o) := fun p hp => by
  obtain ⟨ps, h1, h2, h3⟩ := t p hp
  refine ⟨ps, by rw [upd_ne (fun e => by rw [e, h] at h1; cases h1)]; exact h1, h2, fun pos cv hc => ?_⟩
  obtain ⟨c, e1, e2⟩ := h3 pos cv hc
  exact ⟨c, e1, by rw [upd_ne (fun e => by rw [e, h] at e2; cases e2)]; exact e2⟩
structure Told (C : Addr) (T : List (Addr × Str)) (H : Hp) (tl x : Addr) (kvs : List (Key × V)) (wr bad : V) (zs : List Str) : Prop where
  tb : Tabs T H
  bk : Book1 C H x kvs
  vw : Val H wr
  vb : Val H bad
  nw : wr ≠ .ref tl
  nb : bad ≠ .ref tl
  at' : H tl = some (.lst (zs.map V.str))
theorem Told.push {C : Addr} {T : List (Addr × Str)} {H H1 H2 : Hp} {tl x : Addr} {kvs : List (Key × V)} {wr bad : V} {zs : List Str} (h : Told C T H tl x kvs wr bad zs) (e : ExtN H H1) (t : Tabs T H1) (s : Same H1 H2) (w : Str) :
    Told C T (upd H2 tl (.lst (zs.map V.str ++ [.str w]))) tl x kvs wr bad (zs ++ [w]) := by
  have a2 := s _ _ (ExtN.lst e h.at')
  exact ⟨Tabs.upd (Tabs.same t s) a2, ((h.bk.ext e).same s).updL a2, ((h.vw.mono e).same s).kp h.nw Kp.upd, ((h.vb.mono e).same s).kp h.nb Kp.upd, h.nw, h.nb, by rw [upd_same, List.map_append]; rfl⟩
theorem Val.ne {H : Hp} {x : V} {a : Addr} (o : Val H x) (h : H a = none) : x ≠ .ref a := fun e => by
  subst e
  rcases o with o | ⟨z, e, _⟩
  · cases o with
    | lst q => rw [h] at q; cases q
    | tup q => rw [h] at q; cases q
    | dK q => rw [h] at q; cases q
  · cases e
end G
/-! text[::-1]; mirrored tariffs; texts joined. -/
namespace G
open PySem PySem.Spec PyProof.Rows L2
/-- a text read backward -/
def rv (z : Str) : Str := sOf (cs z).reverse
theorem cs_rv (z : Str) : cs (rv z) = (cs z).reverse := cs_sOf _
theorem rv_rv (z : Str) : rv (rv z) = z := str_ext (by rw [cs_rv, cs_rv, List.reverse_reverse])
theorem rv_len (z : Str) : (rv z).length = z.length := by rw [← cs_len, cs_rv, List.length_reverse, cs_len]
theorem rv_inj {y z : Str} (h : rv y = rv z) : y = z := by rw [← rv_rv y, h, rv_rv]
theorem rv_ch (c : Nat) : rv (ch c) = ch c := str_ext (by rw [cs_rv]; rfl)
def tRevS (te : TE) : TE := fun σ H Q => te σ H fun x H1 => ∃ z, x = .str z ∧ z.length ≤ sizeLine ∧ Q (.str (rv z)) H1
theorem rev_cps (z : Str) : ((Builtin.Str.strSliceIndices none none (-1) z.length).filterMap (z.cps[·]?)).toArray = (rv z).cps := by
  have e : Builtin.Str.strSliceIndices none none (-1) z.length = sliceRange ((z.length : Int) - 1) (-1) (-1) := rfl
  rw [e, PySem.W.krv_sliceRange, PySem.W.krv_range, List.filterMap_reverse]
  have h := PySem.W.krv_all z.cps
  show ((List.range z.cps.size).filterMap (z.cps[·]?)).reverse.toArray = (cs z).reverse.toArray
  rw [h]
theorem pe_revS {X : Cx} {e : Expr} {te : TE} {k : Nat} {p1 p2 p3 pos : Pos} (he : PE X e te) : PE X (.Subscript e (.Slice none none (some (.UnaryOp .USub (.Constant (.int 1) k p1) p2)) p3) pos) (tRevS te) := by
  refine ⟨fun pins s σ H Q I h => Subscript_ (thn (he.run pins s σ H _ I h) fun v s1 ⟨x, H1, I1, r1, z, ex, hz, q⟩ => ?_)⟩
  subst ex
  obtain ⟨t, rfl⟩ := r1
  have step : PO X (some (.UnaryOp .USub (.Constant (.int 1) k p1) p2)) (tPart (tUn (rU fun i => .int (-i)) (tC (.int 1)))) := po_some (pe_un un_neg pe_int)
  refine wpAny_Slice (thn (po_none.run pins s1 σ H1 (fun o G2 => o = none ∧ G2 = H1) I1 ⟨rfl, rfl⟩) fun vl s2 ⟨l, G2, I2, pl, el, e2⟩ => ?_)
  subst el e2
  refine thn (po_none.run pins s2 σ G2 (fun o G3 => o = none ∧ G3 = G2) I2 ⟨rfl, rfl⟩) fun vu s3 ⟨u, G3, I3, pu, eu, e3⟩ => ?_
  subst eu e3
  refine thn (step.run pins s3 σ G3 (fun o G4 => o = some (-1) ∧ G4 = G3) I3 ⟨1, rfl, -1, rfl, rfl, rfl⟩) fun vs s4 ⟨o, G4, I4, ps, eo, e4⟩ => ?_
  subst eo e4
  have I5 : Inv X pins σ G4 { s4 with heap := s4.heap.push { cls := .type "slice", data := .fields #[vl, vu, vs] } } := I4.kept (t' := s4.toks) fun b ob w => Heap.get?_push_of_some _ w
  show wpAny (model X.prog X.w) X.A (subscriptTail e (.Slice none none (some (.UnaryOp .USub (.Constant (.int 1) k p1) p2)) p3) (.str z t) (.ref s4.heap.objs.size)) (EP X pins σ Q) X.xe { s4 with heap := s4.heap.push { cls := .type "slice", data := .fields #[vl, vu, vs] } }
  refine tail_any (ops := [.ref s4.heap.objs.size, .str z t]) (typeIs_str _ _ _) F.slot_str_getitem.lookup ?_ (by with_unfolding_all rfl)
  obtain ⟨l, rfl, hl⟩ := IsPart.raw pl
  obtain ⟨u, rfl, hu⟩ := IsPart.raw pu
  obtain ⟨st, rfl, hs⟩ := IsPart.raw ps
  cases l with
  | some l => cases hl
  | none =>
    cases u with
    | some u => cases hu
    | none =>
      cases st with
      | none => cases hs
      | some st =>
        obtain ⟨i, tk⟩ := st
        obtain rfl : i = -1 := Option.some.inj hs
        refine wpAny_getItem_str_slice (l := none) (u := none) (st := some (-1, tk)) ⟨_, Heap.get?_push_size _ rfl, rfl, rfl⟩ rfl ?_
        show Made.post (if ((-1 : Int) == 1 && (Builtin.Str.strSliceIndices none none (-1) z.length).length == z.length) = true then Made.val (.str z t) else Made.str ⟨((Builtin.Str.strSliceIndices none none (-1) z.length).filterMap (z.cps[·]?)).toArray⟩) (EP X pins σ Q) _
        rw [if_neg (by intro h; rw [Bool.and_eq_true] at h; exact absurd h.1 (by decide)), rev_cps]
        exact ⟨by
          show (rv z).length ≤ sizeLine
          rw [rv_len]
          exact hz, .str (rv z), G4, I5.tok _, ⟨_, rfl⟩, q⟩
/-! ### mirrored cuts -/
def mir (F : Tf) : Tf := fun z => F (rv z)
theorem mir_mir (F : Tf) : mir (mir F) = F := by
  funext z
  unfold mir
  rw [rv_rv]
theorem good_mir {F : Tf} (G : Good F) : Good (mir F) := by
  refine ⟨fun z p h => G.pos _ _ h, fun z p h => ?_, fun z p h c hc => ?_⟩
  · have := G.len _ _ h
    rwa [cs_rv, List.length_reverse] at this
  · obtain ⟨q, hq⟩ := G.cov _ _ h c (by rw [cs_rv, List.mem_reverse]; exact hc)
    exact ⟨q, by unfold mir; rw [rv_ch]; exact hq⟩
theorem over_mir {F : Tf} {l : List Nat} (o : Over F l) : Over (mir F) l.reverse := fun c hc => by
  obtain ⟨q, hq⟩ := o c (List.mem_reverse.mp hc)
  exact ⟨q, by unfold mir; rw [rv_ch]; exact hq⟩
theorem cut_mir {F : Tf} {l : List Nat} {c : Ps} (h : Cut F l c) : Cut (mir F) l.reverse ((c.map fun p => (rv p.1, p.2)).reverse) := by
  refine ⟨fun p hp => ?_, ?_⟩
  · obtain ⟨q, hq, rfl⟩ := List.mem_map.mp (List.mem_reverse.mp hp)
    show F (rv (rv q.1)) = _
    rw [rv_rv]
    exact h.1 q hq
  · rw [← h.2, List.map_reverse, List.map_map, List.reverse_flatten, List.map_map]
    congr 2
theorem fee_mir {c : Ps} : fee ((c.map fun p => (rv p.1, p.2)).reverse) = fee c := by
  unfold fee
  rw [List.map_reverse, List.sum_reverse, List.map_map]
  rfl
theorem lp_mir_le {F : Tf} (G : Good F) {l : List Nat} (o : Over F l) : lp (mir F) l.reverse ≤ lp F l := by
  obtain ⟨c, hc, e⟩ := lp_cut G o
  have h := lp_le (good_mir G) (cut_mir hc) (over_mir o)
  rw [fee_mir, e] at h
  exact h
theorem lp_mir {F : Tf} (G : Good F) {l : List Nat} (o : Over F l) : lp (mir F) l.reverse = lp F l := by
  have h1 := lp_mir_le G o
  have h2 := lp_mir_le (good_mir G) (over_mir o)
  rw [mir_mir, List.reverse_reverse] at h2
  omega
/-! ### texts joined -/
theorem joinL_flat : ∀ l : List (List Nat), TL.joinL [] l = l.flatten
  | [] => rfl
  | [a] => by simp [TL.joinL]
  | a :: b :: r => by
    show a ++ ([] ++ TL.joinL [] (b :: r)) = _
    rw [joinL_flat (b :: r)]
    rfl
theorem join_cs (ys : List Str) : Txt.join "" ys = sOf (ys.map cs).flatten := by
  refine str_ext ?_
  rw [cs_sOf, TL.join_eq]
  exact (TL.tl_join "" ys).trans (joinL_flat _)
theorem pieces_len {F : Tf} (G : Good F) : ∀ {c : List Str}, (∀ y ∈ c, ∃ p, F y = some p) → c.length ≤ (c.map cs).flatten.length
  | [], _ => Nat.zero_le _
  | y :: r, h => by
    obtain ⟨p, hp⟩ := h y List.mem_cons_self
    have h1 := (G.len y p hp).1
    have h2 := pieces_len G (c := r) fun x hx => h x (List.mem_cons_of_mem _ hx)
    rw [List.map_cons, List.flatten_cons, List.length_append, List.length_cons]
    omega
theorem strs_len (c : List Str) : (c.map (·.length)).sum = (c.map cs).flatten.length := by
  induction c with
  | nil => rfl
  | cons y r ih => rw [List.map_cons, List.sum_cons, ih, List.map_cons, List.flatten_cons, List.length_append, cs_len]
/-! ### mirrored dicts of prices -/
def mirK (kv : Key × V) : Key × V := ((match kv.1 with | .inr z => .inr (rv z) | .inl i => .inl i), kv.2)
theorem mirK_key {kv : Key × V} {z : Str} : (mirK kv).1 = Sum.inr z ↔ kv.1 = Sum.inr (rv z) := by
  obtain ⟨k, v⟩ := kv
  cases k with
  | inl i => exact ⟨fun h => (nomatch h), fun h => (nomatch h)⟩
  | inr y =>
    show Sum.inr (rv y) = (Sum.inr z : Key) ↔ (Sum.inr y : Key) = Sum.inr (rv z)
    constructor
    · intro h
      rw [← Sum.inr.inj h, rv_rv]
    · intro h
      rw [Sum.inr.inj h, rv_rv]
theorem val_mir {kvs : List (Key × V)} {z : Str} : valV (kvs.map mirK) (Sum.inr z : Key) = valV kvs (Sum.inr (rv z) : Key) := by
  unfold valV
  rw [List.find?_map, Option.map_map]
  have e : ((fun kv : Key × V => decide (kv.1 = (Sum.inr z : Key))) ∘ mirK) = fun kv => decide (kv.1 = (Sum.inr (rv z) : Key)) := by
    funext kv
    exact decide_eq_decide.mpr mirK_key
  rw [e]
  rfl
theorem tf_mir {kvs : List (Key × V)} : tfD (kvs.map mirK) = mir (tfD kvs) := by
  funext z
  unfold tfD mir
  rw [val_mir]
theorem ks_mir (kvs : List (Key × V)) : keyStrs (kvs.map mirK) = (keyStrs kvs).map rv := by
  induction kvs with
  | nil => rfl
  | cons a r ih =>
    obtain ⟨k, v⟩ := a
    cases k with
    | inl i => exact ih
    | inr z =>
      show rv z :: keyStrs (r.map mirK) = rv z :: (keyStrs r).map rv
      rw [ih]
theorem nd_mir {kvs : List (Key × V)} (nd : (kvs.map (·.1)).Nodup) : ((kvs.map mirK).map (·.1)).Nodup := by
  rw [List.map_map]
  have e : (kvs.map ((fun x => x.1) ∘ mirK)) = (kvs.map (·.1)).map fun k : Key => match k with | .inr z => .inr (rv z) | .inl i => .inl i := by rw [List.map_map]; rfl
  rw [e]
  refine nd_map (fun a b h => ?_) nd
  cases a <;> cases b <;> first | (cases h; done) | (cases h; rfl) | skip
  rw [rv_inj (Sum.inr.inj h)]
theorem piece_rv (z : Str) : isPiece (.str (rv z)) = isPiece (.str z) := by
  show (decide (1 ≤ (cs (rv z)).length) && decide ((cs (rv z)).length ≤ 5) && (cs (rv z)).all lett) = (decide (1 ≤ (cs z).length) && decide ((cs z).length ≤ 5) && (cs z).all lett)
  rw [cs_rv, List.length_reverse, List.all_reverse]
theorem ap_mir {kvs : List (Key × V)} (av : arePrices kvs = true) : arePrices (kvs.map mirK) = true := by
  unfold arePrices at av ⊢
  rw [Bool.and_eq_true, Bool.and_eq_true, Bool.and_eq_true] at av ⊢
  obtain ⟨⟨⟨a, b⟩, c⟩, d⟩ := av
  refine ⟨⟨⟨by rw [List.length_map]; exact a, ?_⟩, ?_⟩, ?_⟩
  · rw [List.all_map, List.all_eq_true]
    intro kv hkv
    have h := List.all_eq_true.mp b kv hkv
    obtain ⟨k, v⟩ := kv
    cases k with
    | inl i => exact h
    | inr z =>
      show (isPiece (.str (rv z)) && isPrice v) = true
      rw [piece_rv]
      exact h
  · have e : ((keyStrs kvs).map rv).filter (fun z => decide ((cs z).length = 1)) = ((keyStrs kvs).filter fun z => decide ((cs z).length = 1)).map rv := by
      rw [List.filter_map]
      congr 2
      funext z
      show decide ((cs (rv z)).length = 1) = _
      rw [cs_rv, List.length_reverse]
    rw [ks_mir, e, List.length_map]
    exact c
  · rw [List.all_eq_true] at d ⊢
    intro x hx
    rw [ks_mir, List.map_map] at hx
    obtain ⟨l, hl, hxl⟩ := List.mem_flatten.mp hx
    obtain ⟨z, hz, rfl⟩ := List.mem_map.mp hl
    have hc : x ∈ cs z := by
      have h : x ∈ cs (rv z) := hxl
      rwa [cs_rv, List.mem_reverse] at h
    have := d x (List.mem_flatten.mpr ⟨cs z, List.mem_map.mpr ⟨z, hz, rfl⟩, hc⟩)
    rw [val_mir, rv_ch]
    exact this
/-! ### comprehensions that make objects -/
section
variable {α : Type} {J : It} {G : Hp → Prop} {Y : Nat → Hp → V → Hp → Prop}
theorem lcsN (its : List α) (w : Walk J its.length G Y) (o : α → HO) {g : TG} {tt : TT} {te : TE} {vs : List Nat} {σ : L2.St} {H1 : Hp} {D : Addr} {Qd : Hp → Prop} (hD : H1 D = none) (hz : its.length ≤ 1000000) (hG : ∀ H, Same H1 H → G H)
    (hs : ∀ i a x H H', its[i]? = some a → Same H1 H → Y i H x H' → ∀ (N : VK) (M : Hp → Prop), (∀ q H3, H q = none → H3 q = some (o a) → Same H H3 → N (.ref q) H3) →
      g x (wipe σ vs) H' fun σ2 H2 => wipe σ2 vs = wipe σ vs ∧ tt σ2 H2 fun b H3 => if b = true then te σ2 H3 N else M H3)
    (hd : ∀ H (qs : List (Addr × α)), Same H1 H → qs.map (·.2) = its → H D = some (.lst (qs.map fun q => V.ref q.1)) → (∀ q ∈ qs, H q.1 = some (o q.2)) → (∀ q ∈ qs, H1 q.1 = none) → Qd H) :
    ∃ W : Nat → Nat → Hp → Prop, (∃ m, W 0 m (upd H1 D (.lst []))) ∧ ∀ i m H, W i m H →
      (J.stop i H ∧ Qd H) ∨ (J.go i H ∧ ∃ Nx : Hp → Prop, (∀ H', Nx H' → ∃ m', m' < m ∧ W (i + 1) m' H') ∧ ∀ x H', J.yld i H x H' → g x (wipe σ vs) H' fun σ2 H2 => wipe σ2 vs = wipe σ vs ∧ tt σ2 H2 fun b H3 =>
        if b = true then te σ2 H3 fun y H4 => ∃ acc, H4 D = some (.lst acc) ∧ acc.length < sizeLine ∧ Nx (upd H4 D (.lst (acc ++ [y]))) else Nx H3) := by
  refine lc_it w (fun i H => Same H1 H ∧ ∃ qs : List (Addr × α), qs.map (·.2) = its.take i ∧ H D = some (.lst (qs.map fun q => V.ref q.1)) ∧ (∀ q ∈ qs, H q.1 = some (o q.2)) ∧ (∀ q ∈ qs, H1 q.1 = none ∧ q.1 ≠ D)) ⟨same_new hD, [], rfl, upd_same, (fun q h => (List.not_mem_nil h).elim), fun q h => (List.not_mem_nil h).elim⟩ (fun i H _ p => hG H p.1) ?_ (fun H p => ?_)
  · rintro i x H H' hi ⟨s, qs, eq, e, at', fr⟩ y
    obtain ⟨a, ha⟩ : ∃ a, its[i]? = some a := ⟨_, List.getElem?_eq_getElem hi⟩
    have short : (qs.map fun q => V.ref q.1).length < sizeLine := by
      have h1 := congrArg List.length eq
      rw [List.length_map, List.length_take] at h1
      rw [List.length_map]
      exact Nat.lt_of_le_of_lt (by omega : _ ≤ 1000000) (by decide)
    refine hs i a x H H' ha s y _ _ (fun q H3 hq hq3 s3 => ⟨_, s3 _ _ e, short, fun b u k => ?_, qs ++ [(q, a)], ?_, ?_, fun r hr => ?_, fun r hr => ?_⟩)
    · rw [upd_ne (ne_of_none k hD)]
      exact s3 _ _ (s _ _ k)
    · rw [List.map_append, eq, List.take_add_one, ha]
      rfl
    · rw [upd_same, List.map_append]
      rfl
    · rcases List.mem_append.mp hr with h | h
      · rw [upd_ne (fr r h).2]
        exact s3 _ _ (at' r h)
      · rw [List.mem_singleton.mp h]
        rw [upd_ne (show q ≠ D from (ne_of_none e hq).symm)]
        exact hq3
    · rcases List.mem_append.mp hr with h | h
      · exact fr r h
      · rw [List.mem_singleton.mp h]
        exact ⟨s.free hq, (ne_of_none e hq).symm⟩
  · obtain ⟨s, qs, eq, e, at', fr⟩ := p
    rw [List.take_length] at eq
    exact hd H qs s eq e at' fun q h => (fr q h).1
end
end G
/-! Losses: promises of loss, harmless, are_pieces; the parts of k14 and k10. -/
namespace G
open PySem PySem.Spec PyProof.Rows L2 LamX
/-- whether a value is a piece of a book -/
def isPc (kvs : List (Key × V)) : V → Bool | .str z => (tfD kvs z).isSome | _ => false
theorem isPc_text {kvs : List (Key × V)} {x : V} (h : isStr x = false) : isPc kvs x = false := by cases x <;> first | rfl | cases h
/-- no tuple -/
def NoTup (H : Hp) (x : V) : Prop := ∀ t xs, x = .ref t → H t ≠ some (.tup xs)
theorem Val.notTup {K : PySem.W.Frag} {H : Hp} {x : V} (o : Val H x) (n : NoTup H x) : ∃ t, TyX K H x t ∧ PySem.W.kitOne K t (.type "tuple") = some false := by
  rcases o with o | ⟨z, rfl, _⟩
  · cases o with
    | non => exact ⟨_, .base .non, kit_ty (show kitB "NoneType" "tuple" = some false by decide +kernel)⟩
    | bl b => exact ⟨_, .base (.bl b), kit_ty (show kitB "bool" "tuple" = some false by decide +kernel)⟩
    | int i => exact ⟨_, .base (.int i), kit_ty (show kitB "int" "tuple" = some false by decide +kernel)⟩
    | lst h => exact ⟨_, .base (.lst h), kit_ty (show kitB "list" "tuple" = some false by decide +kernel)⟩
    | tup h => exact absurd h (n _ _ rfl)
    | dK h => exact ⟨_, .base (.dK h), kit_ty (show kitB "dict" "tuple" = some false by decide +kernel)⟩
  · exact ⟨_, .base (.str z), kit_ty (show kitB "str" "tuple" = some false by decide +kernel)⟩
/-- are_pieces of any value: no tuple, or one of any items -/
def spArePc (C : Addr) : Sp := fun vs H Q _ => ∃ b kvs x, vs = [.ref b, x] ∧ Book1 C H b kvs ∧ ((Val H x ∧ NoTup H x ∧ ∀ H', Same H H' → Q (.bl false) H') ∨
  ∃ t xs, x = .ref t ∧ H t = some (.tup xs) ∧ xs.length ≤ 100000 ∧ (∀ y ∈ xs, Val H y) ∧ ∀ H', Same H H' → Q (.bl (xs.all (isPc kvs))) H')
/-- loss of a piece with which the text begins -/
def spLoss (C : Addr) : Sp := fun vs H Q _ => ∃ b kvs z y p r, vs = [.ref b, .str z, .str y] ∧ BT C H b kvs z ∧ tfD kvs y = some p ∧ cs z = cs y ++ r ∧ ∀ H', Same H H' → Q (.int (p + lp (tfD kvs) r - lp (tfD kvs) (cs z))) H'
/-- whether a value is a piece with which a text begins -/
def Begun (kvs : List (Key × V)) (z : Str) (x : V) : Prop := ∃ y p r, x = .str y ∧ tfD kvs y = some p ∧ cs z = cs y ++ r
def spLossOp (C CO : Addr) : Sp := fun vs H _ E => ∃ b kvs z x, vs = [.ref b, .str z, x] ∧ BT C H b kvs z ∧ Val H x ∧ ¬ Begun kvs z x ∧ ∀ H', Same H H' → E (.ref CO) none H'
def spBadT3 (C CT : Addr) : Sp := fun vs H _ E => ∃ b kvs x y, vs = [.ref b, x, y] ∧ Book1 C H b kvs ∧ Val H x ∧ overV kvs x = false ∧ ∀ H', Same H H' → E (.ref CT) none H'
def spBad3 (CB : Addr) : Sp := fun vs H _ E => ∃ x y v, vs = [x, y, v] ∧ Val H x ∧ E (.ref CB) none H
def spHarmless (C : Addr) : Sp := fun vs H Q _ => ∃ b kvs z, vs = [.ref b, .str z] ∧ BT C H b kvs z ∧ ∀ p H', H p = none → H' p = some (.tup ((bests (tfD kvs) (cs z)).map V.str)) → Same H H' → Q (.ref p) H'
theorem starts_iff {x y : Str} : Txt.startswith x y = true ↔ ∃ r, cs x = cs y ++ r := by
  have l1 := cs_len x
  have l2 := cs_len y
  unfold Txt.startswith
  rw [StrLaws.subAt_eq, Bool.and_eq_true, decide_eq_true_eq, beq_iff_eq]
  constructor
  · rintro ⟨h1, h2⟩
    refine ⟨(cs x).drop y.length, ?_⟩
    have h3 : ((cs x).drop 0).take y.length = cs y := h2
    rw [List.drop_zero] at h3
    rw [← h3, List.take_append_drop]
  · rintro ⟨r, h⟩
    have h0 := congrArg List.length h
    rw [List.length_append] at h0
    refine ⟨by omega, ?_⟩
    show ((cs x).drop 0).take y.length = cs y
    rw [List.drop_zero, h, ← l2, List.take_left]
theorem heads_nil {F : Tf} : heads F [] = [] := rfl
theorem bests_nil {F : Tf} : bests F [] = [] := rfl
/-! ### the law's parts -/
/-- _law_number of two numbers -/
def spNumber : Sp := fun vs H Q _ => ∃ i j : Int, vs = [.int i, .int j] ∧ Q (.bl (decide (i = j))) H
/-- _law_walk: a cut of a text -/
def spWalk : Sp := fun vs H Q _ => ∃ (l d : Addr) (kvs : List (Key × V)) (z : Str) (n : Nat), vs = [.ref l, .ref d, .str z] ∧ d ≠ l ∧ H d = some (.dK kvs) ∧ Tar kvs ∧ Over (tfD kvs) (cs z) ∧ z.length ≤ 1000 ∧ Dice H l (n + z.length) ∧
  ∀ (t : Addr) (c : List Str) H', H t = none → (∀ y ∈ c, ∃ p, tfD kvs y = some p) → (c.map cs).flatten = cs z → H' t = some (.tup (c.map V.str)) → Kp l H H' → Dice H' l n → Q (.ref t) H'
/-- _law_prices -/
def spLawPr : Sp := fun vs H Q _ => ∃ (d : Addr) (kvs : List (Key × V)) (z : Str), vs = [.ref d, .str z] ∧ H d = some (.dK kvs) ∧ Tar kvs ∧ Over (tfD kvs) (cs z) ∧ z.length ≤ 8000 ∧ ∀ p H', H p = none → H' p = some (.lst (rowV (tfD kvs) (cs z) (z.length + 1))) → Same H H' → Q (.ref p) H'
/-- _law_rests -/
def spLawRs : Sp := fun vs H Q _ => ∃ (d : Addr) (kvs : List (Key × V)) (z : Str), vs = [.ref d, .str z] ∧ H d = some (.dK kvs) ∧ arePrices kvs = true ∧ (kvs.map (·.1)).Nodup ∧ Over (tfD kvs) (cs z) ∧ z.length ≤ 1000 ∧ ∀ p H', H p = none → H' p = some (.lst (restV (tfD kvs) (cs z) 0)) → Same H H' → Q (.ref p) H'
theorem rest_of_row {F : Tf} (G : Good F) {l : List Nat} (o : Over F l) : (rowV (mir F) l.reverse (l.length + 1)).reverse = restV F l 0 := by
  refine List.ext_getElem? fun i => ?_
  by_cases h : i < l.length + 1
  · rw [List.getElem?_reverse (by rw [rowV_len]; exact h), rowV_len, rowV_at (by omega), restV_at (by omega) (Nat.zero_le _)]
    have e : l.reverse.take (l.length + 1 - 1 - i) = (l.drop i).reverse := by
      rw [List.take_reverse]
      congr 2
      omega
    rw [e, lp_mir G (o.drop i)]
  · rw [List.getElem?_eq_none (by rw [List.length_reverse, rowV_len]; omega), List.getElem?_eq_none (by rw [restV_len]; omega)]
/-- _law_rest_right -/
def spRestOk (C : Addr) : Sp := fun vs H Q _ => ∃ (d b r : Addr) (kvs : List (Key × V)) (z : Str) (a : Nat), vs = [.ref d, .ref b, .str z, .ref r, .int (a : Int)] ∧ H d = some (.dK kvs) ∧ BT C H b kvs z ∧ H r = some (.lst (restV (tfD kvs) (cs z) 0)) ∧ a < z.length ∧ z.length ≤ 1000 ∧
  ∀ H', Same H H' → Q (.bl true) H'
/-- all but l and the tables stay -/
def KpT (l : Addr) (H H' : Hp) : Prop := ∀ b o, H b = some o → b ≠ l → (∀ ps, o ≠ .tbl ps) → H' b = some o
theorem KpT.of {l : Addr} {H H' : Hp} (k : Kp l H H') : KpT l H H' := fun b o h n _ => k b o h n
theorem KpT.ext {l : Addr} {H H' : Hp} (k : ExtN H H') : KpT l H H' := fun b o h _ n => k b o h n
theorem KpT.refl (l : Addr) (H : Hp) : KpT l H H := fun _ _ h _ _ => h
theorem KpT.trans {l : Addr} {H H1 H2 : Hp} (a : KpT l H H1) (b : KpT l H1 H2) : KpT l H H2 := fun c o h n m => b c o (a c o h n m) n m
theorem Book1.kpT {C : Addr} {H H' : Hp} {l b : Addr} {kvs : List (Key × V)} {n : Nat} (B : Book1 C H b kvs) (D : Dice H l n) (k : KpT l H H') : Book1 C H' b kvs := by
  obtain ⟨d0, d1, d2, h, _⟩ := D
  obtain ⟨ys, L, M, dx, d, tp, ta, od, h1, h2, A⟩ := B.ex
  have ne : ∀ {a : Addr} {o : HO}, H a = some o → (∀ xs, o ≠ .lst xs) → a ≠ l := fun e n q => by
    rw [q, h] at e
    exact n _ (Option.some.inj e).symm
  exact ⟨B.av, B.nd, ys, L, M, dx, d, tp, ta, od, h1, h2, k _ _ A.ob (ne A.ob fun _ e => by cases e) (fun _ e => by cases e), k _ _ A.dc (ne A.dc fun _ e => by cases e) (fun _ e => by cases e), k _ _ A.pi (ne A.pi fun _ e => by cases e) (fun _ e => by cases e), k _ _ A.al (ne A.al fun _ e => by cases e) (fun _ e => by cases e), A.lo, A.de⟩
theorem Dice.ext {H H' : Hp} {l : Addr} {n : Nat} (D : Dice H l n) (k : ExtN H H') : Dice H' l n := by
  obtain ⟨d0, d1, d2, h, r⟩ := D
  exact ⟨d0, d1, d2, k _ _ h (fun _ e => by cases e), r⟩
/-- _law_refused_right of k14 -/
def spRefused (C : Addr) (T : List (Addr × Str)) : Sp := fun vs H Q _ => ∃ (l d b : Addr) (kvs : List (Key × V)) (z : Str) (n : Nat), vs = [.ref l, .ref d, .ref b, .str z] ∧ Tabs T H ∧ d ≠ l ∧ H d = some (.dK kvs) ∧ BT C H b kvs z ∧ z.length ≤ 1000 ∧ Dice H l (n + 3) ∧
  ∀ H', KpT l H H' → Tabs T H' → Dice H' l n → Q (.bl true) H'
theorem KpT.mut {l p : Addr} {H H' : Hp} {o : HO} (a : KpT l H H') (h : ∀ u, H p = some u → ∃ ps, u = .tbl ps) : KpT l H (L2.upd H' p o) := fun b u e n m => by
  rw [upd_ne (fun q => by
    rw [q] at e
    obtain ⟨ps, r⟩ := h u e
    exact m ps r)]
  exact a b u e n m
theorem KpT.free {l p : Addr} {H H' : Hp} (k : KpT l H H') (n : p ≠ l) (h : H' p = none) : ∀ u, H p = some u → ∃ ps, u = .tbl ps := fun u e => by
  cases u with
  | tbl ps => exact ⟨ps, rfl⟩
  | _ =>
    have q := k p _ e n fun _ z => by cases z
    rw [h] at q
    cases q
theorem KpT.same {l : Addr} {H H1 H2 : Hp} (a : KpT l H H1) (s : Same H1 H2) : KpT l H H2 := a.trans (.of (.of s))
/-- words told one by one by lambdas about a book and some values -/
structure ToldV (C : Addr) (T : List (Addr × Str)) (H0 : Hp) (l : Addr) (n : Nat) (H : Hp) (tl b : Addr) (kvs : List (Key × V)) (vals : List V) (zs : List Str) : Prop where
  tb : Tabs T H
  bk : Book1 C H b kvs
  vv : ∀ v ∈ vals, Val H v ∧ v ≠ .ref tl
  at' : H tl = some (.lst (zs.map V.str))
  kp : KpT l H0 H
  dc : Dice H l n
  ne : tl ≠ l
  fr : ∀ u, H0 tl = some u → ∃ ps, u = .tbl ps
theorem ToldV.push {C : Addr} {T : List (Addr × Str)} {H0 : Hp} {l : Addr} {n : Nat} {H H1 H2 : Hp} {tl b : Addr} {kvs : List (Key × V)} {vals : List V} {zs : List Str} (h : ToldV C T H0 l n H tl b kvs vals zs) (e : ExtN H H1) (t : Tabs T H1) (s : Same H1 H2) (w : Str) :
    ToldV C T H0 l n (upd H2 tl (.lst (zs.map V.str ++ [.str w]))) tl b kvs vals (zs ++ [w]) := by
  have a2 := s _ _ (ExtN.lst e h.at')
  exact ⟨Tabs.upd (Tabs.same t s) a2, ((h.bk.ext e).same s).updL a2, fun v hv => ⟨(((h.vv v hv).1.mono e).same s).kp (h.vv v hv).2 Kp.upd, (h.vv v hv).2⟩, by rw [upd_same, List.map_append]; rfl, ((h.kp.trans (.ext e)).same s).mut h.fr, (((h.dc.ext e).same s).upd h.ne), h.ne, h.fr⟩
theorem eq_tupNil {K : PySem.W.Frag} {H : Hp} {a p : Addr} {Q : VK} (h : H a = some (.tup [])) (hp : H p = some (.tup [])) (q : Q (.bl true) H) : rEqD K (.ref a) (.ref p) H Q := by
  refine ⟨.tuple [], .tuple [], .tup (SqT.of h) .nil, .tup (SqT.of hp) .nil, by decide, by decide, ?_⟩
  have e : PyData.eqv (.tuple []) (.tuple []) = true := by simp [PyData.eqv, PyData.eqvAll]
  rw [e]
  exact q
theorem over_nil {F : Tf} : Over F (cs (Str.ofString "")) := fun c hc => by
  have e : cs (Str.ofString "") = [] := rfl
  rw [e] at hc
  exact (List.not_mem_nil hc).elim
/-- t[:n], whether the same tuple or a new one -/
theorem slA_take {K : PySem.W.Frag} {H : Hp} {a : Addr} {xs : List V} {n : Nat} {Q : VK} (h : H a = some (.tup xs)) (k : ∀ p H', H' p = some (.tup (xs.take n)) → Same H H' → Q (.ref p) H') : rSlA K (.ref a) none (some (n : Int)) H Q := by
  have e0 : HT.sIx xs.length 0 none = 0 := rfl
  have e1 : HT.sIx xs.length xs.length (some (n : Int)) = min n xs.length := by rw [sIx_pos (by omega)]; rfl
  refine ⟨a, xs, rfl, SqT.of h, fun w => ?_, fun _ p hp => ?_⟩
  · refine k a H ?_ (Same.refl _)
    have : xs.take n = xs := List.take_of_length_le (by have := w.2; omega)
    rw [this]
    exact h
  · refine k p _ ?_ (same_new hp)
    have : cutV xs none (some (n : Int)) = xs.take n := by
      unfold cutV
      rw [e0, e1, List.drop_zero, Nat.sub_zero]
      by_cases q : n ≤ xs.length
      · rw [Nat.min_eq_left q]
      · rw [Nat.min_eq_right (by omega), List.take_of_length_le (Nat.le_refl _), List.take_of_length_le (by omega)]
    rw [upd_same, this]
/-- the first piece of a cheapest cut has no loss -/
theorem cheap_first {F : Tf} (G : Good F) {l : List Nat} (o : Over F l) {y : Str} {r : List Str} (h : Cheap F l (y :: r)) : ∃ p, F y = some p ∧ l = cs y ++ (r.map cs).flatten ∧ p + lp F (r.map cs).flatten = lp F l := by
  obtain ⟨p, hp⟩ := h.all y List.mem_cons_self
  have hl : l = cs y ++ (r.map cs).flatten := by rw [← h.flat]; rfl
  refine ⟨p, hp, hl, ?_⟩
  have h1 := lp_pre G (z := y) (b := (r.map cs).flatten) (by rw [← hl]; exact o) hp
  rw [← hl] at h1
  have hr : ∀ w ∈ r, ∃ q, F w = some q := fun w hw => h.all w (List.mem_cons_of_mem _ hw)
  have hc : Cut F (r.map cs).flatten (r.map fun w => (w, (F w).getD 0)) := ⟨fun q hq => by
    obtain ⟨w, hw, rfl⟩ := List.mem_map.mp hq
    obtain ⟨v, hv⟩ := hr w hw
    show F w = some ((F w).getD 0)
    rw [hv]
    rfl, by rw [List.map_map]; rfl⟩
  have h2 := lp_le G hc (fun c hc' => o c (by rw [hl]; exact List.mem_append_right _ hc'))
  have h3 : fee (r.map fun w => (w, (F w).getD 0)) = (r.map fun w => (F w).getD 0).sum := by
    unfold fee
    rw [List.map_map]
    rfl
  have h4 := h.sum
  rw [List.map_cons, List.sum_cons, hp] at h4
  rw [h3] at h2
  have h5 : (some p).getD 0 = p := rfl
  rw [h5] at h4
  omega
theorem cut_split {c : List Str} {j : Nat} {y : Str} {l : List Nat} (h : (c.map cs).flatten = l) (hj : c[j]? = some y) : l.drop ((c.take j).map cs).flatten.length = cs y ++ ((c.drop (j + 1)).map cs).flatten := by
  have e : c = c.take j ++ y :: c.drop (j + 1) := by
    obtain ⟨hlt, hz⟩ := List.getElem?_eq_some_iff.mp hj
    rw [← hz, List.getElem_cons_drop, List.take_append_drop]
  rw [← h]
  conv => lhs; arg 2; rw [e]
  rw [List.map_append, List.flatten_append, List.drop_left]
  rfl
end G
/-! Tuples: t[::-1], (v,) * n of any n, slices and sums whichever object they give. -/
namespace G
open PySem PySem.Spec PyProof.Rows L2
/-- a slice of a tuple, whether the same tuple or a new one -/
theorem slA_any {K : PySem.W.Frag} {H : Hp} {a : Addr} {xs : List V} {lo hi : Option Int} {Q : VK} (h : H a = some (.tup xs)) (k : ∀ p H', H' p = some (.tup (cutV xs lo hi)) → Same H H' → Q (.ref p) H') : rSlA K (.ref a) lo hi H Q := by
  refine ⟨a, xs, rfl, SqT.of h, fun w => k a H ?_ (Same.refl _), fun _ p hp => k p _ upd_same (same_new hp)⟩
  have : cutV xs lo hi = xs := by
    unfold cutV
    rw [w.1, w.2, List.drop_zero, List.take_of_length_le (by omega)]
  rw [this]
  exact h
/-- a sum of two tuples, whichever object it gives -/
theorem catA_any {K : PySem.W.Frag} {H : Hp} {a b : Addr} {xs ys : List V} {Q : VK} (ha : H a = some (.tup xs)) (hb : H b = some (.tup ys)) (hz : xs.length + ys.length ≤ 100000) (k : ∀ p H', H' p = some (.tup (xs ++ ys)) → Same H H' → Q (.ref p) H') : rCatA K (.ref a) (.ref b) H Q := by
  refine ⟨a, b, xs, ys, rfl, rfl, SqT.of ha, SqT.of hb, fits_sz hz, fun e => ?_, fun _ e => ?_, fun _ _ p hp => k p _ upd_same (same_new hp)⟩
  · subst e
    exact k b H hb (Same.refl _)
  · subst e
    exact k a H (by rw [List.append_nil]; exact ha) (Same.refl _)
/-! ### t[::-1] -/
section
variable {X : Cx}
def tRevT (K : PySem.W.Frag) (te : TE) : TE := fun σ H Q => te σ H fun x H1 => ∃ a xs, x = .ref a ∧ SqT K H1 a xs ∧ ∀ p, H1 p = none → Q (.ref p) (upd H1 p (.tup xs.reverse))
theorem rev_pick (items : Array Value) : ((List.range items.size).filterMap fun (k : Nat) => items[((items.size : Int) - 1 + (k : Int) * -1).toNat]?).toArray = items.toList.reverse.toArray := by
  have e : (List.range items.size).filterMap (fun (k : Nat) => items[((items.size : Int) - 1 + (k : Int) * -1).toNat]?) = ((List.range items.size).map fun k => items.size - 1 - k).filterMap (items[·]?) := by
    rw [List.filterMap_map]
    have gen : ∀ l : List Nat, (∀ k ∈ l, k < items.size) → l.filterMap (fun (k : Nat) => items[((items.size : Int) - 1 + (k : Int) * -1).toNat]?) = l.filterMap ((items[·]?) ∘ fun k => items.size - 1 - k) := by
      intro l hl
      induction l with
      | nil => rfl
      | cons k r ih =>
        have h1 := hl k List.mem_cons_self
        have e1 : ((items.size : Int) - 1 + (k : Int) * -1).toNat = items.size - 1 - k := by omega
        rw [List.filterMap_cons, List.filterMap_cons, ih fun j hj => hl j (List.mem_cons_of_mem _ hj), e1]
        rfl
    exact gen _ fun k hk => List.mem_range.mp hk
  rw [e, PySem.W.krv_range, List.filterMap_reverse, PySem.W.krv_all]
theorem pe_revT {e : Expr} {te : TE} {k : Nat} {p1 p2 p3 pos : Pos} (he : PE X e te) : PE X (.Subscript e (.Slice none none (some (.UnaryOp .USub (.Constant (.int 1) k p1) p2)) p3) pos) (tRevT X.K te) := by
  refine ⟨fun pins s σ H Q I h => Subscript_ (thn (he.run pins s σ H _ I h) fun v s1 ⟨x, H1, I1, r1, a, xs, ex, hx, q⟩ => ?_)⟩
  subst ex
  cases r1
  have step : PO X (some (.UnaryOp .USub (.Constant (.int 1) k p1) p2)) (tPart (tUn (rU fun i => .int (-i)) (tC (.int 1)))) := po_some (pe_un un_neg pe_int)
  refine wpAny_Slice (thn (po_none.run pins s1 σ H1 (fun o G2 => o = none ∧ G2 = H1) I1 ⟨rfl, rfl⟩) fun vl s2 ⟨l, G2, I2, pl, el, e2⟩ => ?_)
  subst el e2
  refine thn (po_none.run pins s2 σ G2 (fun o G3 => o = none ∧ G3 = G2) I2 ⟨rfl, rfl⟩) fun vu s3 ⟨u, G3, I3, pu, eu, e3⟩ => ?_
  subst eu e3
  refine thn (step.run pins s3 σ G3 (fun o G4 => o = some (-1) ∧ G4 = G3) I3 ⟨1, rfl, -1, rfl, rfl, rfl⟩) fun vs s4 ⟨o, G4, I4, ps, eo, e4⟩ => ?_
  subst eo e4
  have I5 : Inv X pins σ G4 { s4 with heap := s4.heap.push { cls := .type "slice", data := .fields #[vl, vu, vs] } } := I4.kept (t' := s4.toks) fun b ob w => Heap.get?_push_of_some _ w
  obtain ⟨its, r, ht, hz⟩ := I5.tuple hx
  have hlen := r.length
  show wpAny (model X.prog X.w) X.A (subscriptTail e (.Slice none none (some (.UnaryOp .USub (.Constant (.int 1) k p1) p2)) p3) (.ref a) (.ref s4.heap.objs.size)) (EP X pins σ Q) X.xe { s4 with heap := s4.heap.push { cls := .type "slice", data := .fields #[vl, vu, vs] } }
  refine tail_any (ops := [.ref a, .ref s4.heap.objs.size]) ht.typeIs PyProof.Rows.slot_tuple_getitem.lookup ?_ (by with_unfolding_all rfl)
  obtain ⟨l, rfl, hl⟩ := IsPart.raw pl
  obtain ⟨u, rfl, hu⟩ := IsPart.raw pu
  obtain ⟨st, rfl, hs⟩ := IsPart.raw ps
  cases l with
  | some l => cases hl
  | none =>
    cases u with
    | some u => cases hu
    | none =>
      cases st with
      | none => cases hs
      | some st =>
        obtain ⟨i, tk⟩ := st
        obtain rfl : i = -1 := Option.some.inj hs
        have hos : ({ s4 with heap := s4.heap.push { cls := .type "slice", data := .fields #[partValue none, partValue none, partValue (some (-1, tk))] } } : Shared).heap.get? s4.heap.objs.size = some { cls := .type "slice", data := .fields #[.none, .none, .int (-1) tk] } := Heap.get?_push_size _ rfl
        have hTs : ({ s4 with heap := s4.heap.push { cls := .type "slice", data := .fields #[partValue none, partValue none, partValue (some (-1, tk))] } } : Shared).TypeIs (.ref s4.heap.objs.size) "slice" := ⟨_, hos, rfl⟩
        unfold getItem
        try with_reducible refine wpAny_holding ?_
        first | refine wpAny_bind (wpAny_pure ?_) | skip
        refine wpAny_bind (wpAny_sequenceKey ht.typeIs (by decide) ?_)
        refine wpAny_bind (wpAny_callSpecial?_slot (name := Str.ofString "__getitem__") ht.typeIs PyProof.Rows.slot_tuple_getitem (wpAny_call_entry PyProof.Rows.slot_tuple_getitem ht.typeIs entry_tuple_getitem ?_ (args_tuple_getitem _ _)))
        show wpAny _ _ (Builtin.Tuple.tupleItemsOf (.ref a) >>= _) _ _ _
        refine wpAny_bind (tupleItemsOf_ ht ?_)
        refine wpAny_bind (wpAny_typeOf hTs ?_)
        rw [if_pos (by decide)]
        refine wpAny_bind ?_
        unfold Builtin.Slice.sliceApplied Builtin.Slice.sliceFields
        refine wpAny_bind (wpAny_bind (wpAny_field hos rfl (x := .none) rfl (wpAny_bind (wpAny_field hos rfl (x := .none) rfl (wpAny_bind (wpAny_field hos rfl (x := .int (-1) tk) rfl (wpAny_pure ?_)))))))
        refine wpAny_bind (slicePart_int ?_)
        show wpAny _ _ (if ((-1 : Int) == 0) = true then _ else _) _ _ _
        rw [if_neg (by decide)]
        refine wpAny_bind (slicePart_none (wpAny_bind (slicePart_none (wpAny_bind (wpAny_pure ?_)))))
        have eA : Builtin.Slice.sliceAdjust none none (-1) ((its.toArray.size : Nat) : Int) = (((its.toArray.size : Nat) : Int) - 1, -1) := by
          unfold Builtin.Slice.sliceAdjust
          simp
        have eP : Builtin.Slice.slicePlaces (((its.toArray.size : Nat) : Int) - 1) (-1) (-1) = its.toArray.size := by
          unfold Builtin.Slice.slicePlaces
          generalize its.toArray.size = n
          by_cases hn : n = 0
          · subst hn
            simp
          · simp
            omega
        show wpAny _ _ (match Builtin.Slice.sliceAdjust none none (-1) ((its.toArray.size : Nat) : Int) with | (lo, hi) => pure (lo, (-1 : Int), Builtin.Slice.slicePlaces lo hi (-1))) _ _ _
        rw [eA]
        dsimp only
        rw [eP]
        refine wpAny_pure ?_
        dsimp only
        rw [if_neg (by intro h; rw [Bool.and_eq_true, Bool.and_eq_true] at h; exact absurd h.1.2 (by decide)), rev_pick]
        have hsz : sizeOk (.seq its.toArray.toList.reverse.toArray) := by
          show its.toArray.toList.reverse.toArray.size ≤ sizeLine
          rw [List.size_toArray, List.length_reverse, List.toList_toArray, ← hlen]
          exact hz
        have fin : EP X pins σ Q (.ref (s4.heap.push { cls := .type "slice", data := .fields #[partValue none, partValue none, partValue (some (-1, tk))] }).objs.size)
            { s4 with heap := (s4.heap.push { cls := .type "slice", data := .fields #[partValue none, partValue none, partValue (some (-1, tk))] }).push { cls := .type "tuple", data := .seq its.toArray.toList.reverse.toArray } } := by
          refine ⟨.ref _, _, I5.laid (t' := s4.toks) (o := .tup xs.reverse) (fun b ob w => Heap.get?_push_of_some _ w) (Nat.le_refl _) ?_, rfl, q _ (I5.hok.fresh (Nat.le_refl _))⟩
          exact ⟨by rw [List.length_reverse]; exact hz, _, r.reverse, IsTup.new _ _⟩
        first
          | exact wpAny_bind (m := Builtin.Tuple.tupleExact _) (wpAny_newObj_type (wpAny_pure ⟨_, rfl, wpAny_pure fin⟩) hsz)
          | exact wpAny_bind (m := Builtin.Tuple.tupleExact _) (wpAny_newObj_type (wpAny_bind (wpAny_pure (wpAny_pure ⟨_, rfl, wpAny_pure fin⟩))) hsz)
          | exact wpAny_bind (wpAny_bind (m := Builtin.Tuple.tupleExact _) (wpAny_newObj_type (wpAny_pure ⟨_, rfl, wpAny_pure fin⟩) hsz))
theorem g_revT (K : PySem.W.Frag) {e : Expr} {te : TE} {k : Nat} {p1 p2 p3 pos : Pos} (he : PE X e te) (eK : X.K = K := by rfl) : PE X (.Subscript e (.Slice none none (some (.UnaryOp .USub (.Constant (.int 1) k p1) p2)) p3) pos) (tRevT K te) := by
  subst eK
  exact pe_revT he
/-! ### (v,) * n -/
def rRep1 (K : PySem.W.Frag) : R2 := fun x y H Q => ∃ l k v, x = .ref l ∧ y = .int k ∧ SqT K H l [v] ∧ 2 ≤ k ∧ k ≤ 100000 ∧ ∀ p, H p = none → Q (.ref p) (upd H p (.tup (List.replicate k.toNat v)))
theorem rep_flat {α : Type} (v : α) : ∀ n : Nat, (List.replicate n [v]).flatten = List.replicate n v
  | 0 => rfl
  | n + 1 => by rw [List.replicate_succ, List.flatten_cons, rep_flat v n, List.replicate_succ]; rfl
theorem op_rep1 (K : PySem.W.Frag) (eK : X.K = K := by rfl) : OpR X (binaryOp .Mult) (rRep1 K) := by
  subst eK
  intro pins s σ H x y v u Q I rx ry h
  obtain ⟨l, k, w, rfl, rfl, hT, h1, h2, q⟩ := h
  cases rx
  obtain ⟨t, rfl⟩ := ry
  obtain ⟨its, r, ⟨⟨cls, dd, data, sl⟩, ho, hc, n, hd⟩, hs⟩ := I.tuple hT
  simp only at hc hd
  subst hc hd
  obtain ⟨w', rfl, rw'⟩ := vals1 r
  have one : (([w'] : List Value).toArray.size : Int) = 1 := rfl
  have flen : (List.replicate k.toNat [w']).flatten.length ≤ sizeLine := by
    rw [rep_flat, List.length_replicate]
    exact Nat.le_trans (by omega : _ ≤ 100000) (by decide)
  have c0 : (decide (k < -(2 ^ 63)) || decide (k ≥ 2 ^ 63)) = false := by rw [decide_eq_false (by omega), decide_eq_false (by omega), Bool.or_false]
  have c1 : (([w'] : List Value).toArray.isEmpty || k == 1) = false := by
    have : (k == 1) = false := beq_eq_false_iff_ne.mpr (by omega)
    rw [this]
    rfl
  have c2 : (decide (k ≤ 0) || ([w'] : List Value).toArray.isEmpty) = false := by
    rw [decide_eq_false (by omega : ¬ k ≤ 0)]
    rfl
  have c4 : Builtin.Tuple.tupleTooMany ((([w'] : List Value).toArray.size : Int) * k) = false := by
    rw [one]
    unfold Builtin.Tuple.tupleTooMany
    exact decide_eq_false (by rw [sizeLine_eq]; omega)
  refine wpAny_binaryOp_repeat_ref (T := "tuple") (U := "int") (by decide) ⟨_, ho, rfl⟩ (fun s' => typeIs_int s' k t) noFill_tuple_mul F.fills_int_mul F.slot_int_rmul repeat_tuple F.slot_int_index.lookup
    (call_meets F.slot_int_rmul (typeIs_int s k t) F.entry_int_rmul (F.args_int_rmul_2 _ _) (int_rmul_tuple k t l _ n dd sl)
      ⟨ho, rfl, ⟨_, ho, rfl⟩, call_meets F.slot_tuple_mul ⟨_, ho, rfl⟩ F.entry_tuple_mul (F.args_tuple_mul_2 _ _) (tuple_mulW l _ n dd sl k t c0 c1 c2 (by rw [one]; omega) c4 (by rw [size_rep, List.size_toArray]; exact flen)) ⟨ho, ?_⟩⟩)
  rw [size_rep]
  refine ⟨.ref s.heap.objs.size, _, I.laid (t' := s.toks) (o := .tup (List.replicate k.toNat w)) (fun b ob z => Heap.get?_push_of_some _ z) (Nat.le_refl _) ?_, rfl, q _ (I.hok.fresh (Nat.le_refl _))⟩
  have r2 := r.rep k.toNat
  rw [rep_flat] at r2
  exact ⟨by rw [List.length_replicate]; exact Nat.le_trans (by omega : _ ≤ 100000) (by decide), _, r2, IsTup.new _ _⟩
/-! ### xs == [] of any list -/
def rEqNil : R2 := fun x y H Q => ∃ a p xs, x = .ref a ∧ y = .ref p ∧ H a = some (.lst xs) ∧ H p = some (.lst []) ∧ Q (.bl xs.isEmpty) H
theorem op_eqNil (hu : X.A.units < cLine) : OpR X (compareOp .Eq) rEqNil := by
  intro pins s σ H x y v u Q I rx ry h
  obtain ⟨a, p, xs, rfl, rfl, ha, hp, q⟩ := h
  cases rx
  cases ry
  obtain ⟨z1, i1, n1, r1, l1, e1⟩ := I.lstM ha
  obtain ⟨z2, i2, n2, r2, l2, e2⟩ := I.lstM hp
  have hi2 : i2 = [] := by
    have := r2.length
    exact List.eq_nil_of_length_eq_zero this.symm
  subst hi2
  cases xs with
  | nil =>
    have hi1 : i1 = [] := List.eq_nil_of_length_eq_zero r1.length.symm
    subst hi1
    refine PySem.P.eq_list (e := fun _ => true) e1 e2 rfl (fun j h1 => absurd h1 (by simp)) hu ?_
    exact ⟨.bl true, H, I, rfl, q⟩
  | cons w r =>
    refine PySem.P.eq_list_lengths e1 e2 ?_ hu ⟨.bl false, H, I, rfl, q⟩
    have := r1.length
    rw [List.size_toArray, List.size_toArray, ← this, List.length_cons, List.length_nil]
    exact bne_iff_ne.mpr (by omega)
end
end G
/-! Values near a cut: any value, told by its items if it is a tuple. -/
namespace G
open PySem PySem.Spec PyProof.Rows L2 LamX
/-- a value of a known kind, no tuple -/
inductive NoT (H : Hp) : V → Prop
  | non : NoT H .non
  | bl (b : Bool) : NoT H (.bl b)
  | int (i : Int) : NoT H (.int i)
  | str {z : Str} (h : z.length ≤ 100000) : NoT H (.str z)
  | lst {a : Addr} {xs : List V} (h : H a = some (.lst xs)) : NoT H (.ref a)
  | dK {a : Addr} {kvs : List (Key × V)} (h : H a = some (.dK kvs)) : NoT H (.ref a)
theorem NoT.val {H : Hp} {x : V} (o : NoT H x) : Val H x := by
  cases o with
  | non => exact .inl .non
  | bl b => exact .inl (.bl b)
  | int i => exact .inl (.int i)
  | str h => exact .inr ⟨_, rfl, h⟩
  | lst h => exact .inl (.lst h)
  | dK h => exact .inl (.dK h)
theorem NoT.no {H : Hp} {x : V} (o : NoT H x) : NoTup H x := fun t xs e h => by
  subst e
  cases o with
  | lst q => rw [q] at h; cases h
  | dK q => rw [q] at h; cases h
theorem NoT.kp {H H' : Hp} {l : Addr} {x : V} (o : NoT H x) (n : x ≠ .ref l) (k : Kp l H H') : NoT H' x := by
  have ne : ∀ {a : Addr}, x = .ref a → a ≠ l := fun e q => n (by rw [e, q])
  cases o with
  | non => exact .non
  | bl b => exact .bl b
  | int i => exact .int i
  | str h => exact .str h
  | lst h => exact .lst (k _ _ h (ne rfl))
  | dK h => exact .dK (k _ _ h (ne rfl))
theorem NoT.same {H H' : Hp} {x : V} (o : NoT H x) (s : Same H H') : NoT H' x := by
  cases o with
  | non => exact .non
  | bl b => exact .bl b
  | int i => exact .int i
  | str h => exact .str h
  | lst h => exact .lst (s _ _ h)
  | dK h => exact .dK (s _ _ h)
inductive AnyV (H : Hp) : V → Option (List V) → Prop
  | no {x : V} (o : NoT H x) : AnyV H x none
  | tup {t : Addr} {xs : List V} (h : H t = some (.tup xs)) (l : xs.length ≤ 20000) (v : ∀ y ∈ xs, Val H y) : AnyV H (.ref t) (some xs)
theorem AnyV.same {H H' : Hp} {x : V} {o : Option (List V)} (a : AnyV H x o) (s : Same H H') : AnyV H' x o := by
  cases a with
  | no o => exact .no (o.same s)
  | tup h l v => exact .tup (s _ _ h) l fun y hy => (v y hy).same s
def itemS : V → Str | .str z => z | _ => ""
def arePc (kvs : List (Key × V)) : Option (List V) → Bool | none => false | some xs => xs.all (isPc kvs)
def sumV (kvs : List (Key × V)) (o : Option (List V)) : Int := ((o.getD []).map fun v => (tfD kvs (itemS v)).getD 0).sum
def joinV (o : Option (List V)) : List Nat := ((o.getD []).map fun v => cs (itemS v)).flatten
theorem arePc_strs {kvs : List (Key × V)} : ∀ {xs : List V}, xs.all (isPc kvs) = true → ∃ c : List Str, xs = c.map V.str ∧ ∀ y ∈ c, ∃ p, tfD kvs y = some p
  | [], _ => ⟨[], rfl, fun _ h => (List.not_mem_nil h).elim⟩
  | x :: r, h => by
    rw [List.all_cons, Bool.and_eq_true] at h
    obtain ⟨c, rfl, hc⟩ := arePc_strs h.2
    obtain ⟨z, rfl⟩ : ∃ z, x = .str z := by cases x <;> first | exact ⟨_, rfl⟩ | cases h.1
    have hz : (tfD kvs z).isSome = true := h.1
    refine ⟨z :: c, rfl, fun y hy => ?_⟩
    rcases List.mem_cons.mp hy with rfl | hy
    · exact Option.isSome_iff_exists.mp hz
    · exact hc y hy
theorem sumV_strs {kvs : List (Key × V)} {c : List Str} : sumV kvs (some (c.map V.str)) = (c.map fun y => (tfD kvs y).getD 0).sum := by
  unfold sumV
  rw [Option.getD_some, List.map_map]
  rfl
theorem joinV_strs {c : List Str} : joinV (some (c.map V.str)) = (c.map cs).flatten := by
  unfold joinV
  rw [Option.getD_some, List.map_map]
  rfl
theorem arePc_of {kvs : List (Key × V)} {c : List Str} (h : ∀ y ∈ c, ∃ p, tfD kvs y = some p) : arePc kvs (some (c.map V.str)) = true := by
  show (c.map V.str).all (isPc kvs) = true
  rw [List.all_map, List.all_eq_true]
  intro y hy
  obtain ⟨p, hp⟩ := h y hy
  show (tfD kvs y).isSome = true
  rw [hp]
  rfl
def isCutV (kvs : List (Key × V)) (z : Str) (o : Option (List V)) : Bool := arePc kvs o && decide (joinV o = cs z)
/-! ### promises -/
def spIsCut (C : Addr) : Sp := fun vs H Q _ => ∃ b kvs z x o, vs = [.ref b, .str z, x] ∧ BT C H b kvs z ∧ AnyV H x o ∧ ∀ H', Same H H' → Q (.bl (isCutV kvs z o)) H'
def spLawIsCut : Sp := fun vs H Q _ => ∃ (d : Addr) (kvs : List (Key × V)) (z : Str) (x : V) (o : Option (List V)), vs = [.ref d, .str z, x] ∧ H d = some (.dK kvs) ∧ Tar kvs ∧ z.length ≤ 1000 ∧ AnyV H x o ∧ ∀ H', Same H H' → Q (.bl (isCutV kvs z o)) H'
def spPriceOf (C : Addr) : Sp := fun vs H Q _ => ∃ b kvs x o, vs = [.ref b, x] ∧ Book1 C H b kvs ∧ AnyV H x o ∧ arePc kvs o = true ∧ ∀ H', Same H H' → Q (.int (sumV kvs o)) H'
def spPriceAny (C CT : Addr) : Sp := fun vs H Q E => ∃ b kvs x o, vs = [.ref b, x] ∧ Book1 C H b kvs ∧ AnyV H x o ∧ ∀ H', Same H H' → (arePc kvs o = true → Q (.int (sumV kvs o)) H') ∧ (arePc kvs o = false → E (.ref CT) none H')
def spLawAny : Sp := fun vs H Q _ => ∃ (d : Addr) (kvs : List (Key × V)) (x : V) (o : Option (List V)), vs = [.ref d, x] ∧ H d = some (.dK kvs) ∧ Tar kvs ∧ AnyV H x o ∧ ∀ H', Same H H' → Q (.bl (arePc kvs o)) H'
/-- _law_price_told of a book and any value -/
def spPTold (C : Addr) : Sp := fun vs H Q _ => ∃ b kvs x o, vs = [.ref b, x] ∧ Book1 C H b kvs ∧ AnyV H x o ∧ ∀ H', Same H H' → (arePc kvs o = true → ∀ p, H p = none → H' p = some (.lst [.int (sumV kvs o)]) → Q (.ref p) H') ∧ (arePc kvs o = false → Q (.str "text") H')
def spTwoBook : Sp := fun vs H Q _ => ∃ x y, vs = [x, y] ∧ Val H x ∧ Q (.str "book") H
def spThreeBook : Sp := fun vs H Q _ => ∃ x y v, vs = [x, y, v] ∧ Val H x ∧ Q (.str "book") H
def spThreeText (C : Addr) : Sp := fun vs H Q _ => ∃ b kvs x y, vs = [.ref b, x, y] ∧ Book1 C H b kvs ∧ Val H x ∧ overV kvs x = false ∧ ∀ H', Same H H' → Q (.str "text") H'
def spCTold (C : Addr) : Sp := fun vs H Q _ => ∃ b kvs z x o, vs = [.ref b, .str z, x] ∧ BT C H b kvs z ∧ AnyV H x o ∧ ∀ p H', H p = none → H' p = some (.lst [.bl (isCutV kvs z o)]) → Same H H' → Q (.ref p) H'
/-- a call in a try, what it raises wished for at the slots as they stand -/
theorem pe_hasXS {X : Cx} {W : WX} {k : Nat} {x : Str} {ps : List Str} {sp : Sp} {p pos : Pos} {e : Expr} {es : List Expr} {t : TA} (F : HasO X.prog X.w X.K X.mg X.base (L2.CX X.prog X.w) k x ps sp) (hr : Room k X.A) (tk : Takes X W) (ha : PA X (e :: es) t) (hl : Gl X x := by rfl)
    (hdb : (x == ("__debug__" : Str)) = false := by decide) (he : starEach (e :: es) X.env = (false, eval e X.env) :: starEach es X.env := by rfl) (hpl : (backTo pos (starEach es X.env)).any (·.1) = false := by rfl) :
    PE X (.Call (.Name x p) (e :: es) [] pos) (tCallS sp (WE W) t) := by
  obtain ⟨f, fd, G, hm, hk, hb⟩ := F.ex
  exact pe_callS G hr hl hm hk hb (passAt tk) ha hdb he hpl
/-! ### lists stay lists, all else stays -/
def RL (H H' : Hp) : Prop := ∀ b u, H b = some u → match u with | .lst _ => ∃ xs, H' b = some (.lst xs) | _ => H' b = some u
theorem RL.of {H H' : Hp} (s : Same H H') : RL H H' := fun b u h => by
  have := s _ _ h
  cases u <;> first | exact this | exact ⟨_, this⟩
theorem RL.refl (H : Hp) : RL H H := .of (Same.refl H)
theorem RL.trans {H H1 H2 : Hp} (a : RL H H1) (b : RL H1 H2) : RL H H2 := fun c u h => by
  have h1 := a c u h
  cases u with
  | lst xs =>
    obtain ⟨ys, h1⟩ := h1
    exact b c _ h1
  | _ => exact b c _ h1
theorem RL.kp {l : Addr} {H H' : Hp} {m n : Nat} (D : Dice H l m) (D' : Dice H' l n) (k : Kp l H H') : RL H H' := fun b u h => by
  by_cases e : b = l
  · subst e
    obtain ⟨_, _, _, h1, _⟩ := D
    obtain ⟨_, _, _, h2, _⟩ := D'
    rw [h1] at h
    cases h
    exact ⟨_, h2⟩
  · have := k b u h e
    cases u <;> first | exact this | exact ⟨_, this⟩
theorem RL.upd {H : Hp} {a : Addr} {xs ys : List V} (h : H a = some (.lst xs)) : RL H (L2.upd H a (.lst ys)) := fun b u e => by
  by_cases q : b = a
  · subst q
    rw [h] at e
    cases e
    exact ⟨_, upd_same⟩
  · have : (L2.upd H a (.lst ys)) b = some u := by rw [upd_ne q]; exact e
    cases u <;> first | exact this | exact ⟨_, this⟩
theorem RL.tup {H H' : Hp} {p : Addr} {xs : List V} (r : RL H H') (h : H p = some (.tup xs)) : H' p = some (.tup xs) := r p _ h
theorem RL.lst {H H' : Hp} {p : Addr} {xs : List V} (r : RL H H') (h : H p = some (.lst xs)) : ∃ ys, H' p = some (.lst ys) := r p _ h
theorem RL.val {H H' : Hp} {x : V} (r : RL H H') (o : Val H x) : Val H' x := by
  rcases o with o | o
  · refine .inl ?_
    cases o with
    | non => exact .non
    | bl b => exact .bl b
    | int i => exact .int i
    | lst h =>
      obtain ⟨ys, h'⟩ := r.lst h
      exact .lst h'
    | tup h => exact .tup (r.tup h)
    | dK h => exact .dK (r _ _ h)
  · exact .inr o
theorem RL.not {H H' : Hp} {x : V} (r : RL H H') (o : NoT H x) : NoT H' x := by
  cases o with
  | non => exact .non
  | bl b => exact .bl b
  | int i => exact .int i
  | str h => exact .str h
  | lst h =>
    obtain ⟨ys, h'⟩ := r.lst h
    exact .lst h'
  | dK h => exact .dK (r _ _ h)
theorem RL.any {H H' : Hp} {x : V} {o : Option (List V)} (r : RL H H') (a : AnyV H x o) : AnyV H' x o := by
  cases a with
  | no n => exact .no (r.not n)
  | tup h l v => exact .tup (r.tup h) l fun y hy => r.val (v y hy)
theorem AnyV.val {H : Hp} {x : V} {o : Option (List V)} (a : AnyV H x o) : Val H x := by
  cases a with
  | no n => exact n.val
  | tup h l v => exact .inl (.tup h)
theorem mem_cutV {xs : List V} {lo hi : Option Int} {y : V} (h : y ∈ cutV xs lo hi) : y ∈ xs := by
  unfold cutV at h
  exact List.mem_of_mem_drop (List.mem_of_mem_take h)
theorem cutV_strs {c : List Str} {lo hi : Option Int} : ∃ c' : List Str, cutV (c.map V.str) lo hi = c'.map V.str ∧ c'.Sublist c := by
  unfold cutV
  rw [← List.map_drop, ← List.map_take]
  exact ⟨_, rfl, (List.take_sublist _ _).trans (List.drop_sublist _ _)⟩
theorem flat_sub {c c' : List Str} (h : c'.Sublist c) : (c'.map cs).flatten.length ≤ (c.map cs).flatten.length := by
  induction h with
  | slnil => exact Nat.le_refl _
  | cons a _ ih =>
    rw [List.map_cons, List.flatten_cons, List.length_append]
    omega
  | cons_cons a _ ih =>
    rw [List.map_cons, List.flatten_cons, List.length_append, List.map_cons, List.flatten_cons, List.length_append]
    omega
/-- _law_bent -/
def spBent : Sp := fun vs H Q _ => ∃ (l d t : Addr) (kvs : List (Key × V)) (c : List Str) (n : Nat), vs = [.ref l, .ref d, .ref t] ∧ d ≠ l ∧ H d = some (.dK kvs) ∧ arePrices kvs = true ∧ (kvs.map (·.1)).Nodup ∧ H t = some (.tup (c.map V.str)) ∧ c.length ≤ 100 ∧ (c.map cs).flatten.length ≤ 1000 ∧ Dice H l (n + 6) ∧
  ∀ x o H', AnyV H' x o → Kp l H H' → Dice H' l n → Q x H'
theorem Book1.rl {C : Addr} {H H' : Hp} {b : Addr} {kvs : List (Key × V)} (B : Book1 C H b kvs) (r : RL H H') : Book1 C H' b kvs := B.keep fun a o h n => by
  have := r a o h
  cases o <;> first | exact this | exact absurd rfl (n _)
theorem vapp {H : Hp} {xs ys : List V} (h1 : ∀ y ∈ xs, Val H y) (h2 : ∀ y ∈ ys, Val H y) : ∀ y ∈ xs ++ ys, Val H y := fun y hy => (List.mem_append.mp hy).elim (h1 y) (h2 y)
theorem vone {H : Hp} {x : V} (h : Val H x) : ∀ y ∈ [x], Val H y := fun y hy => by rw [List.mem_singleton.mp hy]; exact h
end G
/-! sorted of any number of texts; sorted(texts, key=len), sorted(texts, key=lambda x: -len(x)). -/
namespace G
open PySem PySem.Spec PyProof.Rows L2 LamX
/-! ### sorted(texts), any number -/
def rSortedSA (K : PySem.W.Frag) : List V → Hp → VK → Prop := fun vs H Q => ∃ (a : Addr) (xs : List Str), vs = [V.ref a] ∧ SqL K H a (xs.map V.str) ∧
  ∀ (ys : List Str) (p : Addr), ys.Perm xs → sortedS ys = true → H p = none → Q (.ref p) (upd H p (.lst (ys.map V.str)))
section
variable {X : Cx} {K : PySem.W.Frag}
theorem g_sortedSA (e : X.K = K := by rfl) : CallR X (.builtin "sorted") (rSortedSA K) := by
  subst e
  intro pins s σ H vs us Q I r h
  obtain ⟨a, xs, rfl, hs, q⟩ := h
  obtain ⟨its, rv, hl, hz⟩ := I.list hs
  rw [Vals.ref1 r]
  have hlen0 := rv.length
  refine PyProof.Rows.sorted_strsAny hl.isList rv.strs (by rw [← hlen0]; exact hz) fun out ys h1 h2 h3 => ?_
  obtain ⟨ep, he'⟩ := PyProof.Rows.sortedAll_at s.heap its out
  have hlen : (ys.map V.str).length ≤ sizeLine := by
    rw [List.length_map, h2.length_eq]
    rw [List.length_map] at hz
    exact hz
  exact ⟨.ref _, upd H (s.heap.objs.size + 1) (.lst (ys.map V.str)), I.laid (t' := s.toks) (fun _ _ => PyProof.Rows.sortedAll_old) (Nat.le_succ _) ⟨hlen, out.toList, ep, vals_of_strs h1, he'⟩, rfl, q ys _ h2 h3 (I.hok.fresh (Nat.le_succ _))⟩
end
/-! ### sorted(a tuple of texts) -/
section
variable {prog : Program} {w : World} {A : Around} {E : Value → Shared → Prop} {s : Shared}
/-- what a call collects of a tuple: a new list, then its items -/
theorem collect_tup {l : Addr} {vs : List Value} {Q : List Value → Shared → Prop} (hl : IsTup s.heap l vs.toArray) (hz : vs.length ≤ sizeLine)
    (h : Q vs { s with heap := (s.heap.push (seqObj "list" #[] 0)).update s.heap.objs.size (Obj.mapSeq (· ++ vs.toArray)) }) : wpAny (model prog w) A (collect (.ref l)) Q E s := by
  obtain ⟨o, ho, hc, n, hd⟩ := hl
  have hp := Heap.get?_push_size s.heap (o := seqObj "list" #[] 0) rfl
  have ho' : (s.heap.push (seqObj "list" #[] 0)).get? l = some o := Heap.get?_push_of_some _ ho
  unfold collect
  refine wpAny_bind (wpAny_runValue (codeAny_builtin entry_proto_collect' ?_))
  show wpAny _ _ (newList [] >>= fun z => again (.builtin "list.__iadd__" ⟨[z, .ref l], []⟩)) _ _ s
  refine wpAny_bind (wpAny_newList (wpAny_pure ⟨Code.quiet_builtin _ (by decide +kernel), codeAny_builtin entry_list_iadd' ?_⟩))
  show wpAny _ _ (Builtin.List.listExtendWith (.ref s.heap.objs.size) (.ref l) (.ref s.heap.objs.size)) _ _ { s with heap := s.heap.push (seqObj "list" #[] 0) }
  unfold Builtin.List.listExtendWith
  refine wpAny_bind (wpAny_typeOf (T := "tuple") ⟨o, ho', hc⟩ ?_)
  rw [if_pos (by rw [show (Value.type "tuple" == Value.type "tuple") = true from rfl, Bool.or_true])]
  refine wpAny_bind (listItems_at ho' hd (wpAny_bind (listItems_at (xs := #[]) (n := 0) hp rfl ?_)))
  rw [if_neg (by simp)]
  refine wpAny_bind (listUpdate_at (xs := #[]) (n := 0) hp rfl ?_ (Nat.zero_le _) (by show (#[] ++ vs.toArray).size ≤ sizeLine + 1; simp only [Array.size_append, List.size_toArray, List.length_nil]; omega))
  refine wpAny_pure ?_
  show wpAny (model prog w) A (load s.heap.objs.size >>= _) Q E { s with heap := (s.heap.push (seqObj "list" #[] 0)).update s.heap.objs.size (Obj.mapSeq (· ++ vs.toArray)) }
  refine wpAny_bind (wpAny_load (get?_update_seq hp _) ?_)
  show wpAny _ _ (pure ((#[] : Array Value) ++ vs.toArray).toList) Q E _
  rw [show ((#[] : Array Value) ++ vs.toArray).toList = vs by simp]
  exact wpAny_pure h
theorem sorted_tup {l : Addr} {vs : List Value} {ss : List Str} {Q : Value → Shared → Prop} (hl : IsTup s.heap l vs.toArray) (hS : StrsAre vs ss) (hL : vs.length ≤ sizeLine)
    (h : ∀ (out : Array Value) (ss' : List Str), StrsAre out.toList ss' → ss'.Perm ss → sortedS ss' = true → Q (.ref (s.heap.objs.size + 1)) { s with heap := sortedAll s.heap vs out }) :
    wpAny (model prog w) A (call (.builtin "sorted") [.ref l]) Q E s := by
  refine Calls.call_function_entry kind_sorted plain_sorted entry_sorted (args_sorted1 _) ?_
  unfold Builtin.«sorted»
  refine wpAny_bind (m := checkCount "sorted" 1 1 _) (wpAny_pure (wpAny_bind (collect_tup hl hL (wpAny_bind (wpAny_newList ?_ hL)))))
  have hsz : ((s.heap.push (seqObj "list" #[] 0)).update s.heap.objs.size (Obj.mapSeq (· ++ vs.toArray))).objs.size = s.heap.objs.size + 1 := by
    rw [Heap.size_update, size_push']
  have hoL : (((s.heap.push (seqObj "list" #[] 0)).update s.heap.objs.size (Obj.mapSeq (· ++ vs.toArray))).push (seqObj "list" vs.toArray 0)).get? (s.heap.objs.size + 1) = some (seqObj "list" vs.toArray 0) := by
    rw [← hsz]
    exact Heap.get?_push_size _ rfl
  show wpAny _ _ _ _ _ { s with heap := ((s.heap.push (seqObj "list" #[] 0)).update s.heap.objs.size (Obj.mapSeq (· ++ vs.toArray))).push (seqObj "list" vs.toArray 0) }
  rw [hsz]
  refine wpAny_bind (wpAny_holding (wpAny_call_entry slot_list_sort ⟨_, hoL, rfl⟩ entry_list_sort (list_sort_treeKAny strKind_oneLt hoL hS.keysOf (fun v₁ v₂ rest e => keyKind_strs (by rw [← e]; exact hS)) hL fun st' a1 a2 => ⟨_, rfl, ?_⟩) (args_list_sort _)))
  obtain ⟨ss', h1, h2, h3⟩ := sorted_out_str hS a1 a2
  exact wpAny_pure ⟨_, rfl, h _ ss' h1 h2 h3⟩
end
def rSortedTu (K : PySem.W.Frag) : List V → Hp → VK → Prop := fun vs H Q => ∃ (a : Addr) (xs : List Str), vs = [V.ref a] ∧ SqT K H a (xs.map V.str) ∧
  ∀ (ys : List Str) (p : Addr), ys.Perm xs → sortedS ys = true → H p = none → Q (.ref p) (upd H p (.lst (ys.map V.str)))
section
variable {X : Cx} {K : PySem.W.Frag}
theorem g_sortedTu (e : X.K = K := by rfl) : CallR X (.builtin "sorted") (rSortedTu K) := by
  subst e
  intro pins s σ H vs us Q I r h
  obtain ⟨a, xs, rfl, hs, q⟩ := h
  obtain ⟨its, rv, hl, hz⟩ := I.tuple hs
  rw [Vals.ref1 r]
  have hlen0 := rv.length
  refine sorted_tup hl rv.strs (by rw [← hlen0]; exact hz) fun out ys h1 h2 h3 => ?_
  obtain ⟨ep, he'⟩ := PyProof.Rows.sortedAll_at s.heap its out
  have hlen : (ys.map V.str).length ≤ sizeLine := by
    rw [List.length_map, h2.length_eq]
    rw [List.length_map] at hz
    exact hz
  exact ⟨.ref _, upd H (s.heap.objs.size + 1) (.lst (ys.map V.str)), I.laid (t' := s.toks) (fun _ _ => PyProof.Rows.sortedAll_old) (Nat.le_succ _) ⟨hlen, out.toList, ep, vals_of_strs h1, he'⟩, rfl, q ys _ h2 h3 (I.hok.fresh (Nat.le_succ _))⟩
end
/-! ### by a key -/
def StrV (v : Value) (z : Str) : Prop := ∃ t, v = Value.str z t
theorem each_strs : ∀ {zs : List Str} {us : List Value}, Vals (zs.map V.str) us → PySem.W.EachIs StrV us zs
  | [], _, h => by
    cases h
    exact .nil
  | z :: zs, _, h => by
    cases h with
    | cons r t => exact .cons r (each_strs t)
theorem vals_each : ∀ {zs : List Str} {us : List Value}, PySem.W.EachIs StrV us zs → Vals (zs.map V.str) us
  | [], _, h => by
    cases h
    exact .nil
  | z :: zs, _, h => by
    cases h with
    | cons r t => exact .cons r (vals_each t)
/-- texts by a key, as sorted leaves them -/
def byKey (k : Str → Int) (zs : List Str) : List Str := zs.mergeSort fun a b => decide (k a ≤ k b)
theorem byKey_perm (k : Str → Int) (zs : List Str) : (byKey k zs).Perm zs := List.mergeSort_perm _ _
section
variable {X : Cx} {pins : List (Addr × Obj)} {σ : L2.St} {H : Hp} {s : Shared}
theorem sort_key_run {a : Addr} {zs : List Str} {f : Value} {k : Str → Int} {Q : VK} (I : Inv X pins σ H s) (hu : X.A.units + 64 < cLine) (hs : SqL X.K H a (zs.map V.str)) (ht : ∀ x, Builtin.«list.sort» ⟨[.ref x], [(Str.ofString "key", f)]⟩ = ksk_tree x f false)
    (turn : ∀ (z : Str) (t : Tok), z ∈ zs → ∀ (h : Heap) (tk : Nat), (∀ b o, s.heap.get? b = some o → h.get? b = some o) →
      wpAny (model X.prog X.w) X.A.in1.in1 (call f [.str z t]) (PySem.W.KeyPure (.int (k z)) { s with heap := h, toks := tk }) (fun _ _ => False) { s with heap := h, toks := tk })
    (q : ∀ p, H p = none → Q (.ref p) (upd H p (.lst ((byKey k zs).map V.str)))) :
    wpAny (model X.prog X.w) X.A (call (.builtin "sorted") [.ref a] [(Str.ofString "key", f)]) (EP X pins σ Q) X.xe s := by
  obtain ⟨its, rv, hl, hz⟩ := I.list hs
  rw [List.length_map] at hz
  refine PySem.W.sorted_key_data (b := false) (bs := zs) (R := StrV) (fun z => PyData.int (k z)) hl.isList (each_strs rv) (PySem.W.AllAlike.of fun b b' => rfl) (PySem.W.Sortable.others fun b => ⟨by simp, by simp⟩) hz
    (fun x _ => by show X.A.units + 2 + 0 < cLine; omega) (PyProof.Rows.ksk_s1 _ _) (fun _ => PyProof.Rows.ksk_l1 _ _) ht (fun v z ⟨t, e⟩ hm h tk kp => by rw [e]; exact turn z t hm h tk kp) fun out c h' tk kp hn hg hl' hE => ?_
  rw [PySem.W.dataLe_int k] at hE
  have rv' := vals_each hE
  have hlen : ((byKey k zs).map V.str).length ≤ sizeLine := by
    rw [List.length_map, (byKey_perm k zs).length_eq]
    exact hz
  exact ⟨.ref _, upd H (s.heap.objs.size + 1) (.lst ((byKey k zs).map V.str)), I.laid (t' := tk) kp (Nat.le_succ _) ⟨hlen, out, c, rv', hg⟩, rfl, q _ (I.hok.fresh (Nat.le_succ _))⟩
/-- sorted(e, key=len) -/
def tSortK (K : PySem.W.Frag) (k : Str → Int) (t : TA) : TE := fun σ H Q => t σ H fun vs H1 => ∃ (a : Addr) (zs : List Str), vs = [.ref a] ∧ SqL K H1 a (zs.map V.str) ∧ (∀ z ∈ zs, z.length ≤ sizeLine) ∧ ∀ p, H1 p = none → Q (.ref p) (upd H1 p (.lst ((byKey k zs).map V.str)))
def lenK (z : Str) : Int := z.length
theorem pe_sortLen {e : Expr} {p p2 kp pos : Pos} {t : TA} (hu : X.A.units + 64 < cLine) (hg : Gl X "sorted") (hm : X.mg "sorted" = none) (hg2 : Gl X "len") (hm2 : X.mg "len" = none) (ha : PA X [e] t)
    (he : backTo pos (starEach [e] X.env) = (false, eval e X.env) :: backTo pos (starEach [] X.env) := by rfl) (hpl : (backTo pos (starEach [e] X.env)).any (·.1) = false := by rfl) :
    PE X (.Call (.Name "sorted" p) [e] [⟨some "key", .Name "len" p2, kp⟩] pos) (tSortK X.K lenK t) := by
  refine ⟨fun pins s σ H Q I h => ?_⟩
  refine wpAny_Call_Name_kw (ld_blt (u := .builtin "sorted") I hg hm (by decide +kernel) ?_ (by decide) (by decide))
  refine PyProof.Rows.callWith_kw (thn (ha.run pos pins s σ H _ I h) fun us s1 ⟨vs, H1, I1, r1, a, zs, ev, hs, hz, q⟩ => ?_) he hpl (by rfl) (by rfl)
  subst ev
  rw [Vals.ref1 r1]
  show wpAny _ _ (evalAll ((do let v ← eval (.Name "len" p2) X.env; standAt pos; pure v) :: [])) _ _ s1
  refine wpAny_evalAll_cons (wpAny_bind (ld_blt (u := .builtin "len") I1 hg2 hm2 (by decide +kernel) (wpAny_bind (wpAny_standAt (wpAny_pure (wpAny_evalAll_nil ?_)))) (by decide) (by decide)))
  refine sort_key_run (k := lenK) I1 hu hs (fun x => ksk_t4 _ _) (fun z t hm h tk kp => ?_) q
  have hn := line63
  have h1 := hz z hm
  exact PyProof.Rows.len_str (by omega) ⟨_, _, rfl, fun _ _ o => o, .int _ _⟩
/-! ### key=lambda x: -len(x) -/
theorem lam_neglen {A : Around} {f c' : Addr} {q x z : Str} {params : Arguments} {scope : Scope} {pm ctv : Value} {t : Tok} {p1 p2 p3 p4 : Pos} (I : Inv X pins σ H s) (hA : A.depth < recursionLimit)
    (hf : s.heap.get? f = some (PySem.W.kla_obj "<lambda>" q params (.UnaryOp .USub (.Call (.Name "len" p1) [.Name x p2] [] p3) p4) scope [] pm c' ctv)) (hcr : s.heap.CodeRec (.ref c') q)
    (hk : scope.kind = .function) (hco : scope.isCoroutine = false) (hgen : scope.isGenerator = false) (hnc : ∀ y ∈ scope.names, y.2 ≠ .cell) (hx : scope.names.lookup x = some .local) (hl : scope.names.lookup ("len" : Str) = some NameKind.globalImplicit)
    (hbind : ∀ (cv v : Value), bindArgs (PySem.W.kla_fn "<lambda>" q params (.UnaryOp .USub (.Call (.Name "len" p1) [.Name x p2] [] p3) p4) scope [] pm cv ctv) ⟨[v], []⟩ = pure [(x, v)]) (hm : X.mg "len" = none) (hz : z.length ≤ sizeLine)
    (hd : (x == ("__debug__" : Str)) = false := by decide) :
    wpAny (model X.prog X.w) A (call (.ref f) [.str z t]) (PySem.W.KeyPure (.int (-(z.length : Int))) s) (fun _ _ => False) s := by
  have nl := I.nolimit
  obtain ⟨mb, b1, b2⟩ := I.mod.blt
  have b1' := b1.keeps I.bk
  have g1 := I.mod.glob.keeps I.bk
  have hn := line63
  refine wpAny_call (PySem.W.kla_callFunE hA hf rfl hco hgen rfl hcr ?_)
  rw [hbind]
  refine wpAny_pure (wpAny_newFunctionEnv hnc (fun y hy => by rw [List.mem_singleton.mp hy]; exact hx) (fun h₁ hns hsb => ⟨nl.fresh _ hsb, ?_⟩) hk)
  have kp : ∀ b o, s.heap.get? b = some o → h₁.get? b = some o := fun b o e => hsb.extBut b o (Nat.ne_of_lt (Heap.lt_size e)) (Heap.get?_push_of_some _ e)
  refine PySem.W.kla_codeExpr ?_
  refine UnaryOp_ (wpAny_Call_Name_kw ?_)
  refine Calls.Name_function_global hk hl (Calls.loadGlobal_builtin (g1.keeps kp) hm (b1'.keeps kp) ((b2 "len" (by decide)).trans (show bootBuiltins ("len" : Str) = some (.builtin "len") by decide +kernel)) ?_) (by decide)
  refine PyProof.Rows.callWith_builtin1 ?_
  refine Calls.spliced_cons (wpAny_Name (wpAny_loadName_local hk hx hns (v := .str z t) (by simp) (Calls.spliced_nil ?_)) hd)
  refine PyProof.Rows.len_str (by omega) (PyProof.Rows.neg_int ?_)
  exact ⟨_, _, rfl, kp, .int _ _⟩
/-- the tables move, the new list is laid -/
def tSortL (T : List (Addr × Str)) (K : PySem.W.Frag) (k : Str → Int) (t : TA) : TE := fun σ H Q => t σ H fun vs H1 => Tabs T H1 ∧ ∃ (a : Addr) (zs : List Str), vs = [.ref a] ∧ SqL K H1 a (zs.map V.str) ∧ (∀ z ∈ zs, z.length ≤ sizeLine) ∧
  ∀ H2, ExtN H1 H2 → Tabs T H2 → ∀ p, H2 p = none → Q (.ref p) (upd H2 p (.lst ((byKey k zs).map V.str)))
def negLen (z : Str) : Int := -(z.length : Int)
theorem seqN {K : PySem.W.Frag} {H H' : Hp} {a : Addr} {xs : List V} (s : ExtN H H') (h : SqL K H a xs) : SqL K H' a xs := by
  rcases h with (h | ⟨o, h⟩) | h
  · exact Or.inl (Or.inl (s _ _ h fun _ e => by cases e))
  · exact Or.inl (Or.inr ⟨o, s _ _ h fun _ e => by cases e⟩)
  · exact Or.inr h
theorem pe_sortLam {T : List (Addr × Str)} {c P : Addr} {e : Expr} {x : Str} {params : Arguments} {scope : Scope} {p p1 p2 p3 p4 lpos kp pos : Pos} {t : TA} {k : Nat} (hr : Room (k + 3) X.A) (hg : Gl X "sorted") (hm : X.mg "sorted" = none) (hm2 : X.mg "len" = none)
    (TB : TabB X.base X.mg c P) (hcode : X.env.code = .ref c) (hmT : (P, X.env.qual ++ "<lambda>") ∈ T) (hu : ∀ p ∈ T, p.1 = P → p.2 = X.env.qual ++ "<lambda>") (hdef : defaultsOf params X.env = ([], [])) (ha : PA X [e] t)
    (hk : scope.kind = .function) (hco : scope.isCoroutine = false) (hgen : scope.isGenerator = false) (hnc : ∀ y ∈ scope.names, y.2 ≠ .cell) (hnf : ∀ y ∈ scope.names, y.2 ≠ .free) (hx : scope.names.lookup x = some .local) (hl : scope.names.lookup ("len" : Str) = some NameKind.globalImplicit)
    (hcl : cloFrom X.env.cells scope.names [] = [])
    (hbind : ∀ (q : Str) (pm cv ctv v : Value), bindArgs (PySem.W.kla_fn "<lambda>" q params (.UnaryOp .USub (.Call (.Name "len" p1) [.Name x p2] [] p3) p4) scope [] pm cv ctv) ⟨[v], []⟩ = pure [(x, v)])
    (he : backTo pos (starEach [e] X.env) = (false, eval e X.env) :: backTo pos (starEach [] X.env) := by rfl) (hpl : (backTo pos (starEach [e] X.env)).any (·.1) = false := by rfl) (hd : (x == ("__debug__" : Str)) = false := by decide) :
    PE X (.Call (.Name "sorted" p) [e] [⟨some "key", .Lambda params (.UnaryOp .USub (.Call (.Name "len" p1) [.Name x p2] [] p3) p4) scope lpos, kp⟩] pos) (tSortL T X.K negLen t) := by
  refine ⟨fun pins s σ H Q I h => ?_⟩
  refine wpAny_Call_Name_kw (ld_blt (u := .builtin "sorted") I hg hm (by decide +kernel) ?_ (by decide) (by decide))
  refine PyProof.Rows.callWith_kw (thn (ha.run pos pins s σ H _ I h) fun us s1 ⟨vs, H1, I1, r1, hT, a, zs, ev, hs, hz, q⟩ => ?_) he hpl (by rfl) (by rfl)
  subst ev
  rw [Vals.ref1 r1]
  show wpAny _ _ (evalAll ((do let v ← eval (.Lambda params (.UnaryOp .USub (.Call (.Name "len" p1) [.Name x p2] [] p3) p4) scope lpos) X.env; standAt pos; pure v) :: [])) _ _ s1
  refine wpAny_evalAll_cons (wpAny_bind (lam_make2 I1 TB hcode hmT hu hT hdef (fun y hy e => absurd e (hnf y hy)) fun f c' pm ctv H2 s2 I2 eN T2 hf hfn hfr hco' => wpAny_bind (wpAny_standAt (wpAny_pure (wpAny_evalAll_nil ?_)))))
  rw [hcl] at hf
  have hA : X.A.in1.in1.depth < recursionLimit := hr.in1.in1.depth
  refine sort_key_run (k := negLen) I2 hr.units (seqN eN hs) (fun x => ksk_t1 _ _) (fun z t hm' h tk kp => ?_) (q H2 eN T2)
  have I3 : Inv X pins σ H2 { s2 with heap := h, toks := tk } := I2.kept kp
  obtain ⟨⟨oc, vs, t', hoc, hdc, hvc⟩, _, _⟩ := I3.hok c' _ hco'
  exact lam_neglen I3 hA (kp _ _ hf) ⟨c', oc, vs, t', rfl, hoc, hdc, hvc⟩ hk hco hgen hnc hx hl (fun cv v => hbind _ _ _ _ _) hm2 (hz z hm') hd
end
end G
/-! Classes whose __init__ and methods have keyword-only parameters; sets of the ints of a comprehension; x is not True of anything. -/
namespace G
open PySem PySem.Spec PyProof.Rows L2 PpSet
section
variable {K : PySem.W.Frag} {x qual : Str} {st : Stmt} {f : Addr} {fd : FuncData} {kws : List (Str × V)}
theorem Fun.toD (F : Fun K x qual st f fd) (kd : KwdV K fd.kwdefaults kws) : FunD K x qual (defArgs st) (defBody st) (defScope st) [] kws f fd := by
  obtain ⟨⟨oc, od, kV, doc, pm, an, cdv, ct, osl, rfl, l, c⟩, kp⟩ := F
  exact ⟨⟨oc, od, .none, kV, doc, pm, an, cdv, ct, osl, rfl, l, c, .inl ⟨rfl, rfl⟩, kd⟩, kp⟩
end
/-- a class that may be made by its name, some parameters by keyword -/
structure MakK (P : Program) (w : World) (K : PySem.W.Frag) (mg : Str → Option Value) (base : Heap) (k : Nat) (x : Str) (C : Addr) (n : Nat) (ks : List Str) (gV : List V → List V → List V) (sp : Sp) : Prop where
  ex : ∃ (f : Addr) (fd : FuncData) (ps : List Str) (g : List Value → List Value → List Value), Mk K C f ∧ FnOk P w K mg base CX0 k f fd ps sp ∧ mg x = some (.ref C) ∧ KBn K fd ps (n + 1) ks g gV
/-- a method that may raise -/
structure MetX (P : Program) (w : World) (K : PySem.W.Frag) (mg : Str → Option Value) (base : Heap) (CX : CXT) (k : Nat) (C : Addr) (m : Str) (dvs : List V) (sp : Sp) : Prop where
  ex : ∃ (f : Addr) (fd : FuncData) (ps : List Str) (ds : List Value), Cls K C ∧ Meth K C m f ∧ FnOk P w K mg base CX k f fd ps sp ∧ L2.Binds K fd ps ds ∧ Vals dvs ds
/-- .. some parameters by keyword -/
structure MetKX (P : Program) (w : World) (K : PySem.W.Frag) (mg : Str → Option Value) (base : Heap) (CX : CXT) (k : Nat) (C : Addr) (m : Str) (n : Nat) (ks : List Str) (gV : List V → List V → List V) (sp : Sp) : Prop where
  ex : ∃ (f : Addr) (fd : FuncData) (ps : List Str) (g : List Value → List Value → List Value), Cls K C ∧ Meth K C m f ∧ FnOk P w K mg base CX k f fd ps sp ∧ KBn K fd ps (n + 1) ks g gV
section
variable {X : Cx} {W : WX} {k j n : Nat} {C f : Addr} {fd : FuncData} {ps ks : List Str} {x m : Str} {sp : Sp} {dvs : List V} {p pos apos : Pos} {e o : Expr} {es : List Expr} {kws : List Keyword} {ta : TE} {t tk : TA} {g : List Value → List Value → List Value} {gV : List V → List V → List V}
theorem pe_mkK (c : MakK X.prog X.w X.K X.mg X.base k x C n ks gV sp) (hr : Room j X.A) (hk : k + 1 ≤ j) (hg : Gl X x) (ha : PA X (e :: es) t) (hkw : PK X kws tk)
    (hall : (backToKw pos (keywordEach kws X.env)).all (·.1.isSome) = true := by rfl) (hks : (backToKw pos (keywordEach kws X.env)).filterMap (·.1) = ks := by rfl) (hdb : (x == ("__debug__" : Str)) = false := by decide)
    (he : starEach (e :: es) X.env = (false, eval e X.env) :: starEach es X.env := by rfl) (hpl : ((backTo pos (starEach (e :: es) X.env)).any (·.1) || (backToKw pos (keywordEach kws X.env)).any (·.1.isNone)) = false := by rfl) :
    PE X (.Call (.Name x p) (e :: es) kws pos) (tMakeK C n ks.length sp gV E0 t tk) := by
  obtain ⟨f, fd, ps, g, M, F, hm, hb⟩ := c.ex
  exact pe_makeK M F (hr.mono hk) hg hm hb pass0 ha hkw hall hks hdb he hpl
/-- a method called by what is positional and what is named, its errors wished for at the slots as they stand -/
def tMethXS (C : Addr) (m : Str) (sp : Sp) (dvs : List V) (E : L2.St → XK) (ta : TE) (t : TA) : TE := fun σ H Q => ta σ H fun x H1 => ∃ a dx fs, x = .ref a ∧ H1 a = some (.ins C dx fs) ∧ fs.lookup m = none ∧ t σ H1 fun vs H2 => sp (.ref a :: (vs ++ dvs)) H2 Q (E σ)
def tMethKXS (C : Addr) (m : Str) (n nk : Nat) (sp : Sp) (gV : List V → List V → List V) (E : L2.St → XK) (ta : TE) (t tk : TA) : TE := fun σ H Q => ta σ H fun x H1 => ∃ a dx fs, x = .ref a ∧ H1 a = some (.ins C dx fs) ∧ fs.lookup m = none ∧
  t σ H1 fun vs H2 => tk σ H2 fun zs H3 => vs.length = n ∧ zs.length = nk ∧ sp (gV (.ref a :: vs) zs) H3 Q (E σ)
theorem pe_mtXS {pl : Sem Bool} (c : MetX X.prog X.w X.K X.mg X.base (L2.CX X.prog X.w) k C m dvs sp) (hr : Room j X.A) (hk : k ≤ j) (tk : Takes X W) (he : PE X o ta) (ha : PA X (e :: es) t)
    (hst : starEach (e :: es) X.env = (false, eval e X.env) :: starEach es X.env := by rfl) (hpl : (backTo pos (starEach es X.env)).any (·.1) = false := by rfl)
    (ht : eval (.Call (.Attribute o m apos) (e :: es) [] pos) X.env = (do
      let ov ← eval o X.env
      standAt apos.atName
      let (f, first) ← holding [ov] (getMethod ov m pl)
      callWith pos f first (backTo pos (starEach (e :: es) X.env)) (backToKw pos (keywordEach [] X.env))) := by rfl) :
    PE X (.Call (.Attribute o m apos) (e :: es) [] pos) (tMethXS C m sp dvs (WE W) ta t) := by
  obtain ⟨f, fd, ps, ds, hc, hm, F, b, d⟩ := c.ex
  refine ⟨fun pins s σ H Q I h => ?_⟩
  refine PySem.W.methodCall_KW (pl := pl) (thn (he.run pins s σ H _ I h) fun u s1 ⟨x, H1, I1, rx, a, dx, fs, ex, ea, l, q⟩ => ?_) ht
  subst ex
  obtain rfl : u = Value.ref a := rx
  refine getmeth_ok I1 ea hc hm l ?_
  refine PySem.W.callWith_K (first := [.ref a]) (h₀ := X.base) I.ok.mod.kin hm.kp (thn (ha.run pos pins s1 σ H1 _ I1 q) fun us s2 ⟨vs, H2, I2, r, q2⟩ => ⟨I2.kIn, ?_⟩) hst hpl
  exact run_fnSD (us := .ref a :: us) (vs := .ref a :: vs) F (hr.mono hk) b d (passAt tk σ) I2 (.cons rfl r) q2
theorem run_fnNS {CX : CXT} {E : XK} {pins : List (Addr × Obj)} {σ : L2.St} {H : Hp} {s : Shared} {Q : VK} {us ws : List Value} {vs zs : List V} (F : FnOk X.prog X.w X.K X.mg X.base CX k f fd ps sp) (hr : Room k X.A) (hb : KBn X.K fd ps n ks g gV) (hx : PassesAt CX X σ E)
    (I : L2.Inv X pins σ H s) (r : Vals vs us) (rz : Vals zs ws) (l1 : vs.length = n) (l2 : zs.length = ks.length) (h : sp (gV vs zs) H Q E) : wpAny (model X.prog X.w) X.A (call (.ref f) us (ks.zip ws)) (EP X pins σ Q) X.xe s := by
  have r2 := hb.rel r rz
  refine wpAny_call (codeAny_mono (F.run X.A X.stack s H ⟨us, ks.zip ws⟩ (g us ws) (gV vs zs) Q E hr I.env0 (hb.to s us ws I.kIn (r.length.symm.trans l1) (rz.length.symm.trans l2)) r2 h) fun r s' hq => ?_)
  cases r with
  | error e => exact hx pins H s e s' I hq
  | ok fl =>
    cases fl with
    | ret u => exact I.after hq
    | next => exact False.elim hq
    | brk => exact False.elim hq
    | cont => exact False.elim hq
theorem pe_mtKXS {pl : Sem Bool} (c : MetKX X.prog X.w X.K X.mg X.base (L2.CX X.prog X.w) k C m n ks gV sp) (hr : Room j X.A) (hk : k ≤ j) (tkk : Takes X W) (he : PE X o ta) (ha : PA X (e :: es) t) (hkw : PK X kws tk)
    (hst : starEach (e :: es) X.env = (false, eval e X.env) :: starEach es X.env := by rfl) (hpl : ((backTo pos (starEach (e :: es) X.env)).any (·.1) || (backToKw pos (keywordEach kws X.env)).any (·.1.isNone)) = false := by rfl)
    (hall : (backToKw pos (keywordEach kws X.env)).all (·.1.isSome) = true := by rfl) (hks : (backToKw pos (keywordEach kws X.env)).filterMap (·.1) = ks := by rfl)
    (ht : eval (.Call (.Attribute o m apos) (e :: es) kws pos) X.env = (do
      let ov ← eval o X.env
      standAt apos.atName
      let (f, first) ← holding [ov] (getMethod ov m pl)
      callWith pos f first (backTo pos (starEach (e :: es) X.env)) (backToKw pos (keywordEach kws X.env))) := by rfl) :
    PE X (.Call (.Attribute o m apos) (e :: es) kws pos) (tMethKXS C m n ks.length sp gV (WE W) ta t tk) := by
  obtain ⟨f, fd, ps, g, hc, hm, F, b⟩ := c.ex
  refine ⟨fun pins s σ H Q I h => ?_⟩
  refine PySem.W.methodCall_KW (pl := pl) (thn (he.run pins s σ H _ I h) fun u s1 ⟨x, H1, I1, rx, a, dx, fs, ex, ea, l, q⟩ => ?_) ht
  subst ex
  obtain rfl : u = Value.ref a := rx
  refine getmeth_ok I1 ea hc hm l ?_
  refine PySem.W.callWith_KW (first := [.ref a]) (h₀ := X.base) I.ok.mod.kin hm.kp hall (thn (ha.run pos pins s1 σ H1 _ I1 q) fun us s2 ⟨vs, H2, I2, r, q2⟩ => ?_) hpl hst
  refine thn (hkw.run pos pins s2 σ H2 _ I2 q2) fun ws s3 ⟨zs, H3, I3, rz, l1, l2, q3⟩ => ⟨I3.kIn, ?_⟩
  rw [hks]
  exact run_fnNS (us := .ref a :: us) (vs := .ref a :: vs) F (hr.mono hk) b (passAt tkk σ) I3 (.cons rfl r) rz (congrArg (· + 1) l1) l2 q3
/-- the same of methods that let nothing out -/
theorem pe_mtO {pl : Sem Bool} (c : MetX X.prog X.w X.K X.mg X.base CX0 k C m dvs sp) (hr : Room j X.A) (hk : k ≤ j) (he : PE X o ta) (ha : PA X (e :: es) t)
    (hst : starEach (e :: es) X.env = (false, eval e X.env) :: starEach es X.env := by rfl) (hpl : (backTo pos (starEach es X.env)).any (·.1) = false := by rfl)
    (ht : eval (.Call (.Attribute o m apos) (e :: es) [] pos) X.env = (do
      let ov ← eval o X.env
      standAt apos.atName
      let (f, first) ← holding [ov] (getMethod ov m pl)
      callWith pos f first (backTo pos (starEach (e :: es) X.env)) (backToKw pos (keywordEach [] X.env))) := by rfl) :
    PE X (.Call (.Attribute o m apos) (e :: es) [] pos) (tMeth C m sp dvs E0 ta t) := by
  obtain ⟨f, fd, ps, ds, hc, hm, F, b, d⟩ := c.ex
  exact pe_meth (pl := pl) he hc hm F (hr.mono hk) b d pass0 ha hst hpl ht
theorem pe_mtKO {pl : Sem Bool} (c : MetKX X.prog X.w X.K X.mg X.base CX0 k C m n ks gV sp) (hr : Room j X.A) (hk : k ≤ j) (he : PE X o ta) (ha : PA X (e :: es) t) (hkw : PK X kws tk)
    (hst : starEach (e :: es) X.env = (false, eval e X.env) :: starEach es X.env := by rfl) (hpl : ((backTo pos (starEach (e :: es) X.env)).any (·.1) || (backToKw pos (keywordEach kws X.env)).any (·.1.isNone)) = false := by rfl)
    (hall : (backToKw pos (keywordEach kws X.env)).all (·.1.isSome) = true := by rfl) (hks : (backToKw pos (keywordEach kws X.env)).filterMap (·.1) = ks := by rfl)
    (ht : eval (.Call (.Attribute o m apos) (e :: es) kws pos) X.env = (do
      let ov ← eval o X.env
      standAt apos.atName
      let (f, first) ← holding [ov] (getMethod ov m pl)
      callWith pos f first (backTo pos (starEach (e :: es) X.env)) (backToKw pos (keywordEach kws X.env))) := by rfl) :
    PE X (.Call (.Attribute o m apos) (e :: es) kws pos) (tMethKXS C m n ks.length sp gV (fun _ => E0) ta t tk) := by
  obtain ⟨f, fd, ps, g, hc, hm, F, b⟩ := c.ex
  refine ⟨fun pins s σ H Q I h => ?_⟩
  refine PySem.W.methodCall_KW (pl := pl) (thn (he.run pins s σ H _ I h) fun u s1 ⟨x, H1, I1, rx, a, dx, fs, ex, ea, l, q⟩ => ?_) ht
  subst ex
  obtain rfl : u = Value.ref a := rx
  refine getmeth_ok I1 ea hc hm l ?_
  refine PySem.W.callWith_KW (first := [.ref a]) (h₀ := X.base) I.ok.mod.kin hm.kp hall (thn (ha.run pos pins s1 σ H1 _ I1 q) fun us s2 ⟨vs, H2, I2, r, q2⟩ => ?_) hpl hst
  refine thn (hkw.run pos pins s2 σ H2 _ I2 q2) fun ws s3 ⟨zs, H3, I3, rz, l1, l2, q3⟩ => ⟨I3.kIn, ?_⟩
  rw [hks]
  exact run_fnN (us := .ref a :: us) (vs := .ref a :: vs) F (hr.mono hk) b pass0 I3 (.cons rfl r) rz (congrArg (· + 1) l1) l2 q3
end
/-! ### what K holds of keyword defaults -/
theorem kwd_nil {K : PySem.W.Frag} {D : Addr} : ∀ q ∈ ([] : List (Str × V)), ∃ u, PySem.W.nsIn K D q.1 = some (some u) ∧ RelV q.2 u := fun q h => (List.not_mem_nil h).elim
theorem kwd_cons {K : PySem.W.Frag} {D : Addr} {x : Str} {v : V} {u : Value} {l : List (Str × V)} (h : PySem.W.nsIn K D x = some (some u)) (r : RelV v u) (t : ∀ q ∈ l, ∃ u, PySem.W.nsIn K D q.1 = some (some u) ∧ RelV q.2 u) :
    ∀ q ∈ (x, v) :: l, ∃ u, PySem.W.nsIn K D q.1 = some (some u) ∧ RelV q.2 u := fun q hq => by
  rcases List.mem_cons.mp hq with rfl | hq
  · exact ⟨u, h, r⟩
  · exact t q hq
theorem kwd_of {K : PySem.W.Frag} {D : Addr} {kV : Value} {kws : List (Str × V)} (e : kV = .ref D) (h : ∀ q ∈ kws, ∃ u, PySem.W.nsIn K D q.1 = some (some u) ∧ RelV q.2 u) : KwdV K kV kws := .inr ⟨D, e, h⟩
theorem vals_app {vs zs : List V} {us ws : List Value} (h1 : Vals vs us) (h2 : Vals zs ws) : Vals (vs ++ zs) (us ++ ws) := h1.append h2
/-! ### x is True, x is not True, x anything -/
def isBV (b : Bool) : V → Bool
  | .bl a => decide (a = b)
  | _ => false
def rNotBA : R2 := fun x y H Q => ∃ b : Bool, y = .bl b ∧ Q (.bl (!isBV b x)) H
theorem op_notBA {X : Cx} : OpR X (compareOp .IsNot) rNotBA := by
  intro pins s σ H x y v u Q I rx ry h
  obtain ⟨b, rfl, q⟩ := h
  cases (show u = Value.bool b from ry)
  have no : plainIs v (.bool b) = true → v ≠ .bool b → isBV b x = false → wpAny (model X.prog X.w) X.A (compareOp .IsNot v (.bool b)) (EP X pins σ Q) X.xe s := fun h1 h2 h3 => wpAny_isNot_other h1 h2 ⟨.bl true, H, I, rfl, by rw [h3] at q; exact q⟩
  cases x with
  | bl a =>
    cases (show v = Value.bool a from rx)
    by_cases e : a = b
    · subst e
      exact wpAny_isNot_self rfl ⟨.bl false, H, I, rfl, by simpa [isBV] using q⟩
    · exact no rfl (fun z => e (Value.bool.inj z)) (by simp [isBV, e])
  | non => cases rx; exact no rfl (fun z => nomatch z) rfl
  | int i => obtain ⟨t, rfl⟩ := rx; exact no rfl (fun z => nomatch z) rfl
  | str z => obtain ⟨t, rfl⟩ := rx; exact no rfl (fun z => nomatch z) rfl
  | byt z => obtain ⟨t, rfl⟩ := rx; exact no rfl (fun z => nomatch z) rfl
  | flt z => obtain ⟨t, rfl⟩ := rx; exact no rfl (fun z => nomatch z) rfl
  | ref a => cases rx; exact no rfl (fun z => nomatch z) rfl
  | ty z => cases rx; exact no rfl (fun z => nomatch z) rfl
section
variable {X : L2.Cx}
/-- xs != [] of any list -/
def rNeNl : R2 := fun x y H Q => ∃ a p xs, x = .ref a ∧ y = .ref p ∧ H a = some (.lst xs) ∧ H p = some (.lst []) ∧ Q (.bl (!xs.isEmpty)) H
theorem op_neNl (hu : X.A.units < cLine) : OpR X (compareOp .NotEq) rNeNl := by
  intro pins s σ H x y v u Q I rx ry h
  obtain ⟨a, p, xs, rfl, rfl, ha, hp, q⟩ := h
  cases rx
  cases ry
  obtain ⟨z1, i1, n1, r1, e1⟩ := I.hok a _ ha
  obtain ⟨z2, i2, n2, r2, e2⟩ := I.hok p _ hp
  have hi2 : i2 = [] := List.eq_nil_of_length_eq_zero r2.length.symm
  subst hi2
  have l1 : s.heap.IsList a i1.toArray := ⟨_, e1, rfl, _, rfl⟩
  have l2 : s.heap.IsList p ([] : List Value).toArray := ⟨_, e2, rfl, _, rfl⟩
  cases xs with
  | nil =>
    have hi1 : i1 = [] := List.eq_nil_of_length_eq_zero r1.length.symm
    subst hi1
    exact SeqAt.RcNeAt.lists (e := fun _ => true) l1 l2 rfl hu (fun j h1 => absurd h1 (by simp)) X.prog X.w _ _ ⟨.bl false, H, I, rfl, q⟩
  | cons w r =>
    refine SeqAt.RcNeAt.lists_lengths l1 l2 ?_ hu X.prog X.w _ _ ⟨.bl true, H, I, rfl, q⟩
    have := r1.length
    rw [List.size_toArray, List.size_toArray, ← this, List.length_cons, List.length_nil]
    exact bne_iff_ne.mpr (by omega)
end
end G
/-! Set comprehensions over any kind of tracked set (an accumulator Ac says how it begins and grows); sets of ints. -/
namespace G
open PySem PySem.Spec PyProof.Rows L2
/-- what a set comprehension builds: α tells the set's contents -/
structure Ac (X : Cx) (α : Type) where
  ob : Addr → α → HO
  nil : α
  can : V → α → Prop
  put : V → α → α
  fresh : ∀ {H : Hp} {h : Heap}, ObjOk X.prog X.w H (h.push { cls := .type "set", dict := none, data := .set #[] 0 (.fresh 0 0 (!X.w.params.followText "set-order")) }) h.objs.size (ob h.objs.size nil)
  add : ∀ {Z : Cx}, Z.prog = X.prog → Z.w = X.w → ∀ {pins : List (Addr × Obj)} {σ : L2.St} {H : Hp} {s : Shared} {E : Value → Shared → Prop} {D : Addr} {a : α} {y : V} {v : Value} {Q : Value → Shared → Prop}, L2.Inv Z pins σ H s → H D = some (ob D a) → can y a → RelV y v →
    (∀ u s', L2.Inv Z pins σ (upd H D (ob D (put y a))) s' → Q u s') → wpAny (model Z.prog Z.w) Z.A (call (.builtin "set.add") [.ref D, v]) Q E s
section
variable {X : Cx} {α : Type}
/-- {elt for target in iter if ..}: the wish -/
def tSetC (A : Ac X α) (wi : TI) (g : TG) (tt : TT) (te : TE) (vs : List Nat) : TE := fun σ H Q => wi σ H fun J H1 => ∀ D, H1 D = none → ∃ W : Nat → Nat → Hp → Prop, (∃ m, W 0 m (upd H1 D (A.ob D A.nil))) ∧ ∀ i m H, W i m H →
  (J.stop i H ∧ Q (.ref D) H) ∨ (J.go i H ∧ ∃ Nx : Hp → Prop, (∀ H', Nx H' → ∃ m', m' < m ∧ W (i + 1) m' H') ∧ ∀ x H', J.yld i H x H' → g x (wipe σ vs) H' fun σ2 H2 => wipe σ2 vs = wipe σ vs ∧ tt σ2 H2 fun b H3 =>
    if b = true then te σ2 H3 fun y H4 => ∃ a, H4 D = some (A.ob D a) ∧ A.can y a ∧ Nx (upd H4 D (A.ob D (A.put y a))) else Nx H3)
theorem pe_setC (A : Ac X α) {elt tg iter : Expr} {ifs : List Expr} {scope : Scope} {own : List (PySem.Str × Nat)} {pos : Pos} {wi : TI} {g : TG} {tt : TT} {te : TE} (hc : X.calm = true) (hN : X.N.Nodup) (hi : PI X tg iter wi) (ok : BlkOk X.N X.env.scope scope own)
    (hg : ∀ (s : Shared) (H : Hp) (C : Addr) (cl : List (PySem.Str × Addr)) (fp : List Addr), PG (X.blk s H scope (compEnvC scope cl C X.env) fp) tg g) (ht : ∀ (s : Shared) (H : Hp) (C : Addr) (cl : List (PySem.Str × Addr)) (fp : List Addr), PTs (X.blk s H scope (compEnvC scope cl C X.env) fp) ifs tt)
    (he : ∀ (s : Shared) (H : Hp) (C : Addr) (cl : List (PySem.Str × Addr)) (fp : List Addr), PE (X.blk s H scope (compEnvC scope cl C X.env) fp) elt te) (hs : ∀ x, foldedSetIterable iter X.env x = pure x := by intro _; rfl) :
    PE X (.SetComp elt [⟨tg, iter, ifs, 0⟩] scope pos) (tSetC A wi g tt te (own.map (·.2))) := by
  refine ⟨fun pins s σ H Q I h => ?_⟩
  rw [PpSet.eval_SetComp]
  have hfree : ∀ y ∈ scope.names, y.2 = .free → ∃ c, X.env.cells.lookup y.1 = some c := fun y hy e => (ok.free y hy e).elim (fun k => I.ok.has _ (.inl k)) fun k => I.ok.has _ (.inr k)
  refine wpAny_comprehension_free rfl hs (closure_ok hfree) ok.kind (fun y hy e => by rw [ok.uniq y hy, e]) (thn (hi.run pins s σ H _ I h) fun xv s1 hx => thn hx fun itv s2 h2 => ?_)
  obtain ⟨it, fp, tn, J, H2, e, I2, T, st2, f2, q⟩ := h2
  subst e
  refine PpSet.newSet_ok (newEnv_comp ?_)
  generalize hD : s2.heap.objs.size = D
  have hDn : H2 D = none := I2.hok.fresh (Nat.le_of_eq hD)
  obtain ⟨W, ⟨m0, w0⟩, turn⟩ := q D hDn
  generalize hO : ({ cls := .type "set", dict := none, data := .set #[] 0 (.fresh 0 0 (!X.w.params.followText "set-order")) } : Obj) = ob0
  generalize hs3 : ({ s2 with heap := s2.heap.push ob0 } : Shared) = s3
  have h3 : s3.heap = s2.heap.push ob0 := by rw [← hs3]
  have I3 : L2.Inv X pins σ (upd H2 D (A.ob D A.nil)) s3 := by
    rw [← hs3]
    refine I2.laid (t' := s2.toks) (fun b o e => Heap.get?_push_of_some _ e) (Nat.le_of_eq hD) ?_
    rw [← hD, ← hO]
    exact A.fresh
  have f3 : ∀ b ∈ fp, FpOk X pins (upd H2 D (A.ob D A.nil)) b ∧ b < s3.heap.objs.size := fun b hb => by
    obtain ⟨o, e, _⟩ := T.obj _ _ st2 b hb
    have hlt := Heap.lt_size e
    refine ⟨⟨?_, (f2 b hb).2⟩, by rw [h3, Heap.size_push]; exact Nat.lt_succ_of_lt hlt⟩
    rw [upd_ne (by rw [← hD]; exact Nat.ne_of_lt hlt)]
    exact (f2 b hb).1
  have I4 := block_start I3 ok hN f3
  have pg := hg s3 (upd H2 D (A.ob D A.nil)) s3.heap.objs.size (cellsFrom (s3.heap.objs.size + 1) scope.names (cloFrom X.env.cells scope.names [])) fp
  have pt := ht s3 (upd H2 D (A.ob D A.nil)) s3.heap.objs.size (cellsFrom (s3.heap.objs.size + 1) scope.names (cloFrom X.env.cells scope.names [])) fp
  have pe := he s3 (upd H2 D (A.ob D A.nil)) s3.heap.objs.size (cellsFrom (s3.heap.objs.size + 1) scope.names (cloFrom X.env.cells scope.names [])) fp
  show codeAny _ _ (.compStart (.SetComp elt [⟨tg, iter, ifs, 0⟩] scope pos) 0 (.ref it) (.ref D) (compEnvC scope (cellsFrom (s3.heap.objs.size + 1) scope.names (cloFrom X.env.cells scope.names [])) s3.heap.objs.size X.env)) _ { s3 with heap := pushCells (s3.heap.push { cls := .type "dict", data := .dict #[] }) scope.names }
  have nfp : ∀ b ∈ fp, (upd H2 D (A.ob D A.nil)) b = none := fun b hb => (f3 b hb).1.1
  have st4 : tn 0 (pushCells (s3.heap.push { cls := .type "dict", data := .dict #[] }) scope.names) := T.keep _ _ _ st2 fun b _ o e => pushCells_keeps _ _ _ _ (Heap.get?_push_of_some _ (by rw [h3]; exact Heap.get?_push_of_some _ e))
  generalize hce : compEnvC scope (cellsFrom (s3.heap.objs.size + 1) scope.names (cloFrom X.env.cells scope.names [])) s3.heap.objs.size X.env = ce at I4 pg pt pe ⊢
  have cL : ce.locals = s3.heap.objs.size := by subst hce; rfl
  generalize hH3 : upd H2 D (A.ob D A.nil) = H3 at I3 I4 pg pt pe w0 nfp f3
  generalize hs4 : ({ s3 with heap := pushCells (s3.heap.push { cls := .type "dict", data := .dict #[] }) scope.names } : Shared) = s4 at I4 ⊢
  have st4' : tn 0 s4.heap := by rw [← hs4]; exact st4
  have stat : ∀ {σ' : L2.St} {H' : Hp} {s' : Shared}, L2.Inv (X.blk s3 H3 scope ce fp) [] σ' H' s' → (∀ b ∈ fp, H' b = none) → ∀ b ∈ fp, FpOk (X.blk s3 H3 scope ce fp) [] H' b := fun {σ' H' s'} I' hn b hb =>
    ⟨hn b hb, (I'.ok.exf b hb).1, I'.ok.exfs b hb, .inl hb, fun x c e => (I'.ok.exf b hb).2 x c e, fun p hp => absurd (show p ∈ ([] : List (Addr × Obj)) ++ [] from hp) (by simp)⟩
  refine PpSet.codeAny_compStart_set ?L (T.self X.A 0 _ _ _ st4' ?L)
  refine PpSet.compLoopS_any (fun n s' => ∃ i H', L2.Inv (X.blk s3 H3 scope ce fp) [] (wipe σ (own.map (·.2))) H' s' ∧ tn i s'.heap ∧ (∀ b ∈ fp, H' b = none) ∧ W i n H') ?_ m0 ⟨0, H3, I4, st4', nfp, w0⟩
  rintro n s5 ⟨i, H5, I5, st5, n5, w5⟩
  rcases turn i n H5 w5 with ⟨stop, qq⟩ | ⟨go, Nx, hNx, step⟩
  · refine thnF (T.done (X.blk s3 H3 scope ce fp) rfl rfl rfl hc i [] s5 _ H5 (fun _ _ => False) I5 (stat I5 n5) st5 stop) fun r s6 ⟨hr, I6⟩ => ?_
    subst hr
    have I7 : L2.Inv X pins σ H5 s6 := I3.call' (ch := fp) I6.os I6.base I6.hok I6.bare fun b hb => ⟨(f3 b hb).1.2.2.2.1, (f3 b hb).1.2.1, (f3 b hb).1.2.2.2.2.1, (f3 b hb).1.2.2.2.2.2⟩
    have nC : H5 s3.heap.objs.size = none := by
      have z : H5 ce.locals = none := I6.free
      rw [cL] at z
      exact z
    obtain ⟨m, hn, _⟩ := I6.loc
    have hn : s6.heap.Ns ce.locals m := hn
    rw [cL] at hn
    obtain ⟨f0, f1, f2', f3', f4, f5⟩ := I3.fpOk (Nat.le_refl _) nC
    exact ⟨m, hn, fun h'' sb => ⟨.ref D, H5, I7.turned (t' := s6.toks) (fun b o hb e => (sb.2 b hb).trans e) nC f1 f3' f4 f5, rfl, qq⟩⟩
  refine thnF (T.item (X.blk s3 H3 scope ce fp) rfl rfl rfl hc i [] s5 _ H5 (fun _ _ => False) I5 (stat I5 n5) st5 go) fun r s6 ⟨u, hr, h6⟩ => ?_
  subst hr
  refine thnF h6 fun _ s7 ⟨x, H7, I7, r7, y7, st7, n7⟩ => ?_
  refine thnF (pg.run _ s7 _ H7 x u _ (I7.pinned (stat I7 n7) (T.obj _ _ st7)) r7 (step x H7 y7)) fun _ s8 ⟨σ8, H8, I8, hw8, q8⟩ => ?_
  refine thnF (pt.run _ s8 σ8 H8 _ I8 q8) fun b s9 ⟨H9, I9, q9⟩ => ?_
  have fin : ∀ {s' : Shared} {H' : Hp}, L2.Inv (X.blk s3 H3 scope ce fp) ([] ++ pinsAt fp s7.heap) σ8 H' s' → Nx H' → ∃ m, m < n ∧ ∃ i H', L2.Inv (X.blk s3 H3 scope ce fp) [] (wipe σ (own.map (·.2))) H' s' ∧ tn i s'.heap ∧ (∀ b ∈ fp, H' b = none) ∧ W i m H' := fun {s' H'} I' nx => by
    obtain ⟨m', hm, w'⟩ := hNx H' nx
    have pin' : ∀ b ∈ fp, ∀ o, s7.heap.get? b = some o → s'.heap.get? b = some o ∧ H' b = none := fun b hb o e =>
      let z := I'.pin (b, o) (List.mem_append_right _ (List.mem_append_right _ (mem_pinsAt hb e)))
      ⟨z.1, z.2.1⟩
    refine ⟨m', hm, i + 1, H', (I'.unpinned (pins := [])).weak (by rw [← hw8, wipe_length]) (fun j v e => ?_), T.keep _ _ _ st7 fun b hb o e => (pin' b hb o e).1, fun b hb => ?_, w'⟩
    · rw [← hw8] at e
      exact (wipe_some e).1
    · obtain ⟨o, e, _⟩ := T.obj _ _ st7 b hb
      exact (pin' b hb o e).2
  cases b with
  | false =>
    simp only [Bool.false_eq_true, if_false] at q9 ⊢
    exact fin I9 q9
  | true =>
    simp only [if_true] at q9 ⊢
    exact thnF (pe.run _ s9 σ8 H9 _ I9 q9) fun z s10 ⟨yv, H10, I10, r10, a, hD10, hcan, nx⟩ => A.add (Z := X.blk s3 H3 scope ce fp) rfl rfl I10 hD10 hcan r10 fun _ s11 I11 => fin I11 nx
/-- sets of ints, by the list of what was put in -/
def inS (l : List Int) (k : Int) : Bool := decide (k ∈ l)
def cntS : List Int → Nat
  | [] => 0
  | k :: l => if inS l k = true then cntS l else cntS l + 1
theorem cntS_le : ∀ l : List Int, cntS l ≤ l.length
  | [] => Nat.le_refl _
  | k :: l => by
    have := cntS_le l
    unfold cntS
    rw [List.length_cons]
    split <;> omega
def keyI : V → Int | .int k => k | _ => 0
def AcI (X : Cx) : Ac X (List Int) where
  ob D l := SetO X.w D (inS l) (cntS l)
  nil := []
  can y l := (∃ k, y = .int k) ∧ l.length + 1 < scanBound
  put y l := keyI y :: l
  fresh := by
    intro H h
    have e : inS [] = fun _ => false := funext fun k => by simp [inS]
    rw [e]
    exact setO_new (setR_fresh X.w)
  add := by
    rintro Z e1 e2 pins σ H s E D l y v Q I hD ⟨⟨k, rfl⟩, room⟩ r h
    obtain ⟨t, rfl⟩ := r
    rw [← e2] at hD h
    have R := setO_get I hD
    have c := cntS_le l
    refine setR_add R (by omega) fun h' sb new => ?_
    have he : ∃ u, h'.get? D = some u := by
      have ⟨o, _, _, _, ho, _⟩ := new
      exact ⟨o, ho⟩
    have e3 : (fun j => inS l j || decide (j = k)) = inS (k :: l) := funext fun j => by
      unfold inS
      rw [Bool.or_comm]
      simp [Bool.decide_or]
    refine h _ _ (I.write (e := D) (t' := s.toks + 1) (by rw [hD]; trivial) (.inl rfl) (fun b u hb hu => (sb.2 b hb).trans hu) he ?_)
    show ObjOk _ _ _ _ _ (SetO Z.w D (inS (k :: l)) (cntS (k :: l)))
    rw [← e3]
    exact setO_new new
end
/-- {elt for ..}, elt a whole number of the item alone; the parts change nothing -/
theorem scs {X : Cx} {α : Type} {J : It} {G : Hp → Prop} {Y : Nat → Hp → V → Hp → Prop} (its : List α) (w : Walk J its.length G Y) (h : α → Int) {g : TG} {tt : TT} {te : TE} {vs : List Nat} {σ : L2.St} {H1 : Hp} {D : Addr} {Qd : Hp → Prop} (hD : H1 D = none) (hz : its.length ≤ 4000) (hG : ∀ H, Same H1 H → G H)
    (hs : ∀ i a x H H', its[i]? = some a → Same H1 H → Y i H x H' → ∀ (N : VK) (M : Hp → Prop), (∀ H3, Same H H3 → N (.int (h a)) H3) → g x (wipe σ vs) H' fun σ2 H2 => wipe σ2 vs = wipe σ vs ∧ tt σ2 H2 fun b H3 => if b = true then te σ2 H3 N else M H3)
    (hd : ∀ H (l : List Int), Same H1 H → (∀ k, k ∈ l ↔ k ∈ its.map h) → l.length = its.length → H D = some (SetO X.w D (inS l) (cntS l)) → Qd H) :
    ∃ W : Nat → Nat → Hp → Prop, (∃ m, W 0 m (upd H1 D ((AcI X).ob D (AcI X).nil))) ∧ ∀ i m H, W i m H →
      (J.stop i H ∧ Qd H) ∨ (J.go i H ∧ ∃ Nx : Hp → Prop, (∀ H', Nx H' → ∃ m', m' < m ∧ W (i + 1) m' H') ∧ ∀ x H', J.yld i H x H' → g x (wipe σ vs) H' fun σ2 H2 => wipe σ2 vs = wipe σ vs ∧ tt σ2 H2 fun b H3 =>
        if b = true then te σ2 H3 fun y H4 => ∃ a, H4 D = some ((AcI X).ob D a) ∧ (AcI X).can y a ∧ Nx (upd H4 D ((AcI X).ob D ((AcI X).put y a))) else Nx H3) := by
  refine ⟨fun i m H => m = its.length - i ∧ i ≤ its.length ∧ Same H1 H ∧ H D = some ((AcI X).ob D ((its.take i).map h).reverse), ⟨its.length, by simp, Nat.zero_le _, same_new hD, upd_same⟩, ?_⟩
  rintro i m H ⟨rfl, hi, s, e⟩
  by_cases hlt : i < its.length
  · refine .inr ⟨w.goes i H hlt (hG H s), fun H' => Same H1 H' ∧ H' D = some ((AcI X).ob D ((its.take (i + 1)).map h).reverse), fun H' p' => ⟨its.length - (i + 1), by omega, rfl, hlt, p'⟩, fun x H' y => ?_⟩
    obtain ⟨a, ha⟩ : ∃ a, its[i]? = some a := ⟨_, List.getElem?_eq_getElem hlt⟩
    refine hs i a x H H' ha s (w.yields i H x H' hlt (hG H s) y) _ _ fun H3 s3 => ⟨_, s3 _ _ e, ⟨⟨_, rfl⟩, ?_⟩, fun b o q => ?_, ?_⟩
    · rw [List.length_reverse, List.length_map, List.length_take]
      exact Nat.lt_of_le_of_lt (by omega : _ ≤ 4001) (by decide)
    · rw [upd_ne (ne_of_none q hD)]
      exact s3 _ _ (s _ _ q)
    · rw [upd_same, List.take_add_one, ha, List.map_append, List.reverse_append]
      rfl
  · have e1 : i = its.length := by omega
    subst e1
    refine .inl ⟨w.stops H (hG H s), hd H _ s (fun k => by rw [List.mem_reverse, List.take_length]) (by rw [List.length_reverse, List.length_map, List.take_length]) e⟩
end G
/-! sorted(dict of texts), sorted(set of ints): any number of them. -/
namespace G
open PySem PySem.Spec PyProof.Rows L2
section
variable {X : Cx}
/-- what sorted leaves of a new list's items, all texts -/
theorem sort_new_strs {pins : List (Addr × Obj)} {σ : L2.St} {H : Hp} {s : Shared} {h' : Heap} {tk : Nat} {its : List Value} {ks : List Str} {Q : VK} (I : L2.Inv X pins σ H { s with heap := h', toks := tk }) (hS : StrsAre its ks) (hz : its.length ≤ sizeLine) (hl : its.length = ks.length)
    (q : ∀ ys p, ys.Perm ks → sortedS ys = true → H p = none → Q (.ref p) (upd H p (.lst (ys.map V.str)))) :
    wpAny (model X.prog X.w) X.A.in1 (newList its >>= fun l => do
      let _ ← holding [l] (call (.builtin "list.sort") [l] [])
      ret l) (fun fin s' => ∃ v, fin = .done (.ret v) ∧ EP X pins σ Q v s') (fun e s' => X.xe e s') { s with heap := h', toks := tk } := by
  refine wpAny_bind (wpAny_newList ?_ hz)
  have hoL : (h'.push (seqObj "list" its.toArray 0)).get? h'.objs.size = some (seqObj "list" its.toArray 0) := Heap.get?_push_size _ rfl
  show wpAny _ _ _ _ _ { s with heap := h'.push (seqObj "list" its.toArray 0), toks := tk }
  refine wpAny_bind (wpAny_holding (wpAny_call_entry slot_list_sort ⟨_, hoL, rfl⟩ entry_list_sort
    (list_sort_treeKAny strKind_oneLt (s := { s with heap := h'.push (seqObj "list" its.toArray 0), toks := tk }) hoL hS.keysOf (fun v₁ v₂ rest e => keyKind_strs (by rw [← e]; exact hS)) hz fun st' hp hs => ⟨_, rfl, ?_⟩)
    (args_list_sort _)))
  obtain ⟨ys, g1, g2, g3⟩ := sorted_out_str hS hp hs
  obtain ⟨e', he'⟩ := sortedHeap_at (vs := its) (out := (arrOf st').map (·.2)) hoL
  have hlen : (ys.map V.str).length ≤ sizeLine := by
    rw [List.length_map, g2.length_eq, ← hl]
    exact hz
  refine wpAny_pure ⟨_, rfl, .ref h'.objs.size, upd H h'.objs.size (.lst (ys.map V.str)), I.laid (t' := tk) (fun b u e => ?_) (Nat.le_refl _) ⟨hlen, ((arrOf st').map (·.2)).toList, e', vals_of_strs g1, he'⟩, rfl, q ys _ g2 g3 (I.hok.fresh (Nat.le_refl _))⟩
  have hlt := Heap.lt_size e
  show (sortedHeap (h'.push (seqObj "list" its.toArray 0)) h'.objs.size its ((arrOf st').map (·.2))).get? b = some u
  rw [sortedHeap_old (Nat.ne_of_lt hlt) (by rw [size_push']; exact Nat.lt_succ_of_lt hlt)]
  exact Heap.get?_push_of_some _ e
theorem call_sortedDA (hcalm : X.calm = true) : CallR X (.builtin "sorted") (fun xs H Q => ∃ (a : Addr) (kvs : List (Key × V)) (ks : List Str), xs = [.ref a] ∧ Rd H a (.dK kvs) ∧ kvs.map (·.1) = ks.map Sum.inr ∧
    ∀ ys p, ys.Perm ks → sortedS ys = true → H p = none → Q (.ref p) (upd H p (.lst (ys.map V.str)))) := by
  intro pins s σ H xs us Q I r q
  obtain ⟨a, kvs, ks, rfl, hd, hks, q⟩ := q
  obtain ⟨u, rfl, rx⟩ := vals1 r
  cases rx
  obtain ⟨z, lo, vs, rel, dd⟩ := dk_rd I.hok hd
  obtain ⟨ep, hat⟩ := dd.dictAt
  have hkeys : vs.map (·.1) = ks.map Sum.inr := rel.keys.symm.trans hks
  have hl : vs.length = ks.length := by
    have e := congrArg List.length hkeys
    rwa [List.length_map, List.length_map] at e
  have hkl : kvs.length = ks.length := by
    have e := congrArg List.length hks
    rwa [List.length_map, List.length_map] at e
  have h16 : vs.length ≤ sizeLine := by rw [hl, ← hkl]; exact z
  refine Calls.call_function_entry kind_sorted plain_sorted entry_sorted (args_sorted1 _) ?_
  unfold Builtin.«sorted»
  refine wpAny_bind (m := checkCount "sorted" 1 1 _) (wpAny_pure ?_)
  refine wpAny_bind (PySem.W.kdu_collect (A := X.A.in1) (PySem.W.kdl_dict (knd := mixKind X.prog X.w) (kvs := vs) (ep := ep) lo) (I.ok.hd hcalm) hat h16 fun h' tk acc hk hacc => ?_)
  have hal : acc.toList.length = ks.length := by rw [Array.length_toList, hacc.1, hl]
  have hS : StrsAre acc.toList ks := strs_at hal fun j v e => by
    obtain ⟨k, x, e1, e2⟩ := hacc.2 j v (by rw [← Array.getElem?_toList]; exact e)
    have e3 : (vs.map (·.1))[j]? = some k := by rw [List.getElem?_map, e1]; all_goals rfl
    rw [hkeys, List.getElem?_map] at e3
    cases e4 : ks[j]? with
    | none => rw [e4] at e3; cases e3
    | some y =>
      rw [e4] at e3
      have e5 : Sum.inr y = k := Option.some.inj e3
      subst e5
      obtain ⟨t, ev⟩ := Value.isStrOf_shape (x := y) (v := v) e2
      exact ⟨y, t, rfl, ev⟩
  exact sort_new_strs (I.kept hk) hS (by rw [hal, ← hl]; exact h16) hal q
/-- sorted(a set of ints) -/
def rSortedSetA (w : World) : List V → Hp → VK → Prop := fun vs H Q => ∃ (a : Addr) (S : Int → Bool) (n : Nat), vs = [V.ref a] ∧ H a = some (SetO w a S n) ∧
  ∀ (ns : List Int) (p : Addr), ns.Pairwise (· < ·) → (∀ k : Int, k ∈ ns ↔ S k = true) → ns.length = n → H p = none → Q (.ref p) (upd H p (.lst (ns.map V.int)))
theorem cr_sortedSetA (hc : X.calm = true) : CallR X (.builtin "sorted") (rSortedSetA X.w) := by
  intro pins s σ H vs us Q I r h
  obtain ⟨a, S, n, rfl, ha, q⟩ := h
  obtain ⟨o, es, ep, t, ho, hex, hd, g, nd, hm, hb, hf, hn, hr, hl⟩ := setO_get I ha
  rw [Vals.ref1 r]
  refine Calls.call_function_entry kind_sorted plain_sorted entry_sorted (args_sorted1 _) ?_
  unfold Builtin.«sorted»
  refine wpAny_bind (m := checkCount "sorted" 1 1 _) (wpAny_pure ?_)
  refine wpAny_bind (collect_set (A := X.A.in1) (I.ok.hd hc) ⟨o, ho, hex.1, hd⟩ hf hb hr hl fun s1 vs k1 hz g1 o1 pm => ?_)
  have hvl : vs.length = n := by rw [pm.length_eq, List.length_map, Array.length_toList]; exact hn
  have hvs : vs.length ≤ sizeLine := by
    have : es.size < 4096 := hb
    rw [hvl, ← hn]
    exact Nat.le_trans (by omega : _ ≤ 4096) (by decide)
  have hI : IntsAre vs (vs.map Builtin.Re.reRawOf) := ints_of vs fun v hv => by
    obtain ⟨e, he, q⟩ := List.mem_map.mp (pm.mem_iff.mp hv)
    obtain ⟨k, tk, h1, _⟩ := g e he
    exact ⟨k, tk, by rw [← q]; exact h1⟩
  have pk : (vs.map Builtin.Re.reRawOf).Perm (es.toList.map keyOf) := by
    have q := pm.map Builtin.Re.reRawOf
    rw [List.map_map] at q
    exact q
  refine wpAny_bind (wpAny_newList ?_ hvs)
  have hoL : (s1.heap.push (seqObj "list" vs.toArray 0)).get? s1.heap.objs.size = some (seqObj "list" vs.toArray 0) := Heap.get?_push_size _ rfl
  refine wpAny_bind (wpAny_holding (wpAny_call_entry slot_list_sort ⟨_, hoL, rfl⟩ entry_list_sort (list_sort_treeAny hoL hI hvs fun out ns' a1 a2 a3 => ⟨_, rfl, ?_⟩) (args_list_sort _)))
  obtain ⟨c, hc'⟩ := sortedHeap_at (vs := vs) (out := out) hoL
  have pn : ns'.Perm (es.toList.map keyOf) := a2.trans pk
  have hnl : ns'.length = n := by rw [pn.length_eq, List.length_map, Array.length_toList]; exact hn
  have hlen : (ns'.map V.int).length ≤ sizeLine := by rw [List.length_map, hnl, ← hvl]; exact hvs
  have kp : ∀ b u, s.heap.get? b = some u → (sortedHeap (s1.heap.push (seqObj "list" vs.toArray 0)) s1.heap.objs.size vs out).get? b = some u := fun b u e => by
    have q := k1 b u e
    have hlt := Heap.lt_size q
    rw [sortedHeap_old (Nat.ne_of_lt hlt) (by rw [size_push']; exact Nat.lt_succ_of_lt hlt)]
    exact Heap.get?_push_of_some _ q
  have hnone : H s1.heap.objs.size = none := I.hok.fresh hz
  have J : L2.Inv X pins σ (upd H s1.heap.objs.size (.lst (ns'.map V.int))) { s with heap := sortedHeap (s1.heap.push (seqObj "list" vs.toArray 0)) s1.heap.objs.size vs out, gens := s1.gens, drawn := s1.drawn, toks := s1.toks } :=
    I.call (ch := []) (Un.laid kp hz hnone) (I.hok.laid kp hz ⟨hlen, out.toList, c, vals_of_ints a1, hc'⟩) (by rw [g1]; exact I.bare) (fun _ z => nomatch z)
  refine wpAny_pure ⟨_, rfl, .ref s1.heap.objs.size, upd H s1.heap.objs.size (.lst (ns'.map V.int)), ?_, rfl, q ns' _ (lt_of_le_nodup ns' a3 (pn.nodup_iff.mpr nd)) (fun k => by rw [pn.mem_iff, ← hm k]) hnl hnone⟩
  have e : ({ s1 with heap := sortedHeap (s1.heap.push (seqObj "list" vs.toArray 0)) s1.heap.objs.size vs out } : Shared) = { s with heap := sortedHeap (s1.heap.push (seqObj "list" vs.toArray 0)) s1.heap.objs.size vs out, gens := s1.gens, drawn := s1.drawn, toks := s1.toks } := by
    cases s1
    cases s
    cases o1
    rfl
  rw [← e] at J
  exact J
end
end G
/-! Cutters: what a window tells (plain), a cutter's object, the promises of the defs about it. -/
namespace G
open PySem PySem.Spec PyProof.Rows L2 LamX
/-! ### tables of windows -/
def tabAt (T : List (Key × V)) (z : Str) : Option Str := match valV T (Sum.inr z) with | some (.str y) => some y | _ => none
structure WinOk (F : Tf) (m : Int) (T : List (Key × V)) : Prop where
  nd : (T.map (·.1)).Nodup
  len : T.length ≤ 2000
  ent : ∀ kv ∈ T, ∃ z y : Str, kv = (Sum.inr z, V.str y) ∧ 1 ≤ (cs z).length ∧ ((cs z).length : Int) ≤ m ∧ Over F (cs z) ∧ (∃ p, F y = some p) ∧ ∃ r, cs z = cs y ++ r
theorem WinOk.at' {F : Tf} {m : Int} {T : List (Key × V)} (W : WinOk F m T) {z : Str} {v : V} (h : valV T (Sum.inr z) = some v) : ∃ y, v = .str y ∧ 1 ≤ (cs z).length ∧ ((cs z).length : Int) ≤ m ∧ Over F (cs z) ∧ (∃ p, F y = some p) ∧ ∃ r, cs z = cs y ++ r := by
  have hm := valV_mem h
  obtain ⟨z', y, e, r⟩ := W.ent _ hm
  cases e
  exact ⟨y, rfl, r⟩
theorem WinOk.val {F : Tf} {m : Int} {T : List (Key × V)} (W : WinOk F m T) (z : Str) : valV T (Sum.inr z) = (tabAt T z).map V.str := by
  unfold tabAt
  cases h : valV T (Sum.inr z : Key) with
  | none => rfl
  | some v =>
    obtain ⟨y, rfl, _⟩ := W.at' h
    rfl
theorem tabAt_some {F : Tf} {m : Int} {T : List (Key × V)} (W : WinOk F m T) {z y : Str} (h : tabAt T z = some y) : 1 ≤ (cs z).length ∧ ((cs z).length : Int) ≤ m ∧ Over F (cs z) ∧ (∃ p, F y = some p) ∧ ∃ r, cs z = cs y ++ r := by
  have e : valV T (Sum.inr z) = some (.str y) := by rw [W.val, h]; rfl
  obtain ⟨y', e', r⟩ := W.at' e
  cases e'
  exact r
/-! ### what a window tells -/
def preS (w : Str) (n : Nat) : Str := sOf ((cs w).take n)
def firstT (T : List (Key × V)) (w : Str) : Option Str := (List.range (cs w).length).findSome? fun j => tabAt T (preS w (j + 1))
def firstP (ord : List Str) (w : Str) : Option Str := (ord.filter fun y => Txt.startswith w y).head?
def tellS (ord : List Str) (T E : List (Key × V)) (w : Str) (over : Bool) : Option Str := ((if over = true then tabAt E w else none).or (firstT T w)).or (firstP ord w)
theorem cut_pre {w : Str} {n : Nat} : cutS w none (some (n : Int)) = preS w n := by
  refine str_ext ?_
  unfold preS
  rw [cs_sOf]
  by_cases h : n ≤ w.length
  · exact cs_cutTo h
  · rw [cs_cut, sIx_pos (by omega)]
    show ((cs w).drop 0).take (min (Int.toNat (n : Int)) w.length - 0) = _
    have := cs_len w
    rw [List.drop_zero, Int.toNat_natCast, List.take_of_length_le (by omega), List.take_of_length_le (by omega)]
theorem pre_all {w : Str} {n : Nat} (h : (cs w).length ≤ n) : preS w n = w := by
  unfold preS
  rw [List.take_of_length_le h, sOf_cs]
theorem pre_len {w : Str} {n : Nat} : (cs (preS w n)).length = min n (cs w).length := by
  unfold preS
  rw [cs_sOf, List.length_take]
theorem fs_head {α β : Type} (f : α → Option β) : ∀ l : List α, l.findSome? f = (l.filter fun a => (f a).isSome).head?.bind f
  | [] => rfl
  | a :: l => by
    cases h : f a with
    | none =>
      rw [List.findSome?_cons, h, List.filter_cons_of_neg (by rw [h]; exact Bool.false_ne_true)]
      exact fs_head f l
    | some b =>
      rw [List.findSome?_cons, h, List.filter_cons_of_pos (by rw [h]; rfl)]
      show some b = f a
      rw [h]
theorem firstT_none {T : List (Key × V)} {w : Str} (h : ∀ n, 1 ≤ n → n ≤ (cs w).length → tabAt T (preS w n) = none) : firstT T w = none := by
  unfold firstT
  rw [List.findSome?_eq_none_iff]
  intro j hj
  exact h _ (by omega) (by have := List.mem_range.mp hj; omega)
theorem firstT_some {T : List (Key × V)} {w y : Str} {n : Nat} (h1 : 1 ≤ n) (h2 : n ≤ (cs w).length) (ht : tabAt T (preS w n) = some y) (h : ∀ m, 1 ≤ m → m < n → tabAt T (preS w m) = none) : firstT T w = some y := by
  obtain ⟨j, rfl⟩ : ∃ j, n = j + 1 := ⟨n - 1, by omega⟩
  unfold firstT
  have e : List.range (cs w).length = List.range j ++ (j :: (List.range ((cs w).length - j - 1)).map (fun i => i + (j + 1))) := by
    have e1 : (cs w).length = j + ((cs w).length - j - 1 + 1) := by omega
    conv => lhs; rw [e1, List.range_add]
    rw [List.range_succ_eq_map]
    simp only [List.map_cons, List.map_map, Nat.add_zero]
    refine congrArg (List.range j ++ ·) (congrArg (j :: ·) (List.map_congr_left fun i _ => ?_))
    show j + (i + 1) = i + (j + 1)
    omega
  rw [e, List.findSome?_append, List.findSome?_eq_none_iff.mpr fun i hi => h _ (by omega) (by have := List.mem_range.mp hi; omega), Option.none_or, List.findSome?_cons, ht]
/-- the sizes of a table's keys, ascending -/
structure SizesOf (T : List (Key × V)) (ns : List Int) : Prop where
  up : ns.Pairwise (· < ·)
  mem : ∀ k : Int, k ∈ ns ↔ ∃ z y, (Sum.inr z, V.str y) ∈ T ∧ k = ((cs z).length : Int)
section
variable {F : Tf} {m : Int} {T : List (Key × V)} {ns : List Int} {w : Str}
theorem SizesOf.pos (S : SizesOf T ns) (W : WinOk F m T) {k : Int} (h : k ∈ ns) : ∃ n : Nat, k = (n : Int) ∧ 1 ≤ n := by
  obtain ⟨z, y, hm, rfl⟩ := (S.mem k).mp h
  obtain ⟨z', y', e, h1, _⟩ := W.ent _ hm
  cases e
  exact ⟨_, rfl, h1⟩
/-- a beginning that is in the table has one of the sizes -/
theorem SizesOf.has (S : SizesOf T ns) (W : WinOk F m T) {z y : Str} (h : tabAt T z = some y) : (((cs z).length : Nat) : Int) ∈ ns := by
  have e : valV T (Sum.inr z) = some (.str y) := by rw [W.val, h]; rfl
  exact (S.mem _).mpr ⟨z, y, valV_mem e, rfl⟩
theorem before {j : Nat} {k : Int} (up : ns.Pairwise (· < ·)) {n : Int} (hj : ns[j]? = some n) (hk : k ∈ ns) (h : k < n) : ∃ i, i < j ∧ ns[i]? = some k := by
  obtain ⟨i, hi, e⟩ := List.mem_iff_getElem.mp hk
  refine ⟨i, ?_, by rw [List.getElem?_eq_getElem hi, e]⟩
  obtain ⟨hj', ej⟩ := List.getElem?_eq_some_iff.mp hj
  rcases Nat.lt_trichotomy i j with h1 | h1 | h1
  · exact h1
  · subst h1
    rw [e] at ej
    omega
  · have := List.pairwise_iff_getElem.mp up j i hj' hi h1
    rw [e, ej] at this
    omega
theorem first_hit (S : SizesOf T ns) (W : WinOk F m T) {j n : Nat} {y : Str} (hj : ns[j]? = some (n : Int)) (h : ∀ i k : Nat, i < j → ns[i]? = some ((k : Nat) : Int) → tabAt T (preS w k) = none) (ht : tabAt T (preS w n) = some y) : firstT T w = some y := by
  have hn := S.pos W (List.mem_of_getElem? hj)
  obtain ⟨n', e, hn1⟩ := hn
  have e' : n = n' := by omega
  subst e'
  have le : n ≤ (cs w).length := by
    rcases Nat.lt_or_ge (cs w).length n with q | q
    · exfalso
      have ep : preS w n = w := pre_all (by omega)
      rw [ep] at ht
      have hm := S.has W ht
      obtain ⟨i, hi, ei⟩ := before S.up hj hm (by omega)
      have := h i _ hi ei
      rw [pre_all (Nat.le_refl _), ht] at this
      cases this
    · exact q
  refine firstT_some hn1 le ht fun k k1 kn => ?_
  cases e2 : tabAt T (preS w k) with
  | none => rfl
  | some y' =>
    have hm := S.has W e2
    rw [pre_len, Nat.min_eq_left (by omega)] at hm
    obtain ⟨i, hi, ei⟩ := before S.up hj hm (by omega)
    have := h i _ hi ei
    rw [e2] at this
    cases this
theorem first_miss (S : SizesOf T ns) (W : WinOk F m T) (h : ∀ (i k : Nat), ns[i]? = some ((k : Nat) : Int) → tabAt T (preS w k) = none) : firstT T w = none := by
  refine firstT_none fun k k1 kn => ?_
  cases e2 : tabAt T (preS w k) with
  | none => rfl
  | some y' =>
    have hm := S.has W e2
    rw [pre_len, Nat.min_eq_left kn] at hm
    obtain ⟨i, hi, e⟩ := List.mem_iff_getElem.mp hm
    have := h i k (by rw [List.getElem?_eq_getElem hi, e])
    rw [e2] at this
    cases this
end
theorem starts_iff' {x y : Str} : Txt.startswith x y = true ↔ ∃ r, cs x = cs y ++ r := by
  have l1 := cs_len x
  have l2 := cs_len y
  unfold Txt.startswith
  rw [StrLaws.subAt_eq, Bool.and_eq_true, decide_eq_true_eq, beq_iff_eq]
  constructor
  · rintro ⟨h1, h2⟩
    refine ⟨(cs x).drop y.length, ?_⟩
    have h3 : ((cs x).drop 0).take y.length = cs y := h2
    rw [List.drop_zero] at h3
    rw [← h3, List.take_append_drop]
  · rintro ⟨r, h⟩
    have h0 := congrArg List.length h
    rw [List.length_append] at h0
    refine ⟨by omega, ?_⟩
    show ((cs x).drop 0).take y.length = cs y
    rw [List.drop_zero, h, ← l2, List.take_left]
theorem starts_cut {w y : Str} : decide (V.str (cutS w none (some (y.length : Int))) = V.str y) = Txt.startswith w y := by
  rw [cut_pre, Bool.eq_iff_iff, decide_eq_true_eq, starts_iff']
  have l2 := cs_len y
  constructor
  · intro h
    have e := congrArg cs (V.str.inj h)
    unfold preS at e
    rw [cs_sOf] at e
    exact ⟨(cs w).drop y.length, by rw [← e, List.take_append_drop]⟩
  · rintro ⟨r, h⟩
    refine congrArg V.str (str_ext ?_)
    unfold preS
    rw [cs_sOf, h, ← l2, List.take_left]
/-- a window over the book tells something -/
theorem tell_ex {kvs : List (Key × V)} {ord : List Str} {T E : List (Key × V)} {w : Str} {o : Bool} (al : (kvs.all fun kv => isPiece (kV kv.1) && isPrice kv.2) = true) (op : ord.Perm (keyStrs kvs)) (ov : Over (tfD kvs) (cs w)) (h1 : 1 ≤ (cs w).length) : ∃ y, tellS ord T E w o = some y := by
  unfold tellS
  cases e : ((if o = true then tabAt E w else none).or (firstT T w)) with
  | some y => exact ⟨y, rfl⟩
  | none =>
    rw [Option.none_or]
    obtain ⟨c, r, ec⟩ : ∃ c r, cs w = c :: r := by
      cases q : cs w with
      | nil => rw [q] at h1; simp at h1
      | cons c r => exact ⟨c, r, rfl⟩
    have hc := ov c (by rw [ec]; exact List.mem_cons_self)
    have hm : ch c ∈ ord.filter fun y => Txt.startswith w y := List.mem_filter.mpr ⟨op.mem_iff.mpr ((tf_key al).mpr hc), starts_iff'.mpr ⟨r, by rw [ec]; rfl⟩⟩
    unfold firstP
    cases q : ord.filter fun y => Txt.startswith w y with
    | nil => rw [q] at hm; exact (List.not_mem_nil hm).elim
    | cons y l => exact ⟨y, rfl⟩
/-- what is told is a piece -/
theorem tell_piece {kvs : List (Key × V)} {ord : List Str} {T E : List (Key × V)} {m n : Int} {w y : Str} {o : Bool} (WT : WinOk (tfD kvs) m T) (WE : WinOk (tfD kvs) n E) (al : (kvs.all fun kv => isPiece (kV kv.1) && isPrice kv.2) = true) (op : ord.Perm (keyStrs kvs)) (h : tellS ord T E w o = some y) : (∃ p, tfD kvs y = some p) ∧ ∃ r, cs w = cs y ++ r := by
  unfold tellS at h
  rcases Option.or_eq_some_iff.mp h with h | ⟨_, h⟩
  · rcases Option.or_eq_some_iff.mp h with h | ⟨_, h⟩
    · cases o with
      | false => cases h
      | true =>
        obtain ⟨_, _, _, a, b⟩ := tabAt_some WE (show tabAt E w = some y from h)
        exact ⟨a, b⟩
    · unfold firstT at h
      obtain ⟨j, hj, hy⟩ := List.exists_of_findSome?_eq_some h
      obtain ⟨_, _, _, a, r, hr⟩ := tabAt_some WT hy
      refine ⟨a, r ++ (cs w).drop (j + 1), ?_⟩
      unfold preS at hr
      rw [cs_sOf] at hr
      rw [← List.append_assoc, ← hr, List.take_append_drop]
  · have hm := List.mem_of_mem_head? h
    obtain ⟨h1, h2⟩ := List.mem_filter.mp hm
    exact ⟨(tf_key al).mp (op.mem_iff.mp h1), starts_iff'.mp h2⟩
/-! ### what tell answers -/
inductive Rs where
  | text | op | one (y : Str)
def badW (v : Int) (n : Nat) (o : Bool) : Bool := (o && !(decide (1 ≤ (n : Int)) && decide ((n : Int) < v))) || (!o && !decide ((n : Int) = v))
def resOf (kvs : List (Key × V)) (ord : List Str) (v : Int) (T E : List (Key × V)) (x o : V) : Rs :=
  match x with
  | .str z => if overB kvs z = true then (match o with | .bl b => if badW v (cs z).length b = true then .op else .one ((tellS ord T E z b).getD ⟨#[]⟩) | _ => .op) else .text
  | _ => .text
def RsV (H : Hp) : Rs → V → Prop
  | .text, x => x = .str (Str.ofString "text")
  | .op, x => x = .str (Str.ofString "operation")
  | .one y, x => ∃ p, x = .ref p ∧ H p = some (.lst [.str y])
theorem RsV.same {H H' : Hp} {r : Rs} {x : V} (h : RsV H r x) (s : Same H H') : RsV H' r x := by
  cases r with
  | text => exact h
  | op => exact h
  | one y =>
    obtain ⟨p, e, q⟩ := h
    exact ⟨p, e, s _ _ q⟩
def dRs : Rs → PyData
  | .text => .str (Str.ofString "text")
  | .op => .str (Str.ofString "operation")
  | .one y => .list [.str y]
def RsOk : Rs → Prop
  | .one y => y.length ≤ 5 ∧ ∀ c ∈ cs y, lett c = true
  | _ => True
theorem repr_rs {K : PySem.W.Frag} {H : Hp} {r : Rs} {x : V} {Q : VK} (h : RsV H r x) (ok : RsOk r) (q : Q (.str (dRs r).shown) H) : rRepr K [x] H Q := by
  cases r with
  | text =>
    cases h
    exact repr_shw (k := 0) (n := 42) (.str _) (shw_str (n := 4) (by decide +kernel) (fun c hc => Nat.lt_trans (of_decide_eq_true (List.all_eq_true.mp (by decide +kernel : (cs (Str.ofString "text")).all (fun c => decide (c < 1000)) = true) c hc)) (by decide))) (by omega) (by omega) q
  | op =>
    cases h
    exact repr_shw (k := 0) (n := 92) (.str _) (shw_str (n := 9) (by decide +kernel) (fun c hc => Nat.lt_trans (of_decide_eq_true (List.all_eq_true.mp (by decide +kernel : (cs (Str.ofString "operation")).all (fun c => decide (c < 1000)) = true) c hc)) (by decide))) (by omega) (by omega) q
  | one y =>
    obtain ⟨p, rfl, hp⟩ := h
    obtain ⟨l5, hl⟩ := ok
    refine repr_shw (k := 1) (n := 1 * (52 + 2) + 2) (.lst (SqL.of hp) (.cons (.str _) .nil)) (shw_list (k := 0) (n := 52) fun d hd => ?_) (by omega) (by omega) q
    rw [List.mem_singleton.mp hd]
    refine shw_str (n := 5) l5 fun c hc => ?_
    have := hl c hc
    unfold lett at this
    rw [Bool.and_eq_true, decide_eq_true_eq, decide_eq_true_eq] at this
    exact Nat.lt_of_le_of_lt this.2 (by decide)
theorem res_ok {kvs : List (Key × V)} {ord : List Str} {v : Int} {T E : List (Key × V)} (av : arePrices kvs = true) (WT : WinOk (tfD kvs) v T) (WE : WinOk (tfD kvs) (v - 1) E) (op : ord.Perm (keyStrs kvs)) (x o : V) : RsOk (resOf kvs ord v T E x o) := by
  obtain ⟨_, al, _, _⟩ := ap_parts av
  unfold resOf
  cases x with
  | str z =>
    dsimp only
    by_cases h : overB kvs z = true
    · rw [if_pos h]
      cases o with
      | bl b =>
        dsimp only
        by_cases g : badW v (cs z).length b = true
        · rw [if_pos g]
          trivial
        · rw [if_neg g]
          cases e : tellS ord T E z b with
          | none => exact ⟨by decide, fun c hc => by cases hc⟩
          | some y =>
            obtain ⟨⟨p, hp⟩, _⟩ := tell_piece WT WE al op e
            obtain ⟨_, h5, hl⟩ := keyStrs_piece al _ ((tf_key al).mpr ⟨p, hp⟩)
            exact ⟨by rw [← cs_len]; exact h5, hl⟩
      | _ => trivial
    · rw [if_neg h]
      trivial
  | _ => trivial
end G
/-! A cutter's object, the parts that the laws draw for it, the promises of the defs about cutters. -/
namespace G
open PySem PySem.Spec PyProof.Rows L2 LamX
def cutF (b to td te ts : Addr) (v : Int) : List (Str × V) := [("own_book", .ref b), ("own_order", .ref to), ("own_view", .int v), ("own_table", .ref td), ("own_ends", .ref te), ("own_sizes", .ref ts)]
section
variable {b to td te ts : Addr} {v : Int}
theorem cf_book : (cutF b to td te ts v).lookup ("own_book" : Str) = some (.ref b) := lk_at
theorem cf_order : (cutF b to td te ts v).lookup ("own_order" : Str) = some (.ref to) := (lk_by (by decide +kernel)).trans lk_at
theorem cf_view : (cutF b to td te ts v).lookup ("own_view" : Str) = some (.int v) := (lk_by (by decide +kernel)).trans ((lk_by (by decide +kernel)).trans lk_at)
theorem cf_table : (cutF b to td te ts v).lookup ("own_table" : Str) = some (.ref td) := (lk_by (by decide +kernel)).trans ((lk_by (by decide +kernel)).trans ((lk_by (by decide +kernel)).trans lk_at))
theorem cf_ends : (cutF b to td te ts v).lookup ("own_ends" : Str) = some (.ref te) := (lk_by (by decide +kernel)).trans ((lk_by (by decide +kernel)).trans ((lk_by (by decide +kernel)).trans ((lk_by (by decide +kernel)).trans lk_at)))
theorem cf_sizes : (cutF b to td te ts v).lookup ("own_sizes" : Str) = some (.ref ts) := (lk_by (by decide +kernel)).trans ((lk_by (by decide +kernel)).trans ((lk_by (by decide +kernel)).trans ((lk_by (by decide +kernel)).trans ((lk_by (by decide +kernel)).trans lk_at))))
theorem cf_no {m : Str} (h1 : (m == ("own_book" : Str)) = false) (h2 : (m == ("own_order" : Str)) = false) (h3 : (m == ("own_view" : Str)) = false) (h4 : (m == ("own_table" : Str)) = false) (h5 : (m == ("own_ends" : Str)) = false) (h6 : (m == ("own_sizes" : Str)) = false) :
    (cutF b to td te ts v).lookup m = none := (lk_by h1).trans ((lk_by h2).trans ((lk_by h3).trans ((lk_by h4).trans ((lk_by h5).trans ((lk_by h6).trans rfl)))))
end
structure CutAt (C CU : Addr) (H : Hp) (c : Addr) (kvs : List (Key × V)) (ord : List Str) (v : Int) (T E : List (Key × V)) : Prop where
  wt : WinOk (tfD kvs) v T
  we : WinOk (tfD kvs) (v - 1) E
  op : ord.Perm (keyStrs kvs)
  v1 : 1 ≤ v
  v2 : v ≤ 2000
  ex : ∃ b dx to td te ts T' E' ns, H c = some (.ins CU dx (cutF b to td te ts v)) ∧ Book1 C H b kvs ∧ H to = some (.tup (ord.map V.str)) ∧ H td = some (.dK T') ∧ H te = some (.dK E') ∧ H ts = some (.tup (ns.map V.int)) ∧
    (∀ z, valV T' (Sum.inr z) = valV T (Sum.inr z)) ∧ (∀ z, valV E' (Sum.inr z) = valV E (Sum.inr z)) ∧ SizesOf T ns ∧ WinOk (tfD kvs) v T' ∧ WinOk (tfD kvs) (v - 1) E'
theorem CutAt.same {C CU : Addr} {H H' : Hp} {c : Addr} {kvs : List (Key × V)} {ord : List Str} {v : Int} {T E : List (Key × V)} (A : CutAt C CU H c kvs ord v T E) (s : Same H H') : CutAt C CU H' c kvs ord v T E := by
  obtain ⟨b, dx, to, td, te, ts, T', E', ns, h1, h2, h3, h4, h5, h6, r⟩ := A.ex
  exact ⟨A.wt, A.we, A.op, A.v1, A.v2, b, dx, to, td, te, ts, T', E', ns, s _ _ h1, h2.same s, s _ _ h3, s _ _ h4, s _ _ h5, s _ _ h6, r⟩
/-- order, view, table and ends, as the laws draw them -/
structure PartsAt (H : Hp) (pa : Addr) (kvs : List (Key × V)) (ord : List Str) (v : Int) (T E : List (Key × V)) : Prop where
  wt : WinOk (tfD kvs) v T
  we : WinOk (tfD kvs) (v - 1) E
  op : ord.Perm (keyStrs kvs)
  v1 : 1 ≤ v
  v2 : v ≤ 2000
  ex : ∃ to td te, H pa = some (.lst [.ref to, .int v, .ref td, .ref te]) ∧ H to = some (.tup (ord.map V.str)) ∧ H td = some (.dK T) ∧ H te = some (.dK E)
theorem PartsAt.same {H H' : Hp} {pa : Addr} {kvs : List (Key × V)} {ord : List Str} {v : Int} {T E : List (Key × V)} (A : PartsAt H pa kvs ord v T E) (s : Same H H') : PartsAt H' pa kvs ord v T E := by
  obtain ⟨to, td, te, h1, h2, h3, h4⟩ := A.ex
  exact ⟨A.wt, A.we, A.op, A.v1, A.v2, to, td, te, s _ _ h1, s _ _ h2, s _ _ h3, s _ _ h4⟩
theorem PartsAt.kp {l : Addr} {H H' : Hp} {pa : Addr} {kvs : List (Key × V)} {ord : List Str} {v : Int} {T E : List (Key × V)} {n : Nat} (A : PartsAt H pa kvs ord v T E) (D : Dice H l n) (k : Kp l H H') : PartsAt H' pa kvs ord v T E := by
  obtain ⟨to, td, te, h1, h2, h3, h4⟩ := A.ex
  obtain ⟨d0, d1, d2, hl, _⟩ := D
  have ne : ∀ {a : Addr} {o : HO}, H a = some o → (∀ x y z, o ≠ .lst [.int x, .int y, .int z]) → a ≠ l := fun {a o} h hn e => by
    rw [e, hl] at h
    exact hn _ _ _ (Option.some.inj h).symm
  exact ⟨A.wt, A.we, A.op, A.v1, A.v2, to, td, te, k _ _ h1 (ne h1 fun _ _ _ e => by cases e), k _ _ h2 (ne h2 fun _ _ _ e => by cases e), k _ _ h3 (ne h3 fun _ _ _ e => by cases e), k _ _ h4 (ne h4 fun _ _ _ e => by cases e)⟩
theorem CutAt.kp {C CU l : Addr} {H H' : Hp} {c : Addr} {kvs : List (Key × V)} {ord : List Str} {v : Int} {T E : List (Key × V)} {n : Nat} (A : CutAt C CU H c kvs ord v T E) (D : Dice H l n) (k : Kp l H H') : CutAt C CU H' c kvs ord v T E := by
  obtain ⟨b, dx, to, td, te, ts, T', E', ns, h1, h2, h3, h4, h5, h6, r⟩ := A.ex
  have B := h2.kp D k
  obtain ⟨d0, d1, d2, hl, _⟩ := D
  have ne : ∀ {a : Addr} {o : HO}, H a = some o → (∀ x y z, o ≠ .lst [.int x, .int y, .int z]) → a ≠ l := fun {a o} h hn e => by
    rw [e, hl] at h
    exact hn _ _ _ (Option.some.inj h).symm
  exact ⟨A.wt, A.we, A.op, A.v1, A.v2, b, dx, to, td, te, ts, T', E', ns, k _ _ h1 (ne h1 fun _ _ _ e => by cases e), B, k _ _ h3 (ne h3 fun _ _ _ e => by cases e), k _ _ h4 (ne h4 fun _ _ _ e => by cases e), k _ _ h5 (ne h5 fun _ _ _ e => by cases e), k _ _ h6 (ne h6 fun _ _ _ e => by cases e), r⟩
theorem Book1.updD {C : Addr} {H : Hp} {b a : Addr} {kvs W : List (Key × V)} {o : HO} (B : Book1 C H b kvs) (h : H a = some (.dK W)) : Book1 C (upd H a o) b kvs := by
  obtain ⟨ys, L, M, dx, d, tp, ta, od, h1, h2, A⟩ := B.ex
  have ne : ∀ {c : Addr} {u : HO}, H c = some u → u ≠ .dK W → upd H a o c = some u := fun {c u} e n => by
    rw [upd_ne fun q => by rw [q, h] at e; exact n (Option.some.inj e).symm]
    exact e
  exact ⟨B.av, B.nd, ys, L, M, dx, d, tp, ta, od, h1, h2, ne A.ob (by simp), ne A.dc (by simp), ne A.pi (by simp), ne A.al (by simp), A.lo, A.de⟩
theorem Book1.kpc {C CU c cx b : Addr} {H H' : Hp} {kvs : List (Key × V)} (B : Book1 C H b kvs) (hc : H c = some (.ins CU cx [])) (k : Kp c H H') : Book1 C H' b kvs := by
  obtain ⟨ys, L, M, dx, d, tp, ta, od, h1, h2, A⟩ := B.ex
  have ne : ∀ {a : Addr} {u : HO}, H a = some u → u ≠ .ins CU cx [] → H' a = some u := fun {a u} e n => k _ _ e fun q => by rw [q, hc] at e; exact n (Option.some.inj e).symm
  exact ⟨B.av, B.nd, ys, L, M, dx, d, tp, ta, od, h1, h2, ne A.ob (by simp [bookF]), ne A.dc (by simp), ne A.pi (by simp), ne A.al (by simp), A.lo, A.de⟩
/-! ### a table laid anew -/
theorem win_keys {F : Tf} {m : Int} {T : List (Key × V)} (W : WinOk F m T) : T.map (·.1) = (keyStrs T).map Sum.inr := by
  have h := W.ent
  clear W
  induction T with
  | nil => rfl
  | cons a r ih =>
    obtain ⟨z, y, rfl, _⟩ := h a List.mem_cons_self
    have ih := ih fun kv hkv => h kv (List.mem_cons_of_mem _ hkv)
    show Sum.inr z :: r.map (·.1) = Sum.inr z :: (keyStrs r).map Sum.inr
    rw [ih]
def reV (T : List (Key × V)) (z : Str) : V := (valV T (Sum.inr z)).getD .non
theorem val_re {T : List (Key × V)} : ∀ {ys : List Str} {z : Str}, valV (ys.map fun y => ((Sum.inr y : Key), reV T y)) (Sum.inr z) = if z ∈ ys then some (reV T z) else none
  | [], z => by
    rw [if_neg (List.not_mem_nil)]
    rfl
  | y :: r, z => by
    by_cases h : y = z
    · subst h
      rw [if_pos List.mem_cons_self, List.map_cons, valV_pos rfl]
    · rw [List.map_cons, valV_neg (fun e => h (Sum.inr.inj e)), val_re]
      by_cases q : z ∈ r
      · rw [if_pos q, if_pos (List.mem_cons_of_mem _ q)]
      · rw [if_neg q, if_neg fun m => ?_]
        rcases List.mem_cons.mp m with e | e
        · exact h e.symm
        · exact q e
theorem val_laid {T : List (Key × V)} {ys : List Str} (pm : ys.Perm (keyStrs T)) (z : Str) : valV (ys.map fun y => ((Sum.inr y : Key), reV T y)) (Sum.inr z) = valV T (Sum.inr z) := by
  rw [val_re]
  cases h : valV T (Sum.inr z : Key) with
  | none =>
    rw [if_neg fun q => ?_]
    obtain ⟨kv, hkv, e⟩ := List.mem_filterMap.mp (pm.mem_iff.mp q)
    obtain ⟨k, v⟩ := kv
    cases k with
    | inl i => cases e
    | inr z' =>
      cases e
      have q1 := valV_any (Sum.inr z : Key) T
      rw [h] at q1
      have q2 : (T.any fun kv => decide (kv.1 = (Sum.inr z : Key))) = true := List.any_eq_true.mpr ⟨_, hkv, by simp⟩
      rw [q2] at q1
      cases q1
  | some v =>
    have hm := valV_mem h
    rw [if_pos (pm.mem_iff.mpr (List.mem_filterMap.mpr ⟨_, hm, rfl⟩))]
    unfold reV
    rw [h]
    rfl
theorem key_val {T : List (Key × V)} {z : Str} (h : z ∈ keyStrs T) : valV T (Sum.inr z) = some (reV T z) := by
  have e := val_laid (T := T) (List.Perm.refl _) z
  rw [val_re, if_pos h] at e
  exact e.symm
theorem keyStrs_len (T : List (Key × V)) : (keyStrs T).length ≤ T.length := List.length_filterMap_le _ _
theorem win_nd {F : Tf} {m : Int} {T : List (Key × V)} (W : WinOk F m T) : (keyStrs T).Nodup := by
  have h := W.nd
  rw [win_keys W] at h
  exact nd_of_map h
def lenKey (kv : Key × V) : Int := match kv.1 with | .inr z => (z.length : Int) | .inl _ => 0
theorem win_laid {F : Tf} {m : Int} {T : List (Key × V)} {ys : List Str} (W : WinOk F m T) (pm : ys.Perm (keyStrs T)) : WinOk F m (ys.map fun y => ((Sum.inr y : Key), reV T y)) := by
  refine ⟨?_, ?_, fun kv hkv => ?_⟩
  · rw [List.map_map]
    have : (ys.map ((fun x : Key × V => x.1) ∘ fun y => ((Sum.inr y : Key), reV T y))) = ys.map Sum.inr := rfl
    rw [this]
    exact List.Pairwise.map _ (fun a b h e => h (Sum.inr.inj e)) (pm.nodup_iff.mpr (win_nd W))
  · rw [List.length_map, pm.length_eq]
    exact Nat.le_trans (keyStrs_len T) W.len
  · obtain ⟨y, hy, rfl⟩ := List.mem_map.mp hkv
    have h := key_val (pm.mem_iff.mp hy)
    obtain ⟨y', e, r⟩ := W.at' h
    rw [e]
    exact ⟨y, y', rfl, r⟩
theorem sizes_of {F : Tf} {m : Int} {T : List (Key × V)} {l ns : List Int} (W : WinOk F m T) (hl : ∀ k, k ∈ l ↔ k ∈ T.map lenKey) (up : ns.Pairwise (· < ·)) (hm : ∀ k : Int, k ∈ ns ↔ inS l k = true) : SizesOf T ns := by
  refine ⟨up, fun k => ?_⟩
  rw [hm]
  unfold inS
  rw [decide_eq_true_eq, hl]
  constructor
  · intro h
    obtain ⟨kv, hkv, rfl⟩ := List.mem_map.mp h
    obtain ⟨z, y, rfl, _⟩ := W.ent kv hkv
    exact ⟨z, y, hkv, by rw [cs_len]; rfl⟩
  · rintro ⟨z, y, hzy, rfl⟩
    exact List.mem_map.mpr ⟨_, hzy, by rw [cs_len]; rfl⟩
section
variable {a b d e f : V} {c : V}
theorem pcu1 : L2.putF "own_book" a [] = [(("own_book" : Str), a)] := rfl
theorem pcu2 : L2.putF "own_order" b [(("own_book" : Str), a)] = [(("own_book" : Str), a), ("own_order", b)] := by
  rw [pf_by (by decide +kernel)]
  rfl
theorem pcu3 : L2.putF "own_view" c [(("own_book" : Str), a), ("own_order", b)] = [(("own_book" : Str), a), ("own_order", b), ("own_view", c)] := by
  rw [pf_by (by decide +kernel), pf_by (by decide +kernel)]
  rfl
theorem pcu4 : L2.putF "own_table" d [(("own_book" : Str), a), ("own_order", b), ("own_view", c)] = [(("own_book" : Str), a), ("own_order", b), ("own_view", c), ("own_table", d)] := by
  rw [pf_by (by decide +kernel), pf_by (by decide +kernel), pf_by (by decide +kernel)]
  rfl
theorem pcu5 : L2.putF "own_ends" e [(("own_book" : Str), a), ("own_order", b), ("own_view", c), ("own_table", d)] = [(("own_book" : Str), a), ("own_order", b), ("own_view", c), ("own_table", d), ("own_ends", e)] := by
  rw [pf_by (by decide +kernel), pf_by (by decide +kernel), pf_by (by decide +kernel), pf_by (by decide +kernel)]
  rfl
theorem pcu6 : L2.putF "own_sizes" f [(("own_book" : Str), a), ("own_order", b), ("own_view", c), ("own_table", d), ("own_ends", e)] = [(("own_book" : Str), a), ("own_order", b), ("own_view", c), ("own_table", d), ("own_ends", e), ("own_sizes", f)] := by
  rw [pf_by (by decide +kernel), pf_by (by decide +kernel), pf_by (by decide +kernel), pf_by (by decide +kernel), pf_by (by decide +kernel)]
  rfl
end
/-! ### what is answered, case by case -/
def resZ (ord : List Str) (v : Int) (T E : List (Key × V)) (z : Str) (o : V) : Rs := match o with | .bl b => if badW v (cs z).length b = true then .op else .one ((tellS ord T E z b).getD ⟨#[]⟩) | _ => .op
section
variable {kvs : List (Key × V)} {ord : List Str} {v : Int} {T E : List (Key × V)}
theorem res_in {z : Str} {o : V} (h : overB kvs z = true) : resOf kvs ord v T E (.str z) o = resZ ord v T E z o := by
  unfold resOf
  dsimp only
  rw [if_pos h]
  rfl
theorem res_text {x o : V} (h : overV kvs x = false) : resOf kvs ord v T E x o = .text := by
  unfold resOf
  cases x with
  | str z =>
    dsimp only
    rw [if_neg (by rw [show overB kvs z = false from h]; exact Bool.false_ne_true)]
  | _ => rfl
theorem over_str {x : V} (h : overV kvs x = true) : ∃ z, x = .str z ∧ overB kvs z = true := by
  cases x with
  | str z => exact ⟨z, rfl, h⟩
  | _ => cases h
theorem over_of {z : Str} (h : overB kvs z = true) : Over (tfD kvs) (cs z) ∧ z.length ≤ 8000 := by
  unfold overB at h
  rw [Bool.and_eq_true] at h
  obtain ⟨h1, h2⟩ := h
  have h1' : (decide ((cs z).length ≤ 8000) && (cs z).all lett) = true := h1
  rw [Bool.and_eq_true] at h1'
  have := of_decide_eq_true h1'.1
  rw [cs_len] at this
  exact ⟨fun c hc => Option.isSome_iff_exists.mp (List.all_eq_true.mp h2 c hc), this⟩
end
theorem badW_true {v : Int} {n : Nat} : badW v n true = !(decide (1 ≤ (n : Int)) && decide ((n : Int) < v)) := by
  unfold badW
  rw [Bool.true_and, Bool.not_true, Bool.false_and, Bool.or_false]
theorem badW_false {v : Int} {n : Nat} : badW v n false = !decide ((n : Int) = v) := by
  unfold badW
  rw [Bool.false_and, Bool.not_false, Bool.true_and, Bool.false_or]
theorem badW_pos {v : Int} {n : Nat} {o : Bool} (h : badW v n o = false) (v1 : 1 ≤ v) : 1 ≤ n := by
  cases o with
  | true =>
    rw [badW_true, Bool.not_eq_false', Bool.and_eq_true] at h
    have := of_decide_eq_true h.1
    omega
  | false =>
    rw [badW_false, Bool.not_eq_false'] at h
    have := of_decide_eq_true h
    omega
theorem fm_ifg {α β : Type} {p : α → Bool} {g : α → β} : ∀ l : List α, (l.filterMap fun a => if p a = true then some (g a) else none) = (l.filter p).map g
  | [] => rfl
  | a :: l => by
    have ih := fm_ifg (p := p) (g := g) l
    cases h : p a with
    | true => rw [List.filterMap_cons, if_pos h, List.filter_cons_of_pos h, List.map_cons, ih]
    | false => rw [List.filterMap_cons, if_neg (by rw [h]; exact Bool.false_ne_true), List.filter_cons_of_neg (by rw [h]; exact Bool.false_ne_true), ih]
theorem range_fm {α : Type} (f : Nat → Option α) (j : Nat) : (List.range (j + 1)).filterMap f = (List.range j).filterMap f ++ (f j).toList := by
  rw [List.range_succ, List.filterMap_append]
  cases h : f j <;> simp [h]
theorem chain_lt {ta tb tc : TE} {σ : L2.St} {H : Hp} {Q : VK} {a b c : Int} (ha : ∀ N : VK, N (.int a) H → ta σ H N) (hb : ∀ N : VK, N (.int b) H → tb σ H N) (hc : ∀ N : VK, N (.int c) H → tc σ H N)
    (q : Q (.bl (decide (a ≤ b) && decide (b < c))) H) : tChain (rI0 fun i j => .bl (decide (i ≤ j))) (rI0 fun i j => .bl (decide (i < j))) ta tb tc σ H Q := by
  refine ha _ (hb _ ⟨a, b, rfl, rfl, _, rfl, ?_⟩)
  refine itB (fun e => ?_) (fun e => ?_)
  · refine hc _ ⟨b, c, rfl, rfl, ?_⟩
    rw [e] at q
    exact q
  · rw [e] at q
    exact q
theorem WinOk.nil {F : Tf} {m : Int} : WinOk F m [] := ⟨by simp, by simp, fun kv h => (List.not_mem_nil h).elim⟩
theorem WinOk.put {F : Tf} {m : Int} {T : List (Key × V)} (W : WinOk F m T) (hl : T.length < 2000) {z y : Str} (h : 1 ≤ (cs z).length ∧ ((cs z).length : Int) ≤ m ∧ Over F (cs z) ∧ (∃ p, F y = some p) ∧ ∃ r, cs z = cs y ++ r) : WinOk F m (putK T (Sum.inr z) (.str y)) := by
  refine ⟨?_, Nat.le_trans put_len (by omega), fun kv hkv => ?_⟩
  · rw [put_keys]
    split
    · exact W.nd
    · rename_i q
      refine List.nodup_append.mpr ⟨W.nd, by simp, fun a ha b hb e => ?_⟩
      rw [List.mem_singleton.mp hb] at e
      rw [e] at ha
      refine q ?_
      cases e2 : valV T (Sum.inr z : Key) with
      | none => exact absurd ha (valV_not e2)
      | some v => rfl
  · rcases put_val_mem hkv with e | e
    · exact ⟨z, y, e, h⟩
    · exact W.ent kv e
theorem win_key {F : Tf} {m : Int} {T : List (Key × V)} (W : WinOk F m T) {z : Str} (h : z ∈ keyStrs T) : Over F (cs z) ∧ (z.length : Int) ≤ m := by
  have e := key_val h
  obtain ⟨y, _, _, hm, ov, _⟩ := W.at' e
  rw [cs_len] at hm
  exact ⟨ov, hm⟩
/-! ### promises -/
def spIsOrder (C : Addr) : Sp := fun vs H Q _ => ∃ (b t : Addr) (kvs : List (Key × V)) (ord : List Str), vs = [.ref b, .ref t] ∧ Book1 C H b kvs ∧ H t = some (.tup (ord.map V.str)) ∧ ord.Perm (keyStrs kvs) ∧ ∀ H', Same H H' → Q (.bl true) H'
def spIsView : Sp := fun vs H Q _ => ∃ v : Int, vs = [.int v] ∧ 1 ≤ v ∧ v ≤ 2000 ∧ ∀ H', Same H H' → Q (.bl true) H'
def spIsTable (C : Addr) : Sp := fun vs H Q _ => ∃ (b d : Addr) (kvs T : List (Key × V)) (m : Int), vs = [.ref b, .ref d, .int m] ∧ Book1 C H b kvs ∧ H d = some (.dK T) ∧ WinOk (tfD kvs) m T ∧ m ≤ 2000 ∧ ∀ H', Same H H' → Q (.bl true) H'
def spCutInit (C CU : Addr) : Sp := fun vs H Q _ => ∃ (c dx b to td te : Addr) (kvs : List (Key × V)) (ord : List Str) (v : Int) (T E : List (Key × V)), vs = [.ref c, .ref b, .ref to, .int v, .ref td, .ref te] ∧ H c = some (.ins CU dx []) ∧ Book1 C H b kvs ∧ H to = some (.tup (ord.map V.str)) ∧
  H td = some (.dK T) ∧ H te = some (.dK E) ∧ WinOk (tfD kvs) v T ∧ WinOk (tfD kvs) (v - 1) E ∧ ord.Perm (keyStrs kvs) ∧ 1 ≤ v ∧ v ≤ 2000 ∧ ∀ H', CutAt C CU H' c kvs ord v T E → (∀ a o, H a = some o → a ≠ c → H' a = some o) → Q .non H'
def spToldBy (C CU : Addr) : Sp := fun vs H Q _ => ∃ (c : Addr) (kvs : List (Key × V)) (ord : List Str) (v : Int) (T E : List (Key × V)) (w y : Str) (o : Bool), vs = [.ref c, .str w, .bl o] ∧ CutAt C CU H c kvs ord v T E ∧ w.length ≤ 8000 ∧ tellS ord T E w o = some y ∧ ∀ H', Same H H' → Q (.str y) H'
def spMayText (C CT : Addr) : Sp := fun vs H Q E => ∃ b kvs x, vs = [.ref b, x] ∧ Book1 C H b kvs ∧ Val H x ∧ ∀ H', Same H H' → (overV kvs x = true → Q .non H') ∧ (overV kvs x = false → E (.ref CT) none H')
/-- what a call answers -/
def EndsR (CT CO : Addr) (Q : VK) (E : XK) (H' : Hp) : Rs → Prop
  | .text => E (.ref CT) none H'
  | .op => E (.ref CO) none H'
  | .one y => Q (.str y) H'
def spTellX (C CU CT CO : Addr) : Sp := fun vs H Q E => ∃ (c : Addr) (kvs : List (Key × V)) (ord : List Str) (v : Int) (T Y : List (Key × V)) (x o : V), vs = [.ref c, x, o] ∧ CutAt C CU H c kvs ord v T Y ∧ Val H x ∧ ∀ H', Same H H' → EndsR CT CO Q E H' (resOf kvs ord v T Y x o)
def spTell1 (C CU : Addr) : Sp := fun vs H Q _ => ∃ (c : Addr) (kvs : List (Key × V)) (ord : List Str) (v : Int) (T Y : List (Key × V)) (w y : Str) (o : Bool), vs = [.ref c, .str w, .bl o] ∧ CutAt C CU H c kvs ord v T Y ∧ resOf kvs ord v T Y (.str w) (.bl o) = .one y ∧ ∀ H', Same H H' → Q (.str y) H'
/-! ### of the law -/
def spMixT : Sp := fun vs H Q _ => ∃ (l a : Addr) (zs : List Str) (n : Nat), vs = [.ref l, .ref a] ∧ a ≠ l ∧ H a = some (.lst (zs.map V.str)) ∧ (∀ z ∈ zs, ∀ c ∈ cs z, lett c = true) ∧ zs.length ≤ 1000 ∧ Dice H l (n + zs.length) ∧
  ∀ p (ys : List Str) H', H p = none → ys.Perm zs → H' p = some (.lst (ys.map V.str)) → Kp l H H' → Dice H' l n → Q (.ref p) H'
/-- all stays but tables of code objects and one thing -/
def KpU (l : Addr) (H H' : Hp) : Prop := ∀ a u, H a = some u → (∀ ps, u ≠ .tbl ps) → a ≠ l → H' a = some u
theorem KpU.refl (l : Addr) (H : Hp) : KpU l H H := fun _ _ e _ _ => e
theorem KpU.trans {l : Addr} {H H1 H2 : Hp} (a : KpU l H H1) (b : KpU l H1 H2) : KpU l H H2 := fun x u e h n => b x u (a x u e h n) h n
theorem Kp.u {l : Addr} {H H' : Hp} (k : Kp l H H') : KpU l H H' := fun a u e _ n => k a u e n
theorem ExtN.u {l : Addr} {H H' : Hp} (k : ExtN H H') : KpU l H H' := fun a u e h _ => k a u e h
theorem Dice.en {H H' : Hp} {l : Addr} {n : Nat} (d : Dice H l n) (e : ExtN H H') : Dice H' l n := by
  obtain ⟨d0, d1, d2, h, r⟩ := d
  exact ⟨d0, d1, d2, e _ _ h (fun _ q => by cases q), r⟩
def spOrder (T : List (Addr × Str)) : Sp := fun vs H Q _ => ∃ (l d : Addr) (kvs : List (Key × V)) (n : Nat), vs = [.ref l, .ref d] ∧ Tabs T H ∧ d ≠ l ∧ H d = some (.dK kvs) ∧ arePrices kvs = true ∧ (kvs.map (·.1)).Nodup ∧ Dice H l (n + 20) ∧
  ∀ p (ord : List Str) H', ord.Perm (keyStrs kvs) → H' p = some (.tup (ord.map V.str)) → KpU l H H' → Tabs T H' → Dice H' l n → Q (.ref p) H'
def spWins : Sp := fun vs H Q _ => ∃ (l d : Addr) (kvs : List (Key × V)) (m many n : Nat), vs = [.ref l, .ref d, .int (m : Int), .int (many : Int)] ∧ d ≠ l ∧ H d = some (.dK kvs) ∧ arePrices kvs = true ∧ (kvs.map (·.1)).Nodup ∧ m ≤ 20 ∧ many ≤ 50 ∧ Dice H l (n + (1 + many * (m + 3))) ∧
  ∀ p (T : List (Key × V)) H', H p = none → H' p = some (.dK T) → WinOk (tfD kvs) (m : Int) T → T.length ≤ many → Kp l H H' → Dice H' l n → Q (.ref p) H'
def spParts (T : List (Addr × Str)) : Sp := fun vs H Q _ => ∃ (l d : Addr) (kvs : List (Key × V)) (m many n : Nat), vs = [.ref l, .ref d, .int (m : Int), .int (many : Int)] ∧ Tabs T H ∧ d ≠ l ∧ H d = some (.dK kvs) ∧ arePrices kvs = true ∧ (kvs.map (·.1)).Nodup ∧ 1 ≤ m ∧ m ≤ 20 ∧ many ≤ 50 ∧ Dice H l (n + (30 + 2 * (1 + many * (m + 8)))) ∧
  ∀ p (ord : List Str) (v : Nat) (W E : List (Key × V)) H', (v : Int) ≤ (m : Int) + 5 → PartsAt H' p kvs ord (v : Int) W E → W.length ≤ many → E.length ≤ many → KpU l H H' → Tabs T H' → Dice H' l n → Q (.ref p) H'
def spLawCut (C CU : Addr) : Sp := fun vs H Q _ => ∃ (b pa : Addr) (kvs : List (Key × V)) (ord : List Str) (v : Int) (T E : List (Key × V)), vs = [.ref b, .ref pa] ∧ Book1 C H b kvs ∧ PartsAt H pa kvs ord v T E ∧ ∀ c H', H c = none → CutAt C CU H' c kvs ord v T E → Same H H' → Q (.ref c) H'
def spTells : Sp := fun vs H Q _ => ∃ (pa : Addr) (kvs : List (Key × V)) (ord : List Str) (v : Int) (T E : List (Key × V)) (w y : Str) (o : Bool), vs = [.ref pa, .str w, .bl o] ∧ PartsAt H pa kvs ord v T E ∧ arePrices kvs = true ∧ w.length ≤ 8000 ∧ tellS ord T E w o = some y ∧ ∀ H', Same H H' → Q (.str y) H'
def spDue : Sp := fun vs H Q _ => ∃ (d pa : Addr) (kvs : List (Key × V)) (ord : List Str) (v : Int) (T E : List (Key × V)) (x o : V), vs = [.ref d, .ref pa, x, o] ∧ H d = some (.dK kvs) ∧ arePrices kvs = true ∧ (kvs.map (·.1)).Nodup ∧ PartsAt H pa kvs ord v T E ∧ Val H x ∧ ∀ H' u, Same H H' → RsV H' (resOf kvs ord v T E x o) u → Q u H'
def spTold2 (C CU : Addr) : Sp := fun vs H Q _ => ∃ (c : Addr) (kvs : List (Key × V)) (ord : List Str) (v : Int) (T E : List (Key × V)) (x o : V), vs = [.ref c, x, o] ∧ CutAt C CU H c kvs ord v T E ∧ Val H x ∧ ∀ H' u, Same H H' → RsV H' (resOf kvs ord v T E x o) u → Q u H'
def spTold1 (C CU : Addr) : Sp := fun vs H Q _ => ∃ (c : Addr) (kvs : List (Key × V)) (ord : List Str) (v : Int) (T E : List (Key × V)) (x : V), vs = [.ref c, x] ∧ CutAt C CU H c kvs ord v T E ∧ Val H x ∧ ∀ H' u, Same H H' → RsV H' (resOf kvs ord v T E x (.bl false)) u → Q u H'
def spRightU (T : List (Addr × Str)) (c : Nat) : Sp := fun vs H Q _ => ∃ (l : Addr) (n : Nat), vs = [.ref l] ∧ Tabs T H ∧ Dice H l (n + c) ∧ ∀ H', KpU l H H' → Tabs T H' → Dice H' l n → Q (.bl true) H'
end G
/-! Calling an instance by its class's __call__; (v,) * n for any n. -/
namespace G
open PySem PySem.Spec PyProof.Rows L2
/-- an instance of C is called -/
structure CalI (P : Program) (w : World) (K : PySem.W.Frag) (mg : Str → Option Value) (base : Heap) (CX : CXT) (k : Nat) (C : Addr) (sp : Sp) : Prop where
  ex : ∃ (g : Addr) (fd : FuncData) (ps : List Str), StX.CallO K C g ∧ FnOk P w K mg base CX k g fd ps sp ∧ L2.Binds K fd ps []
def tCallI (C : Addr) (sp : Sp) (E : L2.St → XK) (tf : TE) (t : TA) : TE := fun σ H Q => tf σ H fun y H1 => ∃ a, y = V.ref a ∧ t σ H1 fun vs H2 => (∃ dx fs, H2 a = some (.ins C dx fs)) ∧ sp (V.ref a :: vs) H2 Q (E σ)
section
variable {X : Cx} {W : WX} {k j : Nat} {C : Addr} {sp : Sp} {pos : Pos} {e fe : Expr} {es : List Expr} {tf : TE} {t : TA}
theorem pe_callIG {CX : CXT} {E : L2.St → XK} (hf : PE X fe tf) (c : CalI X.prog X.w X.K X.mg X.base CX k C sp) (hx : ∀ σ, PassesAt CX X σ (E σ)) (hr : Room j X.A) (hk : k ≤ j) (ha : PA X (e :: es) t)
    (ht : eval (.Call fe (e :: es) [] pos) X.env = (do callWith pos (← eval fe X.env) [] (backTo pos (starEach (e :: es) X.env)) (backToKw pos (keywordEach [] X.env))))
    (he : starEach (e :: es) X.env = (false, eval e X.env) :: starEach es X.env) (hpl : (backTo pos (starEach es X.env)).any (·.1) = false) : PE X (.Call fe (e :: es) [] pos) (tCallI C sp E tf t) := by
  obtain ⟨g, fd, ps, co, F, b⟩ := c.ex
  refine ⟨fun pins s σ H Q I h => ?_⟩
  refine Call_ (thn (hf.run pins s σ H _ I h) fun u s1 ⟨y, H1, I1, ry, a, ey, q⟩ => ?_) ht
  subst ey
  obtain rfl : u = Value.ref a := ry
  refine StX.callO_with (thn (ha.run pos pins s1 σ H1 _ I1 q) fun us s2 ⟨vs, H2, I2, r, hi, q2⟩ => ?_) he hpl
  obtain ⟨ox, od, J, hd⟩ := StX.insC_at (X := X) I2 (.inr hi)
  refine ⟨⟨C, ox, od, J, hd⟩, wpAny_call (PySem.W.kco_code I2.kIn J hd co.at_ co.fn co.fi ?_)⟩
  have r2 : Vals (.ref a :: vs) (.ref a :: us) := .cons rfl r
  have hl : (Value.ref a :: us).length = ps.length := by rw [← r2.length]; exact F.len _ _ _ _ q2
  refine codeAny_mono (F.run X.A X.stack s2 H2 ⟨.ref a :: us, []⟩ (.ref a :: us) (.ref a :: vs) Q (E σ) (hr.mono hk) I2.env0 (by have := b s2 (.ref a :: us) I2.kIn (by rw [List.append_nil]; exact hl); rw [List.append_nil] at this; exact this) r2 q2) fun r s' hq => ?_
  cases r with
  | error e => exact hx σ pins H2 s2 e s' I2 hq
  | ok fl =>
    cases fl with
    | ret u => exact I2.after hq
    | next => exact False.elim hq
    | brk => exact False.elim hq
    | cont => exact False.elim hq
theorem pe_callI (hf : PE X fe tf) (c : CalI X.prog X.w X.K X.mg X.base CX0 k C sp) (hr : Room j X.A) (hk : k ≤ j) (ha : PA X (e :: es) t)
    (ht : eval (.Call fe (e :: es) [] pos) X.env = (do callWith pos (← eval fe X.env) [] (backTo pos (starEach (e :: es) X.env)) (backToKw pos (keywordEach [] X.env))) := by rfl)
    (he : starEach (e :: es) X.env = (false, eval e X.env) :: starEach es X.env := by rfl) (hpl : (backTo pos (starEach es X.env)).any (·.1) = false := by rfl) : PE X (.Call fe (e :: es) [] pos) (tCallI C sp (fun _ => E0) tf t) :=
  pe_callIG (E := fun _ => E0) hf c (fun σ pins H s e s' I hq => pass0 pins σ H s e s' I hq) hr hk ha ht he hpl
theorem pe_callIX (hf : PE X fe tf) (c : CalI X.prog X.w X.K X.mg X.base (L2.CX X.prog X.w) k C sp) (tk : Takes X W) (hr : Room j X.A) (hk : k ≤ j) (ha : PA X (e :: es) t)
    (ht : eval (.Call fe (e :: es) [] pos) X.env = (do callWith pos (← eval fe X.env) [] (backTo pos (starEach (e :: es) X.env)) (backToKw pos (keywordEach [] X.env))) := by rfl)
    (he : starEach (e :: es) X.env = (false, eval e X.env) :: starEach es X.env := by rfl) (hpl : (backTo pos (starEach es X.env)).any (·.1) = false := by rfl) : PE X (.Call fe (e :: es) [] pos) (tCallI C sp (WE W) tf t) :=
  pe_callIG hf c (fun σ => passAt tk σ) hr hk ha ht he hpl
end
/-! ### (v,) * n -/
theorem tuple_mulOne (l : Addr) (items : Array Value) (n : Nat) (dd : Option Addr) (sl : Array (Option Value)) (u : Tok) :
    Meets (Builtin.«tuple.__mul__» ⟨[.ref l, .int 1 u], []⟩) (fun _ R s => s.heap.get? l = some { cls := .type "tuple", dict := dd, data := .seq items n, slots := sl } ∧ R (.ok (.ret (Value.ref l))) s) :=
  .of_wp fun prog w A R s h => by
    obtain ⟨hp, g, d, tk, os⟩ := s
    obtain ⟨hl, h⟩ := h
    have f1 := AutoSeq1.idx_int
    have c1 : (items.isEmpty || (1 : Int) == 1) = true := by rw [Bool.or_eq_true]; exact Or.inr rfl
    wp_walk using wpAny_loadPart' hl
    repeat (first
      | (refine wpAny_ite_true (decide_eq_true (by rw [c1])) ?_; wp_walk using wpAny_loadPart' hl)
      | (refine wpAny_ite_true c1 ?_; wp_walk using wpAny_loadPart' hl))
    exact ⟨_, rfl, h⟩
theorem tuple_mulZero (l : Addr) (items : Array Value) (n : Nat) (dd : Option Addr) (sl : Array (Option Value)) (u : Tok) (hi : items.isEmpty = false) :
    Meets (Builtin.«tuple.__mul__» ⟨[.ref l, .int 0 u], []⟩) (fun _ R s => s.heap.get? l = some { cls := .type "tuple", dict := dd, data := .seq items n, slots := sl } ∧
      R (.ok (.ret (Value.ref s.heap.objs.size))) { s with heap := s.heap.push { cls := Value.type "tuple", data := Data.seq #[] }, toks := s.toks }) :=
  .of_wp fun prog w A R s h => by
    obtain ⟨hp, g, d, tk, os⟩ := s
    obtain ⟨hl, h⟩ := h
    have f1 := AutoSeq1.idx_int
    have c1 : (items.isEmpty || (0 : Int) == 1) = false := by rw [hi]; rfl
    have c2 : (decide ((0 : Int) ≤ 0) || items.isEmpty) = true := by rfl
    wp_walk using wpAny_loadPart' hl
    repeat (first
      | (refine wpAny_ite_false (decide_eq_false (by rw [c1]; exact Bool.false_ne_true)) ?_; wp_walk using wpAny_loadPart' hl)
      | (refine wpAny_ite_true (decide_eq_true (by rw [c2])) ?_; wp_walk using wpAny_loadPart' hl))
    exact ⟨_, rfl, h⟩
def rRepA (K : PySem.W.Frag) : R2 := fun x y H Q => ∃ l k v, x = .ref l ∧ y = .int k ∧ SqT K H l [v] ∧ 0 ≤ k ∧ k ≤ 100000 ∧ ∀ p H', SqT K H' p (List.replicate k.toNat v) → Same H H' → Q (.ref p) H'
theorem op_repA (K : PySem.W.Frag) {X : Cx} (eK : X.K = K := by rfl) : OpR X (binaryOp .Mult) (rRepA K) := by
  intro pins s σ H x y v u Q I rx ry h
  obtain ⟨l, k, w, rfl, rfl, hT, h1, h2, q⟩ := h
  by_cases k2 : 2 ≤ k
  · exact op_rep1 K eK pins s σ H _ _ v u Q I rx ry ⟨l, k, w, rfl, rfl, hT, k2, h2, fun p hp => q p _ (SqT.of upd_same) (same_new hp)⟩
  subst eK
  cases rx
  obtain ⟨t, rfl⟩ := ry
  obtain ⟨its, r, ⟨⟨cls, dd, data, sl⟩, ho, hc, n, hd⟩, hs⟩ := I.tuple hT
  simp only at hc hd
  subst hc hd
  rcases (by omega : k = 0 ∨ k = 1) with rfl | rfl
  · have hi : its.toArray.isEmpty = false := by
      obtain ⟨w', rfl, rw'⟩ := vals1 r
      rfl
    refine wpAny_binaryOp_repeat_ref (T := "tuple") (U := "int") (by decide) ⟨_, ho, rfl⟩ (fun s' => typeIs_int s' 0 t) noFill_tuple_mul F.fills_int_mul F.slot_int_rmul repeat_tuple F.slot_int_index.lookup
      (call_meets F.slot_int_rmul (typeIs_int s 0 t) F.entry_int_rmul (F.args_int_rmul_2 _ _) (int_rmul_tuple 0 t l its.toArray n dd sl)
        ⟨ho, rfl, ⟨_, ho, rfl⟩, call_meets F.slot_tuple_mul ⟨_, ho, rfl⟩ F.entry_tuple_mul (F.args_tuple_mul_2 _ _) (tuple_mulZero l its.toArray n dd sl t hi) ⟨ho, ?_⟩⟩)
    refine ⟨.ref s.heap.objs.size, _, I.laid (t' := s.toks) (o := .tup []) (fun b ob z => Heap.get?_push_of_some _ z) (Nat.le_refl _) ?_, rfl, q _ _ (SqT.of upd_same) (same_new (I.hok.fresh (Nat.le_refl _)))⟩
    exact ⟨by decide, [], .nil, IsTup.new _ _⟩
  · refine wpAny_binaryOp_repeat_ref (T := "tuple") (U := "int") (by decide) ⟨_, ho, rfl⟩ (fun s' => typeIs_int s' 1 t) noFill_tuple_mul F.fills_int_mul F.slot_int_rmul repeat_tuple F.slot_int_index.lookup
      (call_meets F.slot_int_rmul (typeIs_int s 1 t) F.entry_int_rmul (F.args_int_rmul_2 _ _) (int_rmul_tuple 1 t l its.toArray n dd sl)
        ⟨ho, rfl, ⟨_, ho, rfl⟩, call_meets F.slot_tuple_mul ⟨_, ho, rfl⟩ F.entry_tuple_mul (F.args_tuple_mul_2 _ _) (tuple_mulOne l its.toArray n dd sl t) ⟨ho, ?_⟩⟩)
    exact ⟨.ref l, H, I, rfl, q l H hT (Same.refl _)⟩
end G
/-! What a cutter cuts (plain): runs of windows; prices and losses of a cut; promises of the methods. -/
namespace G
open PySem PySem.Spec PyProof.Rows L2 LamX
inductive RunC (f : Str → Bool → Option Str) (v : Nat) : List Nat → List Str → Prop
  | nil : RunC f v [] []
  | cons {l r : List Nat} {y : Str} {ys : List Str} (ne : l ≠ []) (h : f (sOf (l.take v)) (decide ((l.take v).length < v)) = some y) (e : l = cs y ++ r) (n : cs y ≠ []) (t : RunC f v r ys) : RunC f v l (y :: ys)
section
variable {f : Str → Bool → Option Str} {v : Nat} {l r : List Nat} {y : Str} {ys zs : List Str}
theorem RunC.flat (h : RunC f v l ys) : (ys.map cs).flatten = l := by
  induction h with
  | nil => rfl
  | cons ne h e n t ih => rw [List.map_cons, List.flatten_cons, ih, e]
theorem RunC.head (h : RunC f v l (y :: ys)) : f (sOf (l.take v)) (decide ((l.take v).length < v)) = some y ∧ l = cs y ++ l.drop (cs y).length ∧ cs y ≠ [] ∧ l ≠ [] := by
  cases h with
  | cons ne h e n t =>
    refine ⟨h, ?_, n, ne⟩
    conv => rhs; rw [e, List.drop_left]
    exact e
theorem cut_win {z : Str} {a : Nat} {w : Int} (w0 : 0 ≤ w) (ha : a ≤ z.length) : cutS z (some (a : Int)) (some ((a : Int) + w)) = sOf (((cs z).drop a).take w.toNat) := by
  refine str_ext ?_
  have lz := cs_len z
  rw [cs_sOf, cs_cut, sIx_pos (by omega), sIx_pos (by omega), Int.toNat_natCast, Nat.min_eq_left ha]
  rcases Nat.lt_or_ge (z.length) ((a : Int) + w).toNat with q | q
  · rw [Nat.min_eq_right (by omega), List.take_of_length_le (by rw [List.length_drop]; omega), List.take_of_length_le (by rw [List.length_drop]; omega)]
  · rw [Nat.min_eq_left q]
    congr 1
    omega
theorem RunC.uniq (h : RunC f v l ys) : ∀ {zs}, RunC f v l zs → ys = zs := by
  induction h with
  | nil =>
    intro zs g
    cases g with
    | nil => rfl
    | cons ne => exact absurd rfl ne
  | cons ne h e n t ih =>
    intro zs g
    cases g with
    | nil => exact absurd rfl ne
    | cons ne2 h2 e2 n2 t2 =>
      rw [h] at h2
      cases h2
      rw [e] at e2
      have := List.append_cancel_left e2
      subst this
      rw [ih t2]
theorem RunC.len (h : RunC f v l ys) : ys.length ≤ l.length := by
  induction h with
  | nil => exact Nat.le_refl _
  | cons ne h e n t ih =>
    rw [e, List.length_append, List.length_cons]
    have := List.length_pos_iff.mpr n
    omega
/-- where the piece at i begins -/
def off (ys : List Str) (i : Nat) : Nat := ((ys.take i).map cs).flatten.length
theorem off_zero : off ys 0 = 0 := rfl
theorem off_succ {i : Nat} (h : ys[i]? = some y) : off ys (i + 1) = off ys i + (cs y).length := by
  unfold off
  obtain ⟨hi, e⟩ := List.getElem?_eq_some_iff.mp h
  rw [List.take_succ, h, List.map_append, List.flatten_append, List.length_append]
  simp
theorem off_mono {i j : Nat} (h : i ≤ j) : off ys i ≤ off ys j := by
  induction j with
  | zero => rw [Nat.le_zero.mp h]; exact Nat.le_refl _
  | succ j ih =>
    rcases Nat.lt_or_ge i (j + 1) with q | q
    · have := ih (by omega)
      cases e : ys[j]? with
      | some y => rw [off_succ e]; omega
      | none =>
        have hj := List.getElem?_eq_none_iff.mp e
        unfold off at this ⊢
        rw [List.take_of_length_le (by omega : ys.length ≤ j + 1)]
        rw [List.take_of_length_le hj] at this
        exact this
    · rw [show i = j + 1 by omega]; exact Nat.le_refl _
theorem off_lt (ne : ∀ y ∈ ys, cs y ≠ []) {i j : Nat} (h : i < j) (hj : j < ys.length) : off ys i < off ys j := by
  have e : ys[i]? = some ys[i] := List.getElem?_eq_getElem (by omega)
  have h1 := off_succ e
  have h2 := List.length_pos_iff.mpr (ne _ (List.getElem_mem (by omega : i < ys.length)))
  have h3 := off_mono (ys := ys) (show i + 1 ≤ j from h)
  omega
theorem off_drop (e : (ys.map cs).flatten = l) (i : Nat) : l.drop (off ys i) = ((ys.drop i).map cs).flatten := by
  conv => lhs; rw [← e, ← List.take_append_drop i ys, List.map_append, List.flatten_append]
  unfold off
  rw [List.take_append_drop, List.drop_left]
theorem off_le (e : (ys.map cs).flatten = l) (i : Nat) : off ys i ≤ l.length := by
  have h : (((ys.take i ++ ys.drop i).map cs).flatten).length = ((ys.map cs).flatten).length := by rw [List.take_append_drop]
  rw [List.map_append, List.flatten_append, List.length_append, e] at h
  unfold off
  omega
theorem off_all (e : (ys.map cs).flatten = l) : off ys ys.length = l.length := by
  unfold off
  rw [List.take_length, e]
theorem RunC.at' : ∀ {i : Nat} {l : List Nat} {ys : List Str}, RunC f v l ys → i ≤ ys.length → RunC f v (l.drop (off ys i)) (ys.drop i)
  | 0, l, ys, h, _ => h
  | i + 1, l, ys, h, hi => by
    cases h with
    | nil => exact absurd hi (by simp)
    | cons ne h e n t =>
      have ih := RunC.at' (i := i) t (by simpa using hi)
      rename_i r y ys
      have e2 : off (y :: ys) (i + 1) = (cs y).length + off ys i := by
        unfold off
        rw [List.take_succ_cons, List.map_cons, List.flatten_cons, List.length_append]
      rw [e2, e, ← List.drop_drop, List.drop_left]
      exact ih
theorem drop_head {i : Nat} (h : ys[i]? = some y) : ys.drop i = y :: ys.drop (i + 1) := by
  obtain ⟨hi, e⟩ := List.getElem?_eq_some_iff.mp h
  rw [List.drop_eq_getElem_cons hi, e]
/-- a text over the book has a run -/
theorem run_ex {kvs : List (Key × V)} {ord : List Str} {T E : List (Key × V)} {m n : Int} (WT : WinOk (tfD kvs) m T) (WE : WinOk (tfD kvs) n E) (al : (kvs.all fun kv => isPiece (kV kv.1) && isPrice kv.2) = true) (op : ord.Perm (keyStrs kvs)) (v1 : 1 ≤ v) :
    ∀ (k : Nat) (l : List Nat), l.length ≤ k → Over (tfD kvs) l → ∃ ys, RunC (tellS ord T E) v l ys ∧ ∀ y ∈ ys, ∃ p, tfD kvs y = some p
  | 0, l, hl, ov => ⟨[], by cases l with | nil => exact .nil | cons a b => simp at hl, fun _ h => (List.not_mem_nil h).elim⟩
  | k + 1, l, hl, ov => by
    by_cases ne : l = []
    · subst ne
      exact ⟨[], .nil, fun _ h => (List.not_mem_nil h).elim⟩
    · have hp := List.length_pos_iff.mpr ne
      have e1 : cs (sOf (l.take v)) = l.take v := cs_sOf _
      obtain ⟨y, hy⟩ := tell_ex (T := T) (E := E) (o := decide ((l.take v).length < v)) al op (w := sOf (l.take v)) (by rw [e1]; exact ov.take v) (by rw [e1, List.length_take]; omega)
      obtain ⟨⟨p, hp'⟩, r, hr⟩ := tell_piece WT WE al op hy
      rw [e1] at hr
      have ny : cs y ≠ [] := by
        have := (keyStrs_piece al _ ((tf_key al).mpr ⟨p, hp'⟩)).1
        intro e
        rw [e] at this
        simp at this
      have e2 : l = cs y ++ (r ++ l.drop v) := by rw [← List.append_assoc, ← hr, List.take_append_drop]
      have py := List.length_pos_iff.mpr ny
      have e3 := congrArg List.length e2
      rw [List.length_append] at e3
      obtain ⟨ys, h1, h2⟩ := run_ex WT WE al op v1 k (r ++ l.drop v) (by omega) (by rw [e2] at ov; exact ov.right)
      exact ⟨y :: ys, .cons ne hy e2 ny h1, fun z hz => by
        rcases List.mem_cons.mp hz with rfl | hz
        · exact ⟨p, hp'⟩
        · exact h2 z hz⟩
/-! ### losses -/
noncomputable def losL (F : Tf) : List Nat → List Str → List Int
  | _, [] => []
  | l, y :: ys => ((F y).getD 0 + lp F (l.drop (cs y).length) - lp F l) :: losL F (l.drop (cs y).length) ys
theorem losL_len {F : Tf} : ∀ {ys : List Str} {l : List Nat}, (losL F l ys).length = ys.length
  | [], _ => rfl
  | y :: ys, l => congrArg (· + 1) losL_len
theorem losL_at {F : Tf} : ∀ {ys : List Str} {l : List Nat} {i : Nat} {y : Str}, ys[i]? = some y → (losL F l ys)[i]? = some ((F y).getD 0 + lp F (l.drop (off ys (i + 1))) - lp F (l.drop (off ys i)))
  | [], _, _, _, h => by cases h
  | z :: ys, l, 0, y, h => by
    obtain rfl : z = y := Option.some.inj h
    have e : off (z :: ys) (0 + 1) = (cs z).length := by
      unfold off
      simp
    rw [e]
    rfl
  | z :: ys, l, i + 1, y, h => by
    have ih := losL_at (F := F) (ys := ys) (l := l.drop (cs z).length) (i := i) (y := y) h
    have e : ∀ j, off (z :: ys) (j + 1) = (cs z).length + off ys j := fun j => by
      unfold off
      rw [List.take_succ_cons, List.map_cons, List.flatten_cons, List.length_append]
    rw [e, e, ← List.drop_drop, ← List.drop_drop]
    exact ih
theorem losL_sum {F : Tf} (G : Good F) : ∀ {ys : List Str} {l : List Nat}, (ys.map cs).flatten = l → (losL F l ys).sum = sumOf F ys - lp F l
  | [], l, e => by
    subst e
    show (0 : Int) = sumOf F [] - lp F []
    rw [lp_nil G]
    rfl
  | y :: ys, l, e => by
    have e1 : l.drop (cs y).length = (ys.map cs).flatten := by
      rw [← e, List.map_cons, List.flatten_cons, List.drop_left]
    have ih := losL_sum G (ys := ys) e1.symm
    show (F y).getD 0 + lp F (l.drop (cs y).length) - lp F l + (losL F (l.drop (cs y).length) ys).sum = _
    rw [ih]
    have : sumOf F (y :: ys) = (F y).getD 0 + sumOf F ys := by
      unfold sumOf
      rw [List.map_cons, List.sum_cons]
    rw [this]
    omega
theorem losL_pos {F : Tf} (G : Good F) : ∀ {ys : List Str} {l : List Nat}, (ys.map cs).flatten = l → (∀ y ∈ ys, ∃ p, F y = some p) → Over F l → ∀ k ∈ losL F l ys, 0 ≤ k
  | [], l, _, _, _, k, h => (List.not_mem_nil h).elim
  | y :: ys, l, e, all, ov, k, h => by
    have e1 : l.drop (cs y).length = (ys.map cs).flatten := by
      rw [← e, List.map_cons, List.flatten_cons, List.drop_left]
    rcases List.mem_cons.mp h with h | h
    · obtain ⟨p, hp⟩ := all y List.mem_cons_self
      have e2 : l = cs y ++ l.drop (cs y).length := by
        rw [e1, ← e, List.map_cons, List.flatten_cons]
      have := lp_pre G (F := F) (z := y) (b := l.drop (cs y).length) (by rw [← e2]; exact ov) hp
      rw [← e2] at this
      rw [h, hp]
      show 0 ≤ p + _ - _
      omega
    · exact losL_pos G e1.symm (fun z hz => all z (List.mem_cons_of_mem _ hz)) (ov.drop _) k h
theorem all_zero {ks : List Int} (h : ∀ k ∈ ks, 0 ≤ k) (s : ks.sum = 0) : ks = List.replicate ks.length 0 := by
  induction ks with
  | nil => rfl
  | cons a r ih =>
    have h1 := h a List.mem_cons_self
    have h2 : 0 ≤ r.sum := by
      clear ih s
      induction r with
      | nil => exact Int.le_refl _
      | cons b t ih2 =>
        rw [List.sum_cons]
        have := h b (by simp)
        have := ih2 fun k hk => h k (by
          rcases List.mem_cons.mp hk with e | e
          · rw [e]; exact List.mem_cons_self
          · exact List.mem_cons_of_mem _ (List.mem_cons_of_mem _ e))
        omega
    rw [List.sum_cons] at s
    have ha : a = 0 := by omega
    have hr := ih (fun k hk => h k (List.mem_cons_of_mem _ hk)) (by omega)
    subst ha
    rw [List.length_cons, List.replicate_succ]
    exact congrArg (0 :: ·) hr
end
/-! ### promises -/
/-- a cutter, a text, its run -/
structure RunAt (C CU : Addr) (H : Hp) (c : Addr) (kvs : List (Key × V)) (z : Str) (ys : List Str) : Prop where
  len : z.length ≤ 8000
  ov : Over (tfD kvs) (cs z)
  all : ∀ y ∈ ys, ∃ p, tfD kvs y = some p
  ex : ∃ ord v T E, CutAt C CU H c kvs ord v T E ∧ RunC (tellS ord T E) v.toNat (cs z) ys
theorem RunAt.same {C CU : Addr} {H H' : Hp} {c : Addr} {kvs : List (Key × V)} {z : Str} {ys : List Str} (R : RunAt C CU H c kvs z ys) (s : Same H H') : RunAt C CU H' c kvs z ys := by
  obtain ⟨ord, v, T, E, A, r⟩ := R.ex
  exact ⟨R.len, R.ov, R.all, ord, v, T, E, A.same s, r⟩
def spCutIn (C CU : Addr) : Sp := fun vs H Q _ => ∃ c kvs z ys, vs = [.ref c, .str z] ∧ RunAt C CU H c kvs z ys ∧ ∀ p H', H p = none → H' p = some (.lst (ys.map V.str)) → Same H H' → Q (.ref p) H'
def spCutT (C CU : Addr) : Sp := fun vs H Q _ => ∃ c kvs z ys, vs = [.ref c, .str z] ∧ RunAt C CU H c kvs z ys ∧ ∀ p H', H p = none → H' p = some (.tup (ys.map V.str)) → Same H H' → Q (.ref p) H'
def spPriceC (C CU : Addr) : Sp := fun vs H Q _ => ∃ c kvs z ys, vs = [.ref c, .str z] ∧ RunAt C CU H c kvs z ys ∧ ∀ H', Same H H' → Q (.int (sumOf (tfD kvs) ys)) H'
def spBehind (C CU : Addr) : Sp := fun vs H Q _ => ∃ c kvs z ys, vs = [.ref c, .str z] ∧ RunAt C CU H c kvs z ys ∧ ∀ H', Same H H' → Q (.int (sumOf (tfD kvs) ys - lp (tfD kvs) (cs z))) H'
/-- a class's table left out -/
def spCutInit0 (C CU : Addr) : Sp := fun vs H Q _ => ∃ (c dx b to te : Addr) (kvs : List (Key × V)) (ord : List Str) (v : Int) (E : List (Key × V)), vs = [.ref c, .ref b, .ref to, .int v, .non, .ref te] ∧ H c = some (.ins CU dx []) ∧ Book1 C H b kvs ∧ H to = some (.tup (ord.map V.str)) ∧
  H te = some (.dK E) ∧ WinOk (tfD kvs) (v - 1) E ∧ ord.Perm (keyStrs kvs) ∧ 1 ≤ v ∧ v ≤ 2000 ∧ ∀ H', CutAt C CU H' c kvs ord v [] E → (∀ a o, H a = some o → a ≠ c → H' a = some o) → Q .non H'
def spLosses (C CU : Addr) : Sp := fun vs H Q _ => ∃ c kvs z ys, vs = [.ref c, .str z] ∧ RunAt C CU H c kvs z ys ∧ ∀ p H', H p = none → H' p = some (.tup ((losL (tfD kvs) (cs z) ys).map V.int)) → Same H H' → Q (.ref p) H'
end G
/-! k18: a price changed, cutters that see the whole text, the promises of the law's parts. -/
namespace G
open PySem PySem.Spec PyProof.Rows L2 LamX
theorem WinOk.key {F F' : Tf} {m : Int} {T : List (Key × V)} (W : WinOk F m T) (h : ∀ y p, F y = some p → ∃ q, F' y = some q) : WinOk F' m T := ⟨W.nd, W.len, fun kv hkv => by
  obtain ⟨z, y, e, h1, h2, ov, ⟨p, hp⟩, r⟩ := W.ent kv hkv
  exact ⟨z, y, e, h1, h2, fun c hc => by obtain ⟨q, hq⟩ := ov c hc; exact h _ q hq, h y p hp, r⟩⟩
/-- another price of a piece -/
theorem ap_upd {kvs : List (Key × V)} {z : Str} {p q : Int} (av : arePrices kvs = true) (nd : (kvs.map (·.1)).Nodup) (hz : tfD kvs z = some q) (hp : 1 ≤ p ∧ p ≤ 99) :
    arePrices (putK kvs (Sum.inr z) (.int p)) = true ∧ ((putK kvs (Sum.inr z) (.int p)).map (·.1)).Nodup ∧ keyStrs (putK kvs (Sum.inr z) (.int p)) = keyStrs kvs := by
  obtain ⟨⟨_, n12⟩, al, _, _⟩ := ap_parts av
  have hm := (tf_key al).mpr ⟨q, hz⟩
  obtain ⟨l1, l5, _⟩ := keyStrs_piece al z hm
  have good := good_of av
  have ov : Over (tfD kvs) (cs z) := fun c hc => good.cov z q hz c hc
  obtain ⟨sg, S⟩ := sgs_of av nd
  have P : PrOk sg (putK kvs (Sum.inr z) (.int p)) := S.ok.put ⟨l1, l5⟩ (fun c hc => (S.tf c).mp (ov c hc)) hp
  have hs : (valV kvs (Sum.inr z)).isSome = true := by
    rw [tf_some.mp hz]
    rfl
  have ek : (putK kvs (Sum.inr z) (.int p)).map (·.1) = kvs.map (·.1) := by rw [put_keys, if_pos hs]
  have el := congrArg List.length ek
  rw [List.length_map, List.length_map] at el
  refine ⟨(P.right (fun c hc => ?_) S.lt S.n4 S.n1 (by omega)).1, P.nd, ?_⟩
  · rw [valV_put]
    split
    · rfl
    · obtain ⟨q, hq⟩ := (S.tf c).mpr hc
      rw [tf_some.mp hq]
      rfl
  · have : ∀ T : List (Key × V), keyStrs T = (T.map (·.1)).filterMap fun k => match k with | .inr z => some z | .inl _ => none := fun T => by
      unfold keyStrs
      rw [List.filterMap_map]
      congr 1
    rw [this, this, ek]
/-- what is put into a table of windows -/
theorem tab_put {T : List (Key × V)} {z y w : Str} : tabAt (putK T (Sum.inr z) (.str y)) w = if w = z then some y else tabAt T w := by
  unfold tabAt
  rw [valV_put]
  by_cases h : w = z
  · subst h
    rw [if_pos rfl, if_pos rfl]
  · rw [if_neg (fun e => h (Sum.inr.inj e)), if_neg h]
/-- a cutter that sees the whole text and has its rests in its ends -/
theorem run_see {ord : List Str} {T E : List (Key × V)} {v : Nat} : ∀ {l : List Nat} {c : List Str}, (c.map cs).flatten = l → l.length < v → (∀ y ∈ c, cs y ≠ []) → (∀ i y, c[i]? = some y → tabAt E (sOf (l.drop (off c i))) = some y) → RunC (tellS ord T E) v l c
  | l, [], e, hl, ne, h => by
    subst e
    exact .nil
  | l, y :: c, e, hl, ne, h => by
    rw [List.map_cons, List.flatten_cons] at e
    have ny := ne y List.mem_cons_self
    have h0 := h 0 y rfl
    have nl : l ≠ [] := fun q => by
      rw [q] at e
      exact ny (List.append_eq_nil_iff.mp e).1
    have el := congrArg List.length e
    rw [List.length_append] at el
    refine .cons nl ?_ e.symm ny (run_see rfl (by omega) (fun z hz => ne z (List.mem_cons_of_mem _ hz)) fun i z hz => ?_)
    · rw [List.take_of_length_le (by omega), decide_eq_true hl]
      unfold tellS
      rw [if_pos rfl]
      have e0 : l.drop (off (y :: c) 0) = l := rfl
      rw [e0] at h0
      rw [h0]
      rfl
    · have := h (i + 1) z hz
      have e2 : off (y :: c) (i + 1) = (cs y).length + off c i := by
        unfold off
        rw [List.take_succ_cons, List.map_cons, List.flatten_cons, List.length_append]
      rw [e2, ← e, ← List.drop_drop, List.drop_left] at this
      exact this
theorem dec_eq {i j : Int} (h : i = j) : decide (V.int i = V.int j) = true := decide_eq_true (congrArg V.int h)
theorem pcs_len : ∀ {c : List Str}, (∀ y ∈ c, cs y ≠ []) → c.length ≤ (c.map cs).flatten.length
  | [], _ => Nat.le_refl _
  | y :: r, ne => by
    rw [List.map_cons, List.flatten_cons, List.length_append, List.length_cons]
    have h1 := List.length_pos_iff.mpr (ne y List.mem_cons_self)
    have h2 := pcs_len (c := r) (fun w hw => ne w (List.mem_cons_of_mem _ hw))
    omega
theorem Dice.ne' {H : Hp} {l : Addr} {n : Nat} {a : Addr} {o : HO} (D : Dice H l n) (h : H a = some o) (hn : ∀ x y z, o ≠ .lst [.int x, .int y, .int z]) : a ≠ l := fun e => by
  obtain ⟨d0, d1, d2, hl, _⟩ := D
  rw [e, hl] at h
  exact hn _ _ _ (Option.some.inj h).symm
theorem Book1.ku {C : Addr} {H H' : Hp} {l b : Addr} {kvs : List (Key × V)} {n : Nat} (B : Book1 C H b kvs) (D : Dice H l n) (k : KpU l H H') : Book1 C H' b kvs := by
  obtain ⟨ys, L, M, dx, d, tp, ta, od, h1, h2, A⟩ := B.ex
  have ne : ∀ {a : Addr} {u : HO}, H a = some u → (∀ x y z, u ≠ .lst [.int x, .int y, .int z]) → (∀ ps, u ≠ .tbl ps) → H' a = some u := fun {a u} e n t => k _ _ e t (D.ne' e n)
  exact ⟨B.av, B.nd, ys, L, M, dx, d, tp, ta, od, h1, h2, ne A.ob (by simp) (by simp), ne A.dc (by simp) (by simp), ne A.pi (by simp) (by simp), ne A.al (by simp) (by simp), A.lo, A.de⟩
theorem PartsAt.ku {l : Addr} {H H' : Hp} {pa : Addr} {kvs : List (Key × V)} {ord : List Str} {v : Int} {T E : List (Key × V)} {n : Nat} (A : PartsAt H pa kvs ord v T E) (D : Dice H l n) (k : KpU l H H') : PartsAt H' pa kvs ord v T E := by
  obtain ⟨to, td, te, h1, h2, h3, h4⟩ := A.ex
  have ne : ∀ {a : Addr} {u : HO}, H a = some u → (∀ x y z, u ≠ .lst [.int x, .int y, .int z]) → (∀ ps, u ≠ .tbl ps) → H' a = some u := fun {a u} e n t => k _ _ e t (D.ne' e n)
  exact ⟨A.wt, A.we, A.op, A.v1, A.v2, to, td, te, ne h1 (by simp) (by simp), ne h2 (by simp) (by simp), ne h3 (by simp) (by simp), ne h4 (by simp) (by simp)⟩
theorem CutAt.ku {C CU l : Addr} {H H' : Hp} {c : Addr} {kvs : List (Key × V)} {ord : List Str} {v : Int} {T E : List (Key × V)} {n : Nat} (A : CutAt C CU H c kvs ord v T E) (D : Dice H l n) (k : KpU l H H') : CutAt C CU H' c kvs ord v T E := by
  obtain ⟨b, dx, to, td, te, ts, T', E', ns, h1, h2, h3, h4, h5, h6, r⟩ := A.ex
  have ne : ∀ {a : Addr} {u : HO}, H a = some u → (∀ x y z, u ≠ .lst [.int x, .int y, .int z]) → (∀ ps, u ≠ .tbl ps) → H' a = some u := fun {a u} e n t => k _ _ e t (D.ne' e n)
  exact ⟨A.wt, A.we, A.op, A.v1, A.v2, b, dx, to, td, te, ts, T', E', ns, ne h1 (by simp [cutF]) (by simp), h2.ku D k, ne h3 (by simp) (by simp), ne h4 (by simp) (by simp), ne h5 (by simp) (by simp), ne h6 (by simp) (by simp), r⟩
theorem RunAt.ku {C CU l : Addr} {H H' : Hp} {c : Addr} {kvs : List (Key × V)} {z : Str} {ys : List Str} {n : Nat} (R : RunAt C CU H c kvs z ys) (D : Dice H l n) (k : KpU l H H') : RunAt C CU H' c kvs z ys := by
  obtain ⟨ord, v, T, E, A, r⟩ := R.ex
  exact ⟨R.len, R.ov, R.all, ord, v, T, E, A.ku D k, r⟩
theorem KpU.seqN {K : PySem.W.Frag} {l a : Addr} {H H' : Hp} {xs : List V} (k : KpU l H H') (hl : H l = none) (h : SqL K H a xs) : SqL K H' a xs := by
  rcases h with (h | ⟨o, h⟩) | h
  · exact Or.inl (Or.inl (k _ _ h (fun _ e => by cases e) (ne_of_none h hl)))
  · exact Or.inl (Or.inr ⟨o, k _ _ h (fun _ e => by cases e) (ne_of_none h hl)⟩)
  · exact Or.inr h
theorem pcs_of {kvs : List (Key × V)} {H : Hp} (G : Good (tfD kvs)) {c : List Str} (hc : ∀ y ∈ c, ∃ p, tfD kvs y = some p) : ∀ v ∈ c.map V.str, Val H v := fun v hv => by
  obtain ⟨y, hy, rfl⟩ := List.mem_map.mp hv
  obtain ⟨p, hp⟩ := hc y hy
  have := G.len y p hp
  rw [cs_len] at this
  exact .inr ⟨y, rfl, by omega⟩
theorem shaped_tI (is : List Int) : SeqAt.shaped (.tuple (is.map PyData.int)) = true := by
  have h1 : ∀ l : List Int, PyData.canLayAll0 (l.map PyData.int) = true := by
    intro l
    induction l with
    | nil => rfl
    | cons i r ih =>
      show (PyData.canLay0 (.int i) && _) = true
      rw [ih]
      rfl
  have h2 : ∀ l : List Int, PyData.depthAll (l.map PyData.int) ≤ 1 := by
    intro l
    induction l with
    | nil => simp [PyData.depthAll]
    | cons i r ih =>
      simp only [List.map_cons, PyData.depthAll, PyData.depth]
      omega
  have := h2 is
  unfold SeqAt.shaped
  rw [Bool.and_eq_true, decide_eq_true_eq]
  refine ⟨h1 is, ?_⟩
  simp only [PyData.depth]
  omega
theorem losL_drop {F : Tf} : ∀ {i : Nat} {ys : List Str} {l : List Nat}, i ≤ ys.length → (losL F l ys).drop i = losL F (l.drop (off ys i)) (ys.drop i)
  | 0, ys, l, _ => rfl
  | i + 1, [], l, h => absurd h (by simp)
  | i + 1, y :: ys, l, h => by
    have e : off (y :: ys) (i + 1) = (cs y).length + off ys i := by
      unfold off
      rw [List.take_succ_cons, List.map_cons, List.flatten_cons, List.length_append]
    show (losL F (l.drop (cs y).length) ys).drop i = losL F (l.drop (off (y :: ys) (i + 1))) (ys.drop i)
    rw [e, ← List.drop_drop]
    exact losL_drop (i := i) (ys := ys) (l := l.drop (cs y).length) (by simpa using h)
theorem cheap_losses {F : Tf} (G : Good F) {l : List Nat} {c : List Str} (h : Cheap F l c) (ov : Over F l) : losL F l c = List.replicate c.length 0 := by
  have e := losL_sum G h.flat
  have e2 : sumOf F c = lp F l := h.sum
  rw [e2] at e
  have z := all_zero (losL_pos G h.flat h.all ov) (by omega)
  rw [losL_len] at z
  exact z
theorem cheap_rest {F : Tf} (G : Good F) {l : List Nat} {c : List Str} (h : Cheap F l c) (ov : Over F l) {i : Nat} (hi : i ≤ c.length) : sumOf F (c.drop i) - lp F (l.drop (off c i)) = 0 := by
  have fl := off_drop h.flat i
  have e := losL_sum (F := F) G fl.symm
  rw [← losL_drop hi, cheap_losses G h ov, List.drop_replicate] at e
  rw [← e]
  have z : ∀ n : Nat, (List.replicate n (0 : Int)).sum = 0 := fun n => by
    induction n with
    | zero => rfl
    | succ n ih => rw [List.replicate_succ, List.sum_cons, ih]; rfl
  exact z _
/-! ### promises -/
def spLossOk (C CU : Addr) : Sp := fun vs H Q _ => ∃ b c kvs z ys, vs = [.ref b, .ref c, .str z] ∧ Book1 C H b kvs ∧ RunAt C CU H c kvs z ys ∧ ∀ H', Same H H' → Q (.bl true) H'
def spSeeing (C CU : Addr) (T : List (Addr × Str)) : Sp := fun vs H Q _ => ∃ (l b d t : Addr) (kvs : List (Key × V)) (z : Str) (c : List Str) (n : Nat), vs = [.ref l, .ref b, .ref d, .str z, .ref t] ∧ Tabs T H ∧ d ≠ l ∧ H d = some (.dK kvs) ∧ (kvs.map (·.1)).Nodup ∧ Book1 C H b kvs ∧ Dice H l (n + 20) ∧
  H t = some (.tup (c.map V.str)) ∧ (∀ y ∈ c, ∃ p, tfD kvs y = some p) ∧ (c.map cs).flatten = cs z ∧ Over (tfD kvs) (cs z) ∧ z.length ≤ 1000 ∧
  ∀ q H', RunAt C CU H' q kvs z c → (∀ i, i ≤ c.length → RunAt C CU H' q kvs (sOf ((cs z).drop (off c i))) (c.drop i)) → KpU l H H' → Tabs T H' → Dice H' l n → Q (.ref q) H'
end G
/-! Stands: what a cutter has told of a text, and what waits. -/
namespace G
open PySem PySem.Spec PyProof.Rows L2 LamX
/-! ### what is told, what waits (plain) -/
/-- the text so far, the pieces that are told of it, the signs that wait -/
inductive StandR (f : Str → Bool → Option Str) (v : Nat) : List Nat → List Str → List Nat → Prop
  | nil : StandR f v [] [] []
  | wait {l w : List Nat} {ts : List Str} {c : Nat} (h : StandR f v l ts w) (s : (w ++ [c]).length < v) : StandR f v (l ++ [c]) ts (w ++ [c])
  | tell {l w r : List Nat} {ts : List Str} {c : Nat} {y : Str} (h : StandR f v l ts w) (s : (w ++ [c]).length = v) (t : f (sOf (w ++ [c])) false = some y) (e : w ++ [c] = cs y ++ r) (n : cs y ≠ []) : StandR f v (l ++ [c]) (ts ++ [y]) r
section
variable {f : Str → Bool → Option Str} {v : Nat} {l w m : List Nat} {ts ys : List Str}
theorem StandR.flat (h : StandR f v l ts w) : (ts.map cs).flatten ++ w = l := by
  induction h with
  | nil => rfl
  | wait h s ih => rw [← List.append_assoc, ih]
  | @tell l w r ts c y h s t e n ih => rw [List.map_append, List.flatten_append, List.append_assoc, List.map_singleton, List.flatten_singleton, ← e, ← List.append_assoc, ih]
theorem StandR.small (h : StandR f v l ts w) (hv : 1 ≤ v) : w.length < v := by
  cases h with
  | nil => exact hv
  | wait h s => exact s
  | @tell l w r ts c y h s t e n =>
    have := congrArg List.length e
    have hn := List.length_pos_iff.mpr n
    rw [List.length_append (as := cs y)] at this
    omega
/-- the cut of a longer text begins with what is told -/
theorem StandR.more (h : StandR f v l ts w) : ∀ {m : List Nat} {ys : List Str}, RunC f v (w ++ m) ys → RunC f v (l ++ m) (ts ++ ys) := by
  induction h with
  | nil => exact fun {m ys} r => r
  | @wait l w ts c h s ih =>
    intro m ys r
    rw [List.append_assoc] at r ⊢
    exact ih r
  | @tell l w r ts c y h s t e n ih =>
    intro m ys q
    have e2 : w ++ ([c] ++ m) = (w ++ [c]) ++ m := (List.append_assoc _ _ _).symm
    have hp : 1 ≤ (w ++ [c]).length := by rw [List.length_append]; exact Nat.le_add_left _ _
    have tk : (w ++ ([c] ++ m)).take v = w ++ [c] := by rw [e2, ← s, List.take_left]
    have := ih (m := [c] ++ m) (ys := y :: ys) (.cons (fun z => by rw [e2] at z; rw [(List.append_eq_nil_iff.mp z).1] at hp; simp at hp) (by rw [tk, s, decide_eq_false (Nat.lt_irrefl v)]; exact t) (r := r ++ m) (by rw [e2, e, List.append_assoc]) n q)
    rw [List.append_assoc, List.append_assoc]
    exact this
theorem StandR.run (h : StandR f v l ts w) (r : RunC f v w ys) : RunC f v l (ts ++ ys) := by
  have := h.more (m := []) (ys := ys) (by rw [List.append_nil]; exact r)
  rw [List.append_nil] at this
  exact this
/-- the told pieces of a text come first in every cut that goes on -/
theorem StandR.early (h : StandR f v l ts w) {zs us : List Str} (r : RunC f v (l ++ m) zs) (q : RunC f v (w ++ m) us) : zs = ts ++ us := r.uniq (h.more q)
end
/-! ### fronts and stands in the heap -/
def FrK (K : PySem.W.Frag) (H : Hp) (t : Addr) (l : List Nat) (ds : List Int) : Prop := ∃ td, SqT K H t [.str (sOf l), .ref td] ∧ SqT K H td (ds.map V.int)
theorem sqt_s {K : PySem.W.Frag} {H H' : Hp} {a : Addr} {xs : List V} (s : Same H H') (h : SqT K H a xs) : SqT K H' a xs := by
  rcases h with (h | ⟨o, h⟩) | h
  · exact Or.inl (Or.inl (s _ _ h))
  · exact Or.inl (Or.inr ⟨o, s _ _ h⟩)
  · exact Or.inr h
theorem FrK.same {K : PySem.W.Frag} {H H' : Hp} {t : Addr} {l : List Nat} {ds : List Int} (h : FrK K H t l ds) (s : Same H H') : FrK K H' t l ds := by
  obtain ⟨td, h1, h2⟩ := h
  exact ⟨td, sqt_s s h1, sqt_s s h2⟩
theorem FrK.of {K : PySem.W.Frag} {H : Hp} {t : Addr} {l : List Nat} {ds : List Int} (h : FrontAt H t l ds) : FrK K H t l ds := by
  obtain ⟨td, h1, h2⟩ := h
  exact ⟨td, SqT.of h1, SqT.of h2⟩
/-- a stand: a front and waiting signs -/
def StandAt (K : PySem.W.Frag) (H : Hp) (t : Addr) (l : List Nat) (ds : List Int) (w : List Nat) : Prop := ∃ u, SqT K H t [.ref u, .str (sOf w)] ∧ FrK K H u l ds
theorem StandAt.same {K : PySem.W.Frag} {H H' : Hp} {t : Addr} {l w : List Nat} {ds : List Int} (h : StandAt K H t l ds w) (s : Same H H') : StandAt K H' t l ds w := by
  obtain ⟨u, h1, h2⟩ := h
  exact ⟨u, sqt_s s h1, h2.same s⟩
/-! ### the first stand, a constant of the module -/
def InW (K : PySem.W.Frag) (a : Addr) (xs : List V) : Prop := ∃ (o : Obj) (its : Array Value) (n : Nat), K.lookup a = some o ∧ o.cls = .type "tuple" ∧ o.data = .seq its n ∧ its.size ≤ sizeLine ∧ Vals xs its.toList
def FirstK (K : PySem.W.Frag) (a : Addr) : Prop := ∃ f b, InW K a [.ref f, .str (sOf [])] ∧ InW K f [.str (sOf []), .ref b] ∧ InW K b []
theorem FirstK.at {K : PySem.W.Frag} {H : Hp} {a : Addr} (h : FirstK K a) : StandAt K H a [] [] [] := by
  obtain ⟨f, b, h1, h2, h3⟩ := h
  exact ⟨f, .inr h1, b, .inr h2, .inr h3⟩
theorem firstK_of {K : PySem.W.Frag} {aS aF bF : Addr} {dS dF dF2 : Option Addr} {iS iF iF2 : Array Value} {mS mF mF2 : Nat} {sS sF sF2 : Array (Option Value)} {tS tF : Tok} {zS zF : Str} (l0 : K.lookup aS = some ⟨.type "tuple", dS, .seq iS mS, sS⟩) (e0 : iS.toList = [.ref aF, .str zS tS]) (ez0 : zS = sOf [])
    (l1 : K.lookup aF = some ⟨.type "tuple", dF, .seq iF mF, sF⟩) (e1 : iF.toList = [.str zF tF, .ref bF]) (ez : zF = sOf [])
    (l2 : K.lookup bF = some ⟨.type "tuple", dF2, .seq iF2 mF2, sF2⟩) (e2 : iF2.toList = []) : FirstK K aS := by
  subst ez ez0
  refine ⟨aF, bF, ⟨_, iS, mS, l0, rfl, rfl, ?_, ?_⟩, ⟨_, iF, mF, l1, rfl, rfl, ?_, ?_⟩, ⟨_, iF2, mF2, l2, rfl, rfl, ?_, ?_⟩⟩
  · rw [← Array.length_toList, e0]
    show 2 ≤ sizeLine
    decide
  · rw [e0]
    exact .cons rfl (.cons ⟨tS, rfl⟩ .nil)
  · rw [← Array.length_toList, e1]
    show 2 ≤ sizeLine
    decide
  · rw [e1]
    exact .cons ⟨tF, rfl⟩ (.cons rfl .nil)
  · rw [← Array.length_toList, e2]
    exact Nat.zero_le _
  · rw [e2]
    exact .nil
/-! ### promises -/
/-- step_in, of fronts that may be written -/
def spStepF (K : PySem.W.Frag) (C : Addr) : Sp := fun vs H Q _ => ∃ (b f : Addr) (kvs : List (Key × V)) (l : List Nat) (ds : List Int) (c L : Nat), vs = [.ref b, .ref f, .str (ch c)] ∧ Book1 C H b kvs ∧ FrK K H f l ds ∧ Wide (tfD kvs) L ∧ Over (tfD kvs) l ∧ Over (tfD kvs) [c] ∧ l.length < L ∧ ds.length = l.length ∧ (∀ x ∈ l, lett x = true) ∧
  (∀ x ∈ ds, isInteger (.int x) = true) ∧ ∀ t m H', StepR (tfD kvs) l ds c m → StepAt H' t (stepW L l c) (stepD L l ds c m) m → Same H H' → Q (.ref t) H'
def spReqCut (CU : Addr) : Sp := fun vs H Q _ => ∃ c dx fs, vs = [.ref c] ∧ H c = some (.ins CU dx fs) ∧ Q .non H
/-- what a waiting text and a sign tell -/
inductive WaitStep (f : Str → Bool → Option Str) (F : Tf) (v : Nat) (w : List Nat) (c : Nat) : List Nat → Int → Prop
  | wait (s : (w ++ [c]).length < v) : WaitStep f F v w c (w ++ [c]) 0
  | tell {y : Str} {p : Int} {r : List Nat} (s : (w ++ [c]).length = v) (t : f (sOf (w ++ [c])) false = some y) (e : w ++ [c] = cs y ++ r) (n : cs y ≠ []) (hp : F y = some p) : WaitStep f F v w c r p
def spWaitStep (C CU : Addr) : Sp := fun vs H Q _ => ∃ (c : Addr) (kvs : List (Key × V)) (ord : List Str) (v : Nat) (T E : List (Key × V)) (w : List Nat) (s : Nat), vs = [.ref c, .str (sOf w), .str (ch s)] ∧ CutAt C CU H c kvs ord (v : Int) T E ∧ w.length < v ∧ Over (tfD kvs) w ∧ Over (tfD kvs) [s] ∧
  ∀ t r p H', H t = none → WaitStep (tellS ord T E) (tfD kvs) v w s r p → H' t = some (.tup [.str (sOf r), .int p]) → Same H H' → Q (.ref t) H'
def spWaitEnd (C CU : Addr) : Sp := fun vs H Q _ => ∃ (c : Addr) (kvs : List (Key × V)) (ord : List Str) (v : Nat) (T E : List (Key × V)) (w : List Nat) (ys : List Str), vs = [.ref c, .str (sOf w)] ∧ CutAt C CU H c kvs ord (v : Int) T E ∧ w.length < v ∧ Over (tfD kvs) w ∧ RunC (tellS ord T E) v w ys ∧ (∀ y ∈ ys, ∃ p, tfD kvs y = some p) ∧
  ∀ H', Same H H' → Q (.int (sumOf (tfD kvs) ys)) H'
/-- what a stand must have for a step -/
structure StandOk (F : Tf) (L v : Nat) (l : List Nat) (ds : List Int) (w : List Nat) : Prop where
  wd : Wide F L
  ol : Over F l
  ln : l.length < L
  dl : ds.length = l.length
  lt : ∀ x ∈ l, lett x = true
  di : ∀ x ∈ ds, isInteger (.int x) = true
  wl : w.length < v
  ow : Over F w
def spStandStep (C CU : Addr) (K : PySem.W.Frag) : Sp := fun vs H Q _ => ∃ (c s : Addr) (kvs : List (Key × V)) (ord : List Str) (v : Nat) (T E : List (Key × V)) (l : List Nat) (ds : List Int) (w : List Nat) (x L : Nat), vs = [.ref c, .ref s, .str (ch x)] ∧ CutAt C CU H c kvs ord (v : Int) T E ∧ StandAt K H s l ds w ∧ StandOk (tfD kvs) L v l ds w ∧ Over (tfD kvs) [x] ∧
  ∀ t s' r p m H', H t = none → H' t = some (.tup [.ref s', .int p, .int m]) → StandAt K H' s' (stepW L l x) (stepD L l ds x m) r → WaitStep (tellS ord T E) (tfD kvs) v w x r p → StepR (tfD kvs) l ds x m → Same H H' → Q (.ref t) H'
/-- a triple of stands_along -/
def AlongAt (K : PySem.W.Frag) (H : Hp) (F : Tf) (L : Nat) (f : Str → Bool → Option Str) (v : Nat) (l : List Nat) (t : Addr) : Prop :=
  ∃ s ts w, H t = some (.tup [.ref s, .int (sumOf F ts), .int (lp F l)]) ∧ StandAt K H s (frontW L l) (frontD F L l) w ∧ StandR f v l ts w ∧ ∀ y ∈ ts, ∃ p, F y = some p
theorem AlongAt.same {K : PySem.W.Frag} {H H' : Hp} {F : Tf} {L : Nat} {f : Str → Bool → Option Str} {v : Nat} {l : List Nat} {t : Addr} (h : AlongAt K H F L f v l t) (s : Same H H') : AlongAt K H' F L f v l t := by
  obtain ⟨u, ts, w, h1, h2, r⟩ := h
  exact ⟨u, ts, w, s _ _ h1, h2.same s, r⟩
def spAlongS (C CU : Addr) (K : PySem.W.Frag) : Sp := fun vs H Q _ => ∃ (c : Addr) (kvs : List (Key × V)) (ord : List Str) (v L : Nat) (T E : List (Key × V)) (z : Str), vs = [.ref c, .str z] ∧ CutAt C CU H c kvs ord (v : Int) T E ∧ Wide (tfD kvs) L ∧ Over (tfD kvs) (cs z) ∧ z.length ≤ 8000 ∧
  ∀ p (as : List Addr) H', H p = none → H' p = some (.lst (as.map V.ref)) → as.length = z.length + 1 → (∀ i a, as[i]? = some a → AlongAt K H' (tfD kvs) L (tellS ord T E) v ((cs z).take i) a) → Same H H' → Q (.ref p) H'
theorem StandR.step {f : Str → Bool → Option Str} {F : Tf} {v c : Nat} {l w r : List Nat} {ts : List Str} {p : Int} (h : StandR f v l ts w) (hs : WaitStep f F v w c r p) (all : ∀ y ∈ ts, ∃ q, F y = some q) : ∃ ts', StandR f v (l ++ [c]) ts' r ∧ sumOf F ts' = sumOf F ts + p ∧ ∀ y ∈ ts', ∃ q, F y = some q := by
  cases hs with
  | wait s => exact ⟨ts, .wait h s, (Int.add_zero _).symm, all⟩
  | @tell y p r s t e n hp =>
    refine ⟨ts ++ [y], .tell h s t e n, ?_, fun z hz => ?_⟩
    · unfold sumOf
      rw [List.map_append, List.sum_append]
      show _ + ((F y).getD 0 + 0) = _
      rw [hp, Int.add_zero]
      rfl
    · rcases List.mem_append.mp hz with q | q
      · exact all z q
      · rw [List.mem_singleton.mp q]
        exact ⟨p, hp⟩
theorem StandR.over {f : Str → Bool → Option Str} {F : Tf} {v : Nat} {l w : List Nat} {ts : List Str} (h : StandR f v l ts w) (o : Over F l) : Over F w := fun c hc => o c (by rw [← h.flat]; exact List.mem_append_right _ hc)
theorem sqt_updL {K : PySem.W.Frag} {H : Hp} {a p : Addr} {xs ys : List V} {o : HO} (h : SqT K H a xs) (q : H p = some (.lst ys)) : SqT K (upd H p o) a xs := by
  rcases h with (h | ⟨u, h⟩) | h
  · exact Or.inl (Or.inl ((upd_ne (fun e => by rw [e, q] at h; cases h)).trans h))
  · exact Or.inl (Or.inr ⟨u, (upd_ne (fun e => by rw [e, q] at h; cases h)).trans h⟩)
  · exact Or.inr h
theorem AlongAt.updL {K : PySem.W.Frag} {H : Hp} {F : Tf} {L : Nat} {f : Str → Bool → Option Str} {v : Nat} {l : List Nat} {t p : Addr} {ys : List V} {o : HO} (h : AlongAt K H F L f v l t) (q : H p = some (.lst ys)) : AlongAt K (upd H p o) F L f v l t := by
  obtain ⟨u, ts, w, h1, ⟨b, h2, td, h3, h4⟩, r⟩ := h
  exact ⟨u, ts, w, (upd_ne (fun e => by rw [e, q] at h1; cases h1)).trans h1, ⟨b, sqt_updL h2 q, td, sqt_updL h3 q, sqt_updL h4 q⟩, r⟩
theorem ty_sqs {K : PySem.W.Frag} {H : Hp} {f : Addr} {xs : List V} (h : SqT K H f xs) : TyX K H (.ref f) (.type "tuple") := by
  rcases h with (h | ⟨o, h⟩) | ⟨o, _, _, h1, h2, _⟩
  · exact .base (.tup h)
  · exact .fTuple h
  · exact .kTuple h1 h2
/-- has_front_form, of fronts that may be written -/
def spFormF (K : PySem.W.Frag) (C : Addr) : Sp := fun vs H Q _ => ∃ (b f : Addr) (kvs : List (Key × V)) (l : List Nat) (ds : List Int) (L : Nat), vs = [.ref b, .ref f] ∧ Book1 C H b kvs ∧ FrK K H f l ds ∧ Wide (tfD kvs) L ∧ Over (tfD kvs) l ∧ l.length < L ∧ ds.length = l.length ∧ (∀ x ∈ l, lett x = true) ∧
  (∀ x ∈ ds, isInteger (.int x) = true) ∧ ∀ H', Same H H' → Q (.bl true) H'
def StandArg (C CU : Addr) (K : PySem.W.Frag) (vs : List V) (H : Hp) (kvs : List (Key × V)) (ord : List Str) (v L : Nat) (T E : List (Key × V)) (l : List Nat) (ds : List Int) (w : List Nat) : Prop := ∃ c s, vs = [.ref c, .ref s] ∧ CutAt C CU H c kvs ord (v : Int) T E ∧ StandAt K H s l ds w ∧ StandOk (tfD kvs) L v l ds w
def spFormS (C CU : Addr) (K : PySem.W.Frag) : Sp := fun vs H Q _ => ∃ kvs ord v L T E l ds w, StandArg C CU K vs H kvs ord v L T E l ds w ∧ ∀ H', Same H H' → Q (.bl true) H'
def spReqStand (C CU : Addr) (K : PySem.W.Frag) : Sp := fun vs H Q _ => ∃ kvs ord v L T E l ds w, StandArg C CU K vs H kvs ord v L T E l ds w ∧ ∀ H', Same H H' → Q .non H'
def spEndPrice (C CU : Addr) (K : PySem.W.Frag) : Sp := fun vs H Q _ => ∃ kvs ord v L T E l ds w ys, StandArg C CU K vs H kvs ord v L T E l ds w ∧ RunC (tellS ord T E) v w ys ∧ (∀ y ∈ ys, ∃ p, tfD kvs y = some p) ∧ ∀ H', Same H H' → Q (.int (sumOf (tfD kvs) ys)) H'
def AlongArg (C CU : Addr) (vs : List V) (H : Hp) (kvs : List (Key × V)) (ord : List Str) (v L : Nat) (T E : List (Key × V)) (z : Str) : Prop := ∃ c, vs = [.ref c, .str z] ∧ CutAt C CU H c kvs ord (v : Int) T E ∧ Wide (tfD kvs) L ∧ Over (tfD kvs) (cs z) ∧ z.length ≤ 8000
def spStandOf (C CU : Addr) (K : PySem.W.Frag) : Sp := fun vs H Q _ => ∃ kvs ord v L T E z, AlongArg C CU vs H kvs ord v L T E z ∧
  ∀ s ts w H', StandAt K H' s (frontW L (cs z)) (frontD (tfD kvs) L (cs z)) w → StandR (tellS ord T E) v (cs z) ts w → (∀ y ∈ ts, ∃ p, tfD kvs y = some p) → Same H H' → Q (.ref s) H'
def spSpent (C CU : Addr) : Sp := fun vs H Q _ => ∃ kvs ord v L T E z, AlongArg C CU vs H kvs ord v L T E z ∧
  ∀ t ts w H', H t = none → H' t = some (.tup [.int (sumOf (tfD kvs) ts), .int (lp (tfD kvs) (cs z))]) → StandR (tellS ord T E) v (cs z) ts w → Same H H' → Q (.ref t) H'
def spBehAlong (C CU : Addr) : Sp := fun vs H Q _ => ∃ kvs ord v L T E z, AlongArg C CU vs H kvs ord v L T E z ∧
  ∀ t (ks : List Int) H', H t = none → H' t = some (.tup (ks.map V.int)) → ks.length = z.length + 1 → (∀ i k, ks[i]? = some k → ∃ ys, RunC (tellS ord T E) v ((cs z).take i) ys ∧ k = sumOf (tfD kvs) ys - lp (tfD kvs) ((cs z).take i)) → Same H H' → Q (.ref t) H'
theorem StandOk.of {F : Tf} {L v : Nat} {l w : List Nat} {ts : List Str} {f : Str → Bool → Option Str} (G : Good F) (wd : Wide F L) (ov : Over F l) (lt : ∀ x ∈ l, lett x = true) (hl : l.length ≤ 8000) (h : StandR f v l ts w) (v1 : 1 ≤ v) : StandOk F L v (frontW L l) (frontD F L l) w := by
  obtain ⟨⟨y, p, hy, hyl⟩, _⟩ := id wd
  have := G.len y p hy
  exact ⟨wd, fun x hx => ov x (List.mem_of_mem_drop hx), by rw [frontW_len]; omega, by rw [frontW_len, frontD_len], fun x hx => lt x (List.mem_of_mem_drop hx), fun x hx => isI_of (Nat.lt_of_le_of_lt (Nat.le_trans (front_small G ov x hx) (Nat.mul_le_mul_left 99 hl)) (by decide +kernel)), h.small v1, h.over ov⟩
theorem sum_apps {F : Tf} {a b : List Str} : sumOf F (a ++ b) = sumOf F a + sumOf F b := by
  unfold sumOf
  rw [List.map_append, List.sum_append]
theorem list_of {P : Nat → Int → Prop} : ∀ {n : Nat}, (∀ i, i < n → ∃ k, P i k) → ∃ ks : List Int, ks.length = n ∧ ∀ i k, ks[i]? = some k → P i k
  | 0, _ => ⟨[], rfl, fun i k h => by cases h⟩
  | n + 1, h => by
    obtain ⟨ks, l, hk⟩ := list_of (n := n) fun i hi => h i (by omega)
    obtain ⟨k, pk⟩ := h n (by omega)
    refine ⟨ks ++ [k], by rw [List.length_append, l]; rfl, fun i u hu => ?_⟩
    rcases Nat.lt_or_ge i n with q | q
    · rw [List.getElem?_append_left (by omega)] at hu
      exact hk i u hu
    · rw [List.getElem?_append_right (by omega)] at hu
      have e : i = n := by
        have := (List.getElem?_eq_some_iff.mp hu).1
        simp only [List.length_singleton] at this
        omega
      subst e
      rw [l, Nat.sub_self] at hu
      cases hu
      exact pk
end G
/-! k34's law: its own cutters, as dicts. -/
namespace G
open PySem PySem.Spec PyProof.Rows L2 LamX
def plainKV (d o : Addr) (v : Int) (td te : Addr) : List (Key × V) := [(Sum.inr ("prices" : Str), .ref d), (Sum.inr ("order" : Str), .ref o), (Sum.inr ("view" : Str), .int v), (Sum.inr ("table" : Str), .ref td), (Sum.inr ("ends" : Str), .ref te)]
theorem pk_prices {d o : Addr} {v : Int} {td te : Addr} : valV (plainKV d o v td te) (Sum.inr ("prices" : Str)) = some (.ref d) := by
  unfold plainKV valV
  simp
theorem pk_order {d o : Addr} {v : Int} {td te : Addr} : valV (plainKV d o v td te) (Sum.inr ("order" : Str)) = some (.ref o) := by
  have h : (Sum.inr ("prices" : Str) : Key) ≠ Sum.inr ("order" : Str) := by decide +kernel
  unfold plainKV valV
  simp [h]
theorem pk_view {d o : Addr} {v : Int} {td te : Addr} : valV (plainKV d o v td te) (Sum.inr ("view" : Str)) = some (.int v) := by
  have h : (Sum.inr ("prices" : Str) : Key) ≠ Sum.inr ("view" : Str) := by decide +kernel
  have h2 : (Sum.inr ("order" : Str) : Key) ≠ Sum.inr ("view" : Str) := by decide +kernel
  unfold plainKV valV
  simp [h, h2]
theorem pk_table {d o : Addr} {v : Int} {td te : Addr} : valV (plainKV d o v td te) (Sum.inr ("table" : Str)) = some (.ref td) := by
  have h : (Sum.inr ("prices" : Str) : Key) ≠ Sum.inr ("table" : Str) := by decide +kernel
  have h2 : (Sum.inr ("order" : Str) : Key) ≠ Sum.inr ("table" : Str) := by decide +kernel
  have h3 : (Sum.inr ("view" : Str) : Key) ≠ Sum.inr ("table" : Str) := by decide +kernel
  unfold plainKV valV
  simp [h, h2, h3]
theorem pk_ends {d o : Addr} {v : Int} {td te : Addr} : valV (plainKV d o v td te) (Sum.inr ("ends" : Str)) = some (.ref te) := by
  have h : (Sum.inr ("prices" : Str) : Key) ≠ Sum.inr ("ends" : Str) := by decide +kernel
  have h2 : (Sum.inr ("order" : Str) : Key) ≠ Sum.inr ("ends" : Str) := by decide +kernel
  have h3 : (Sum.inr ("view" : Str) : Key) ≠ Sum.inr ("ends" : Str) := by decide +kernel
  have h4 : (Sum.inr ("table" : Str) : Key) ≠ Sum.inr ("ends" : Str) := by decide +kernel
  unfold plainKV valV
  simp [h, h2, h3, h4]
structure PlainAt (H : Hp) (pc : Addr) (kvs : List (Key × V)) (ord : List Str) (v : Int) (T E : List (Key × V)) : Prop where
  wt : WinOk (tfD kvs) v T
  we : WinOk (tfD kvs) (v - 1) E
  op : ord.Perm (keyStrs kvs)
  v1 : 1 ≤ v
  v2 : v ≤ 2000
  av : arePrices kvs = true
  nd : (kvs.map (·.1)).Nodup
  ex : ∃ d o td te, H pc = some (.dK (plainKV d o v td te)) ∧ H d = some (.dK kvs) ∧ H o = some (.lst (ord.map V.str)) ∧ H td = some (.dK T) ∧ H te = some (.dK E)
theorem PlainAt.same {H H' : Hp} {pc : Addr} {kvs : List (Key × V)} {ord : List Str} {v : Int} {T E : List (Key × V)} (A : PlainAt H pc kvs ord v T E) (s : Same H H') : PlainAt H' pc kvs ord v T E := by
  obtain ⟨d, o, td, te, h1, h2, h3, h4, h5⟩ := A.ex
  exact ⟨A.wt, A.we, A.op, A.v1, A.v2, A.av, A.nd, d, o, td, te, s _ _ h1, s _ _ h2, s _ _ h3, s _ _ h4, s _ _ h5⟩
theorem PlainAt.kp {l : Addr} {H H' : Hp} {pc : Addr} {kvs : List (Key × V)} {ord : List Str} {v : Int} {T E : List (Key × V)} {n : Nat} (A : PlainAt H pc kvs ord v T E) (D : Dice H l n) (k : Kp l H H') : PlainAt H' pc kvs ord v T E := by
  obtain ⟨d, o, td, te, h1, h2, h3, h4, h5⟩ := A.ex
  exact ⟨A.wt, A.we, A.op, A.v1, A.v2, A.av, A.nd, d, o, td, te, k _ _ h1 (D.ne' h1 (by simp)), k _ _ h2 (D.ne' h2 (by simp)), k _ _ h3 (D.ne' h3 (fun x y z e => by cases ord with | nil => simp at e | cons a r => simp at e)), k _ _ h4 (D.ne' h4 (by simp)), k _ _ h5 (D.ne' h5 (by simp))⟩
theorem start_cut {z y : Str} : decide (V.str (cutS z none (some (y.length : Int))) = V.str y) = Txt.startswith z y := by
  rw [cut_pre, Bool.eq_iff_iff, decide_eq_true_eq, starts_iff]
  have ly := cs_len y
  constructor
  · intro h
    have h := congrArg cs (V.str.inj h)
    unfold preS at h
    rw [cs_sOf] at h
    exact ⟨(cs z).drop y.length, by conv => lhs; rw [← List.take_append_drop y.length (cs z), h]⟩
  · rintro ⟨r, hr⟩
    refine congrArg V.str (str_ext ?_)
    unfold preS
    rw [cs_sOf, hr, ← ly, List.take_left]
/-- the pieces by their lengths, the longest first -/
def byLen (ys : List Str) (ns : List Int) : List Str := ns.flatMap fun n => ys.filter fun y => decide ((y.length : Int) = n)
theorem byLen_perm {ys : List Str} (h : ∀ y ∈ ys, 1 ≤ (cs y).length ∧ (cs y).length ≤ 5) : (byLen ys [5, 4, 3, 2, 1]).Perm ys := by
  rw [List.perm_iff_count]
  intro a
  have cf : ∀ n : Int, (ys.filter fun y => decide ((y.length : Int) = n)).count a = if (a.length : Int) = n then ys.count a else 0 := fun n => by
    split
    · next e => exact List.count_filter (decide_eq_true e)
    · next e => exact List.count_eq_zero.mpr fun hm => e (of_decide_eq_true (List.mem_filter.mp hm).2)
  have e : (byLen ys [5, 4, 3, 2, 1]).count a = (if (a.length : Int) = 5 then ys.count a else 0) + ((if (a.length : Int) = 4 then ys.count a else 0) + ((if (a.length : Int) = 3 then ys.count a else 0) + ((if (a.length : Int) = 2 then ys.count a else 0) + ((if (a.length : Int) = 1 then ys.count a else 0) + 0)))) := by
    unfold byLen
    simp only [List.flatMap_cons, List.flatMap_nil, List.count_append, cf, List.count_nil]
  rw [e]
  by_cases hm : a ∈ ys
  · have := h a hm
    have la := cs_len a
    have : a.length = 1 ∨ a.length = 2 ∨ a.length = 3 ∨ a.length = 4 ∨ a.length = 5 := by omega
    rcases this with q | q | q | q | q <;> rw [q] <;> simp
  · have := List.count_eq_zero.mpr hm
    rw [this]
    simp
theorem sizes_leS {zs : List Str} (h : ∀ z ∈ zs, z.length ≤ 5) : (zs.map (·.length)).sum ≤ 5 * zs.length := by
  induction zs with
  | nil => exact Nat.le_refl _
  | cons a r ih =>
    have h1 := ih fun z hz => h z (List.mem_cons_of_mem _ hz)
    have h2 := h a List.mem_cons_self
    rw [List.map_cons, List.sum_cons, List.length_cons]
    omega
theorem cutV_fromS {xs : List V} {i : Nat} (h : i ≤ xs.length) : cutV xs (some (i : Int)) none = xs.drop i := by
  unfold cutV
  rw [show HT.sIx xs.length 0 (some (i : Int)) = i by rw [sIx_pos (by omega), Int.toNat_natCast]; omega]
  exact List.take_of_length_le (by rw [List.length_drop]; exact Nat.le_refl _)
theorem repr_intsT {K : PySem.W.Frag} {H : Hp} {a : Addr} {is : List Int} {Q : VK} (h : H a = some (.tup (is.map V.int))) (hl : is.length ≤ 1000) (hb : ∀ i ∈ is, i.natAbs < 2 ^ 300) (q : Q (.str (PyData.tuple (is.map PyData.int)).shown) H) : rRepr K [.ref a] H Q := by
  have S : Shw (PyData.tuple (is.map PyData.int)) 1 _ := shw_tuple (k := 0) (n := 1921) fun f hf => by
    obtain ⟨i, hm, rfl⟩ := List.mem_map.mp hf
    exact shw_int (log_of (hb i hm))
  refine ⟨_, _, rfl, .tup (SqT.of h) (dpAll_ints is), S.s, S.h, Nat.le_trans S.dp (by omega), Nat.le_trans S.len ?_, q⟩
  rw [List.length_map]
  have : is.length * (1921 + 2) ≤ 1000 * 1923 := Nat.mul_le_mul hl (Nat.le_refl _)
  exact Nat.le_trans (by omega : _ ≤ 1923004) (by decide)
theorem losL_small {F : Tf} (G : Good F) {ys : List Str} {l : List Nat} (fl : (ys.map cs).flatten = l) (hall : ∀ y ∈ ys, ∃ p, F y = some p) (ov : Over F l) (hl : l.length ≤ 10000) : ∀ k ∈ losL F l ys, 0 ≤ k ∧ k.natAbs < 2 ^ 300 := fun k hk => by
  have h0 := losL_pos G fl hall ov k hk
  obtain ⟨i, hi, e⟩ := List.mem_iff_getElem.mp hk
  have hi' : i < ys.length := by rw [losL_len] at hi; exact hi
  have hy : ys[i]? = some ys[i] := List.getElem?_eq_getElem hi'
  have h1 := losL_at (F := F) (l := l) hy
  rw [List.getElem?_eq_getElem hi, e] at h1
  obtain ⟨p, hp⟩ := hall _ (List.mem_of_getElem? hy)
  rw [hp] at h1
  have h2 := Option.some.inj h1
  have h3 := (G.pos _ _ hp).2
  have h4 := (lp_bound G _ (ov.drop (off ys (i + 1)))).2
  have h5 := (lp_bound G _ (ov.drop (off ys i))).1
  rw [List.length_drop] at h4
  have h6 : k = p + lp F (l.drop (off ys (i + 1))) - lp F (l.drop (off ys i)) := h2
  exact ⟨h0, Nat.lt_of_lt_of_le (show k.natAbs < 2 ^ 30 by omega) (Nat.pow_le_pow_right (by decide) (by decide))⟩
theorem wide_exS {F : Tf} (G : Good F) {z0 : Str} {p0 : Int} (h0 : F z0 = some p0) : ∃ L, Wide F L ∧ 1 ≤ L ∧ L ≤ 5 := by
  have go : ∀ n, (∀ z p, F z = some p → (cs z).length ≤ n) → n ≤ 5 → ∃ L, Wide F L ∧ 1 ≤ L ∧ L ≤ 5 := by
    intro n
    induction n with
    | zero =>
      intro h _
      have h1 := h _ _ h0
      have h2 := (G.len _ _ h0).1
      omega
    | succ n ih =>
      intro h hn
      by_cases q : ∃ z p, F z = some p ∧ (cs z).length = n + 1
      · exact ⟨n + 1, ⟨q, h⟩, by omega, hn⟩
      · refine ih (fun z p hz => ?_) (by omega)
        have h1 := h z p hz
        have h2 : (cs z).length ≠ n + 1 := fun e => q ⟨z, p, hz, e⟩
        omega
  exact go 5 (fun z p hz => (G.len z p hz).2) (Nat.le_refl _)
theorem StandR.uniq {f : Str → Bool → Option Str} {v : Nat} {l w : List Nat} {ts : List Str} (h : StandR f v l ts w) : ∀ {l' ts' w'}, StandR f v l' ts' w' → l' = l → ts' = ts ∧ w' = w := by
  induction h with
  | nil =>
    intro l' ts' w' q e
    cases q with
    | nil => exact ⟨rfl, rfl⟩
    | wait h s => simp at e
    | tell h s t e2 n => simp at e
  | @wait l w ts c h s ih =>
    intro l' ts' w' q e
    cases q with
    | nil => simp at e
    | wait h2 s2 =>
      obtain ⟨e1, e2⟩ := List.append_inj' e rfl
      obtain ⟨a, b⟩ := ih h2 e1
      rw [a, b, e2]
      exact ⟨rfl, rfl⟩
    | tell h2 s2 t2 e3 n2 =>
      obtain ⟨e1, e2⟩ := List.append_inj' e rfl
      obtain ⟨a, b⟩ := ih h2 e1
      rw [b] at s2
      rw [List.length_append] at s s2
      simp only [List.length_singleton] at s s2
      omega
  | @tell l w r ts c y h s t e0 n ih =>
    intro l' ts' w' q e
    cases q with
    | nil => simp at e
    | wait h2 s2 =>
      obtain ⟨e1, e2⟩ := List.append_inj' e rfl
      obtain ⟨a, b⟩ := ih h2 e1
      rw [b] at s2
      rw [List.length_append] at s s2
      simp only [List.length_singleton] at s s2
      omega
    | tell h2 s2 t2 e3 n2 =>
      obtain ⟨e1, e2⟩ := List.append_inj' e rfl
      obtain ⟨a, b⟩ := ih h2 e1
      rw [b, e2] at t2 e3
      rw [t] at t2
      have t3 := Option.some.inj t2
      rw [← t3] at e3
      have e4 := List.append_cancel_left (e0.symm.trans e3)
      rw [a, ← t3, ← e4]
      exact ⟨rfl, rfl⟩
theorem early_eq {zs ts us : List Str} (e : zs = ts ++ us) (ne : ∀ y ∈ zs, cs y ≠ []) : ((List.range zs.length).filterMap fun i => if off zs (i + 1) ≤ (ts.map cs).flatten.length then zs[i]?.map V.str else none) = ts.map V.str := by
  have hm : off zs ts.length = (ts.map cs).flatten.length := by
    unfold off
    rw [e, List.take_left]
  rw [← hm]
  have hl : zs.length = ts.length + us.length := by rw [e, List.length_append]
  have go : ∀ n, n ≤ zs.length → ((List.range n).filterMap fun i => if off zs (i + 1) ≤ off zs ts.length then zs[i]?.map V.str else none) = (ts.take n).map V.str := by
    intro n
    induction n with
    | zero => intro _; rfl
    | succ n ih =>
      intro hn
      rw [List.range_succ, List.filterMap_append, ih (by omega)]
      rcases Nat.lt_or_ge n ts.length with q | q
      · have hz : zs[n]? = some ts[n] := by rw [e, List.getElem?_append_left q, List.getElem?_eq_getElem q]
        have h1 : off zs (n + 1) ≤ off zs ts.length := off_mono q
        rw [List.take_succ, List.getElem?_eq_getElem q, List.map_append]
        rw [List.filterMap_cons, if_pos h1, hz]
        rfl
      · have h1 : off zs n < off zs (n + 1) := by
          have hz : zs[n]? = some zs[n] := List.getElem?_eq_getElem (by omega)
          have h2 := off_succ hz
          have h3 := List.length_pos_iff.mpr (ne _ (List.getElem_mem (by omega : n < zs.length)))
          omega
        have h2 := off_mono (ys := zs) q
        rw [List.filterMap_cons, if_neg (by omega), List.take_of_length_le (by omega), List.take_of_length_le (by omega)]
        simp
  rw [go zs.length (Nat.le_refl _), List.take_of_length_le (by omega)]
theorem RunC.nempty {f : Str → Bool → Option Str} {v : Nat} {l : List Nat} {ys : List Str} (h : RunC f v l ys) : ∀ y ∈ ys, cs y ≠ [] := by
  induction h with
  | nil => intro y hy; exact (List.not_mem_nil hy).elim
  | cons ne h e n t ih =>
    intro y hy
    rcases List.mem_cons.mp hy with q | q
    · rw [q]; exact n
    · exact ih y q
theorem joinS_flat (zs : List Str) : cs (Txt.join "" zs) = (zs.map cs).flatten := by
  rw [join_cs, cs_sOf]
theorem piecesS_len {zs : List Str} : ((zs.map cs).flatten).length = (zs.map (·.length)).sum := by
  rw [List.length_flatten, List.map_map]
  congr 1
def spSignsS : Sp := fun vs H Q _ => ∃ (d : Addr) (kvs : List (Key × V)), vs = [.ref d] ∧ H d = some (.dK kvs) ∧ arePrices kvs = true ∧ (kvs.map (·.1)).Nodup ∧ ∀ p (sg : List Nat) H', H p = none → H' p = some (.lst (sg.map chV)) → sg.length ≤ 100 → (∀ c, c ∈ sg ↔ Over (tfD kvs) [c]) → Same H H' → Q (.ref p) H'
theorem lay_le81S {sg : List Nat} (h : sg.length ≤ 3) {i : Nat} (hi : i ≤ 4) : (layerL sg i).length ≤ 81 := by
  rw [layer_len]
  exact Nat.le_trans (Nat.pow_le_pow_left h i) (Nat.pow_le_pow_right (by decide) hi : 3 ^ i ≤ 3 ^ 4)
def spTexts3 (K : PySem.W.Frag) : Sp := fun vs H Q _ => ∃ (sa : Addr) (sg : List Nat), vs = [.ref sa, .int 3] ∧ SqL K H sa (sg.map chV) ∧ sg.length ≤ 3 ∧ ∀ p (ts : List (List Nat)) H', H p = none → H' p = some (.lst (ts.map tv)) → ts.length ≤ 400 → (∀ t ∈ ts, t.length ≤ 3 ∧ ∀ c ∈ t, c ∈ sg) → Same H H' → Q (.ref p) H'
/-! ### promises -/
def spLTold : Sp := fun vs H Q _ => ∃ (pc : Addr) (kvs : List (Key × V)) (ord : List Str) (v : Int) (T E : List (Key × V)) (w y : Str) (o : Bool), vs = [.ref pc, .str w, .bl o] ∧ PlainAt H pc kvs ord v T E ∧ w.length ≤ 2000 ∧ tellS ord T E w o = some y ∧ ∀ H', Same H H' → Q (.str y) H'
def spLCut : Sp := fun vs H Q _ => ∃ (pc : Addr) (kvs : List (Key × V)) (ord : List Str) (v : Nat) (T E : List (Key × V)) (z : Str) (ys : List Str), vs = [.ref pc, .str z] ∧ PlainAt H pc kvs ord (v : Int) T E ∧ RunC (tellS ord T E) v (cs z) ys ∧ (∀ y ∈ ys, ∃ p, tfD kvs y = some p) ∧ z.length ≤ 1000 ∧
  ∀ p H', H p = none → H' p = some (.lst (ys.map V.str)) → Same H H' → Q (.ref p) H'
def spHasty : Sp := fun vs H Q _ => ∃ (d : Addr) (kvs : List (Key × V)), vs = [.ref d] ∧ H d = some (.dK kvs) ∧ arePrices kvs = true ∧ (kvs.map (·.1)).Nodup ∧ ∀ p (ord : List Str) H', H p = none → ord.Perm (keyStrs kvs) → H' p = some (.lst (ord.map V.str)) → Same H H' → Q (.ref p) H'
def spLMade (C CU : Addr) : Sp := fun vs H Q _ => ∃ (pc : Addr) (kvs : List (Key × V)) (ord : List Str) (v : Int) (T E : List (Key × V)), vs = [.ref pc] ∧ PlainAt H pc kvs ord v T E ∧ ∀ c H', H c = none → CutAt C CU H' c kvs ord v T E → Same H H' → Q (.ref c) H'
def spLCutter : Sp := fun vs H Q _ => ∃ (l d : Addr) (kvs : List (Key × V)) (m n : Nat), vs = [.ref l, .ref d, .int (m : Int)] ∧ d ≠ l ∧ H d = some (.dK kvs) ∧ arePrices kvs = true ∧ (kvs.map (·.1)).Nodup ∧ 1 ≤ m ∧ m ≤ 6 ∧ Dice H l (n + 100) ∧
  ∀ p (ord : List Str) (v : Nat) (T E : List (Key × V)) H', H p = none → PlainAt H' p kvs ord (v : Int) T E → v ≤ 6 → Kp l H H' → Dice H' l n → Q (.ref p) H'
theorem g_enum (K : PySem.W.Frag) {X : Cx} {e : Expr} {ta : TA} {p pos tpos : Pos} {elts : List Expr} {kk : Nat} (hg : Gl X "enumerate") (hm : X.mg "enumerate" = none) (ha : PA X [e] ta) (eK : X.K = K := by rfl) (hs : starEach [e] X.env = [(false, eval e X.env)] := by rfl) :
    PI X (.Tuple elts kk tpos) (.Call (.Name "enumerate" p) [e] [] pos) (iEnum K ta) := by
  subst eK
  exact pi_enum hg hm ha hs
def spRight34 (c : Nat) : Sp := fun vs H Q _ => ∃ (l : Addr) (n : Nat), vs = [.ref l] ∧ Dice H l (n + c) ∧ ∀ H', Kp l H H' → Dice H' l n → Q (.bl true) H'
end G
/-! Class methods; a class held by a local name, called; sorted(a tuple of texts, key=lambda x: -len(x)). -/
namespace G
open PySem PySem.Spec PyProof.Rows L2 LamX
/-! ### sorted(a tuple, key=f) -/
section
variable {prog : Program} {w : World} {A : Around} {E : Value → Shared → Prop} {s : Shared} {β : Type} {vs : List Value} {bs : List β} {R : Value → β → Prop}
theorem sorted_of_sortT {l : Addr} {kw : List (Str × Value)} {Q : Value → Shared → Prop} (hl : IsTup s.heap l vs.toArray) (hL : vs.length ≤ sizeLine) (ha1 : argsOk "sorted" ⟨[.ref l], kw⟩) (ha2 : ∀ x, argsOk "list.sort" ⟨[.ref x], kw⟩)
    (body : ∀ E' : Value → Shared → Prop, wpAny (model prog w) A.in1.in1 (Builtin.«list.sort» ⟨[.ref (s.heap.objs.size + 1)], kw⟩) (fun f s' => f = .done (.ret .none) ∧ Q (.ref (s.heap.objs.size + 1)) s') E' { s with heap := PySem.W.copyHeap s.heap vs }) :
    wpAny (model prog w) A (call (.builtin "sorted") [.ref l] kw) Q E s := by
  refine call_function_entry_kw kind_sorted plain_sorted entry_sorted ha1 ?_
  unfold Builtin.«sorted»
  refine wpAny_bind (m := checkCount "sorted" 1 1 _) (wpAny_pure ?_)
  refine wpAny_bind (collect_tup hl hL ?_)
  refine wpAny_bind (wpAny_newList ?_ hL)
  have hsz : ((s.heap.push (seqObj "list" #[] 0)).update s.heap.objs.size (Obj.mapSeq (· ++ vs.toArray))).objs.size = s.heap.objs.size + 1 := by
    rw [Heap.size_update, size_push']
  show wpAny _ _ _ _ _ { s with heap := PySem.W.copyHeap s.heap vs }
  rw [hsz]
  refine wpAny_bind (wpAny_holding (wpAny_call_entry_kw slot_list_sort ⟨_, PySem.W.copyHeap_at s.heap vs, rfl⟩ entry_list_sort ?body (ha2 _)))
  case body =>
    show wpAny (model prog w) A.in1.in1 (Builtin.«list.sort» ⟨[.ref (s.heap.objs.size + 1)], kw⟩) _ _ _
    refine wpAny_mono (body _) (fun f s' hf => ?_) fun _ _ e => e
    obtain ⟨rfl, hq⟩ := hf
    exact ⟨_, rfl, wpAny_pure ⟨_, rfl, hq⟩⟩
theorem sorted_key_dataT {l : Addr} {f : Value} {kw : List (Str × Value)} {b : Bool} {Q : Value → Shared → Prop} (k : β → PyData) (hl : IsTup s.heap l vs.toArray) (e : PySem.W.EachIs R vs bs) (hal : PySem.W.AllAlike (bs.map k)) (hk : PySem.W.Sortable (bs.map k)) (hL : bs.length ≤ sizeLine)
    (hu : ∀ x, x ∈ bs → A.units + 2 + (k x).depth < cLine) (ha1 : argsOk "sorted" ⟨[.ref l], kw⟩) (ha2 : ∀ x, argsOk "list.sort" ⟨[.ref x], kw⟩) (ht : ∀ x, Builtin.«list.sort» ⟨[.ref x], kw⟩ = ksk_tree x f b)
    (turn : ∀ (v : Value) (x : β), R v x → x ∈ bs → ∀ (h : Heap) (tk : Nat), (∀ b o, s.heap.get? b = some o → h.get? b = some o) →
      wpAny (model prog w) A.in1.in1 (call f [v]) (PySem.W.KeyPure (k x) { s with heap := h, toks := tk }) (fun _ _ => False) { s with heap := h, toks := tk })
    (h : ∀ out c h' tk, (∀ b o, s.heap.get? b = some o → h'.get? b = some o) → s.heap.get? (s.heap.objs.size + 1) = none → h'.get? (s.heap.objs.size + 1) = some (seqObj "list" (List.toArray out) c) → out.length = bs.length → PySem.W.EachIs R out (bs.mergeSort (PySem.W.dataLe b k)) →
      Q (.ref (s.heap.objs.size + 1)) { s with heap := h', toks := tk }) :
    wpAny (model prog w) A (call (.builtin "sorted") [.ref l] kw) Q E s := by
  have fresh : s.heap.get? (s.heap.objs.size + 1) = none := Heap.get?_none_of_le (Nat.le_succ _)
  have up : ∀ {g : Heap}, PySem.W.KeepsBut (s.heap.objs.size + 1) (PySem.W.copyHeap s.heap vs) g → ∀ b o, s.heap.get? b = some o → g.get? b = some o := fun {g} kp b o q =>
    kp b o (Nat.ne_of_lt (Nat.lt_succ_of_lt (Heap.lt_size q))) (PySem.W.copyHeap_old q)
  refine sorted_of_sortT hl (by rw [e.length]; exact hL) ha1 ha2 fun E' => ?_
  rw [ht]
  refine PySem.W.keyH_tree (kz := bs.map k) (s := { s with heap := PySem.W.copyHeap s.heap vs }) (PySem.W.copyHeap_at s.heap vs) (by rw [List.length_map]; exact e.length.symm) (by rw [e.length]; exact hL) hal hk (PySem.W.bound_map (A := A.in1.in1) hu)
    (PySem.W.keyH_turns (s := { s with heap := PySem.W.copyHeap s.heap vs }) e fun v x hR hx h tk kp => turn v x hR hx h tk (up kp)) fun h' tk out c kp hD ko => ⟨rfl, ?_⟩
  exact h out c h' tk (up kp) fresh hD ((ko.length (by rw [List.length_map]; exact e.length.symm)).trans e.length) (PySem.W.keyedOut_each k ko e)
end
section
variable {X : Cx} {pins : List (Addr × Obj)} {σ : L2.St} {H : Hp} {s : Shared}
theorem sort_key_runT {a : Addr} {zs : List Str} {f : Value} {k : Str → Int} {Q : VK} (I : Inv X pins σ H s) (hu : X.A.units + 64 < cLine) (hs : SqT X.K H a (zs.map V.str)) (ht : ∀ x, Builtin.«list.sort» ⟨[.ref x], [(Str.ofString "key", f)]⟩ = ksk_tree x f false)
    (turn : ∀ (z : Str) (t : Tok), z ∈ zs → ∀ (h : Heap) (tk : Nat), (∀ b o, s.heap.get? b = some o → h.get? b = some o) →
      wpAny (model X.prog X.w) X.A.in1.in1 (call f [.str z t]) (PySem.W.KeyPure (.int (k z)) { s with heap := h, toks := tk }) (fun _ _ => False) { s with heap := h, toks := tk })
    (q : ∀ p, H p = none → Q (.ref p) (upd H p (.lst ((byKey k zs).map V.str)))) :
    wpAny (model X.prog X.w) X.A (call (.builtin "sorted") [.ref a] [(Str.ofString "key", f)]) (EP X pins σ Q) X.xe s := by
  obtain ⟨its, rv, hl, hz⟩ := I.tuple hs
  rw [List.length_map] at hz
  refine sorted_key_dataT (b := false) (bs := zs) (R := StrV) (fun z => PyData.int (k z)) hl (each_strs rv) (PySem.W.AllAlike.of fun b b' => rfl) (PySem.W.Sortable.others fun b => ⟨by simp, by simp⟩) hz
    (fun x _ => by show X.A.units + 2 + 0 < cLine; omega) (PyProof.Rows.ksk_s1 _ _) (fun _ => PyProof.Rows.ksk_l1 _ _) ht (fun v z ⟨t, e⟩ hm h tk kp => by rw [e]; exact turn z t hm h tk kp) fun out c h' tk kp hn hg hl' hE => ?_
  rw [PySem.W.dataLe_int k] at hE
  have rv' := vals_each hE
  have hlen : ((byKey k zs).map V.str).length ≤ sizeLine := by
    rw [List.length_map, (byKey_perm k zs).length_eq]
    exact hz
  exact ⟨.ref _, upd H (s.heap.objs.size + 1) (.lst ((byKey k zs).map V.str)), I.laid (t' := tk) kp (Nat.le_succ _) ⟨hlen, out, c, rv', hg⟩, rfl, q _ (I.hok.fresh (Nat.le_succ _))⟩
/-- the tables move, the new list is laid -/
def tSortLT (T : List (Addr × Str)) (K : PySem.W.Frag) (k : Str → Int) (t : TA) : TE := fun σ H Q => t σ H fun vs H1 => Tabs T H1 ∧ ∃ (a : Addr) (zs : List Str), vs = [.ref a] ∧ SqT K H1 a (zs.map V.str) ∧ (∀ z ∈ zs, z.length ≤ sizeLine) ∧
  ∀ H2, ExtN H1 H2 → Tabs T H2 → ∀ p, H2 p = none → Q (.ref p) (upd H2 p (.lst ((byKey k zs).map V.str)))
theorem sqtN {K : PySem.W.Frag} {H H' : Hp} {a : Addr} {xs : List V} (s : ExtN H H') (h : SqT K H a xs) : SqT K H' a xs := by
  rcases h with (h | ⟨o, h⟩) | h
  · exact Or.inl (Or.inl (s _ _ h fun _ e => by cases e))
  · exact Or.inl (Or.inr ⟨o, s _ _ h fun _ e => by cases e⟩)
  · exact Or.inr h
theorem pe_sortLamT {T : List (Addr × Str)} {c P : Addr} {e : Expr} {x : Str} {params : Arguments} {scope : Scope} {p p1 p2 p3 p4 lpos kp pos : Pos} {t : TA} {k : Nat} (hr : Room (k + 3) X.A) (hg : Gl X "sorted") (hm : X.mg "sorted" = none) (hm2 : X.mg "len" = none)
    (TB : TabB X.base X.mg c P) (hcode : X.env.code = .ref c) (hmT : (P, X.env.qual ++ "<lambda>") ∈ T) (hu : ∀ p ∈ T, p.1 = P → p.2 = X.env.qual ++ "<lambda>") (hdef : defaultsOf params X.env = ([], [])) (ha : PA X [e] t)
    (hk : scope.kind = .function) (hco : scope.isCoroutine = false) (hgen : scope.isGenerator = false) (hnc : ∀ y ∈ scope.names, y.2 ≠ .cell) (hnf : ∀ y ∈ scope.names, y.2 ≠ .free) (hx : scope.names.lookup x = some .local) (hl : scope.names.lookup ("len" : Str) = some NameKind.globalImplicit)
    (hcl : cloFrom X.env.cells scope.names [] = [])
    (hbind : ∀ (q : Str) (pm cv ctv v : Value), bindArgs (PySem.W.kla_fn "<lambda>" q params (.UnaryOp .USub (.Call (.Name "len" p1) [.Name x p2] [] p3) p4) scope [] pm cv ctv) ⟨[v], []⟩ = pure [(x, v)])
    (he : backTo pos (starEach [e] X.env) = (false, eval e X.env) :: backTo pos (starEach [] X.env) := by rfl) (hpl : (backTo pos (starEach [e] X.env)).any (·.1) = false := by rfl) (hd : (x == ("__debug__" : Str)) = false := by decide) :
    PE X (.Call (.Name "sorted" p) [e] [⟨some "key", .Lambda params (.UnaryOp .USub (.Call (.Name "len" p1) [.Name x p2] [] p3) p4) scope lpos, kp⟩] pos) (tSortLT T X.K negLen t) := by
  refine ⟨fun pins s σ H Q I h => ?_⟩
  refine wpAny_Call_Name_kw (ld_blt (u := .builtin "sorted") I hg hm (by decide +kernel) ?_ (by decide) (by decide))
  refine PyProof.Rows.callWith_kw (thn (ha.run pos pins s σ H _ I h) fun us s1 ⟨vs, H1, I1, r1, hT, a, zs, ev, hs, hz, q⟩ => ?_) he hpl (by rfl) (by rfl)
  subst ev
  rw [Vals.ref1 r1]
  show wpAny _ _ (evalAll ((do let v ← eval (.Lambda params (.UnaryOp .USub (.Call (.Name "len" p1) [.Name x p2] [] p3) p4) scope lpos) X.env; standAt pos; pure v) :: [])) _ _ s1
  refine wpAny_evalAll_cons (wpAny_bind (lam_make2 I1 TB hcode hmT hu hT hdef (fun y hy e => absurd e (hnf y hy)) fun f c' pm ctv H2 s2 I2 eN T2 hf hfn hfr hco' => wpAny_bind (wpAny_standAt (wpAny_pure (wpAny_evalAll_nil ?_)))))
  rw [hcl] at hf
  have hA : X.A.in1.in1.depth < recursionLimit := hr.in1.in1.depth
  refine sort_key_runT (k := negLen) I2 hr.units (sqtN eN hs) (fun x => ksk_t1 _ _) (fun z t hm' h tk kp => ?_) (q H2 eN T2)
  have I3 : Inv X pins σ H2 { s2 with heap := h, toks := tk } := I2.kept kp
  obtain ⟨⟨oc, vs, t', hoc, hdc, hvc⟩, _, _⟩ := I3.hok c' _ hco'
  exact lam_neglen I3 hA (kp _ _ hf) ⟨c', oc, vs, t', rfl, hoc, hdc, hvc⟩ hk hco hgen hnc hx hl (fun cv v => hbind _ _ _ _ _) hm2 (hz z hm') hd
/-! ### a class held by a local name -/
/-- x(e, ..), the class at C held by the slot i; all keyword-only parameters are left out -/
def tMakeL (C : Addr) (i n : Nat) (sp : Sp) (gV : List V → List V → List V) (t : TA) : TE := fun σ H Q => σ[i]? = some (some (.ref C)) ∧ t σ H fun vs H1 => vs.length = n ∧ ∀ x dx, H1 x = none → H1 dx = none → dx ≠ x →
  sp (gV (.ref x :: vs) []) (upd (upd H1 dx (.own x)) x (.ins C dx [])) (fun v H3 => v = .non ∧ Q (.ref x) H3) E0
theorem pe_mkL {k j n i : Nat} {C : Addr} {x cn : Str} {gV : List V → List V → List V} {sp : Sp} {e : Expr} {es : List Expr} {t : TA} {p pos : Pos} (c : MakK X.prog X.w X.K X.mg X.base k cn C n [] gV sp) (hr : Room j X.A) (hk : k + 1 ≤ j) (hN : X.N[i]? = some x) (hv : Vis X.env.scope x) (ha : PA X (e :: es) t)
    (hd : (x == ("__debug__" : Str)) = false := by decide) (hcd : (x == ("__classdict__" : Str)) = false := by decide)
    (he : starEach (e :: es) X.env = (false, eval e X.env) :: starEach es X.env := by rfl) (hplain : (backTo pos (starEach es X.env)).any (·.1) = false := by rfl) :
    PE X (.Call (.Name x p) (e :: es) [] pos) (tMakeL C i n sp gV t) := by
  obtain ⟨f, fd, ps, g, M, F, hm, hb⟩ := c.ex
  refine ⟨fun pins s σ H Q I h => ?_⟩
  obtain ⟨hs, h⟩ := h
  refine wpAny_Call_Name_kw (thn ((pe_var (pos := p) (i := i) hN hv hd hcd).run pins s σ H (fun v H1 => v = .ref C ∧ H1 = H) I ⟨.ref C, hs, rfl, rfl⟩) fun u s1 ⟨v, H1, I1, r1, q1⟩ => ?_)
  obtain ⟨ev, eH⟩ := q1
  subst ev
  rw [eH] at I1
  obtain rfl : u = Value.ref C := r1
  refine PySem.W.callWith_K (h₀ := X.base) I.ok.mod.kin M.kp (thn (ha.run pos pins s1 σ H _ I1 h) fun us s2 ⟨vs, H2, I2, r, l1, q⟩ => ⟨I2.kIn, ?_⟩) he hplain
  exact run_makeK (ks := []) (ws := []) (zs := []) M F (hr.mono hk) hb pass0 I2 r .nil l1 rfl q
end
/-! ### class methods -/
structure CMetO (P : Program) (w : World) (K : PySem.W.Frag) (mg : Str → Option Value) (base : Heap) (k : Nat) (C : Addr) (m : Str) (sp : Sp) : Prop where
  ex : ∃ (p g : Addr) (fd : FuncData) (ps : List Str), ClX.CRead K C (.type "type") ∧ ClX.CMet K C (.type "type") m p g ∧ FnOk P w K mg base CX0 k g fd ps sp ∧ L2.Binds K fd ps []
theorem pe_cmO {X : Cx} {k j : Nat} {C : Addr} {m : Str} {sp : Sp} {o e : Expr} {es : List Expr} {ta : TE} {t : TA} {pl : Sem Bool} {pos apos : Pos} (c : CMetO X.prog X.w X.K X.mg X.base k C m sp) (hr : Room j X.A) (hk : k ≤ j) (he : PE X o ta) (ha : PA X (e :: es) t)
    (hst : starEach (e :: es) X.env = (false, eval e X.env) :: starEach es X.env := by rfl) (hpl : (backTo pos (starEach es X.env)).any (·.1) = false := by rfl)
    (ht : eval (.Call (.Attribute o m apos) (e :: es) [] pos) X.env = (do
      let ov ← eval o X.env
      standAt apos.atName
      let (f, first) ← holding [ov] (getMethod ov m pl)
      callWith pos f first (backTo pos (starEach (e :: es) X.env)) (backToKw pos (keywordEach [] X.env))) := by rfl) :
    PE X (.Call (.Attribute o m apos) (e :: es) [] pos) (ClX.tCMeth C sp E0 ta t) := by
  obtain ⟨p, g, fd, ps, r, cm, F, b⟩ := c.ex
  have F2 : FnR X.prog X.w X.K X.mg X.base CX0 k g sp := (F.raw b .nil).imp fun vs H Q E h => by rw [List.append_nil]; exact h
  exact ClX.pe_cmeth he r cm F2 (hr.mono hk) pass0 ha hst hpl ht
theorem cmet_mk {K : PySem.W.Frag} {C p g : Addr} {m : Str} {re : List Value} (h0 : PySem.W.findIn K (.type "type") m = some none) (h1 : PySem.W.findIn K (.ref C) m = some (some (.ref p))) (ht : PySem.W.typeIn K (.ref p) = some (.type "classmethod"))
    (hg : PySem.W.specialIn K (.ref p) "__get__" = some (some (.builtin "classmethod.__get__"))) (rc : PySem.W.recIn K p "classmethod" = some (.ref g :: re)) (fi : PySem.W.fnIn K g = true) : ClX.CMet K C (.type "type") m p g := by
  refine ⟨?_, ⟨_, rc⟩, fi⟩
  unfold PySem.W.findCls
  rw [h0]
  simp only [Option.bind_some]
  rw [h1]
  simp only [Option.bind_some]
  rw [if_neg (show ¬ Builtin.heldUnderItsOwnName m (.ref p) = true from Bool.false_ne_true), ht]
  simp only [Option.bind_some]
  rw [if_neg (by decide), hg]
  rfl
theorem cread_mk {K : PySem.W.Frag} {C : Addr} (h : PySem.W.readsIn K C (.type "type") = true) : ClX.CRead K C (.type "type") := by
  refine ⟨h, ?_⟩
  unfold PySem.W.readsIn at h
  simp only [Bool.and_eq_true, beq_iff_eq] at h
  obtain ⟨⟨⟨⟨_, h2⟩, h3⟩, _⟩, _⟩ := h
  unfold PySem.W.specialIn
  rw [h2, Option.bind_some]
  exact h3
end G
/-! Boundaries of cuts, and what an edit changes: plain law and promises. -/
namespace G
open PySem PySem.Spec PyProof.Rows L2 LamX
/-- the boundaries of a cut -/
def bndI (ys : List Str) : List Int := (List.range (ys.length + 1)).map fun i => (off ys i : Int)
theorem bndI_len {ys : List Str} : (bndI ys).length = ys.length + 1 := by
  unfold bndI
  rw [List.length_map, List.length_range]
theorem bndI_at {ys : List Str} {i : Nat} (h : i ≤ ys.length) : (bndI ys)[i]? = some (off ys i : Int) := by
  unfold bndI
  rw [List.getElem?_map, List.getElem?_range (by omega)]
  rfl
theorem bnd_one {ys : List Str} : (bndI ys).take 1 = [0] := by
  rw [List.take_succ, bndI_at (Nat.zero_le _)]
  rfl
def Bd (ys : List Str) (n : Nat) : Prop := ∃ i, i ≤ ys.length ∧ off ys i = n
theorem bd_mem {ys : List Str} {n : Nat} : (n : Int) ∈ bndI ys ↔ Bd ys n := by
  unfold bndI Bd
  rw [List.mem_map]
  constructor
  · rintro ⟨i, hi, e⟩
    exact ⟨i, by have := List.mem_range.mp hi; omega, by exact Int.ofNat_inj.mp e⟩
  · rintro ⟨i, hi, e⟩
    exact ⟨i, List.mem_range.mpr (by omega), by rw [e]⟩
theorem off_lt' {ys : List Str} (ne : ∀ y ∈ ys, cs y ≠ []) {i j : Nat} (h : i < j) (hj : j ≤ ys.length) : off ys i < off ys j := by
  obtain ⟨j', rfl⟩ : ∃ j', j = j' + 1 := ⟨j - 1, by omega⟩
  have e : ys[j']? = some ys[j'] := List.getElem?_eq_getElem (by omega)
  have h1 := off_succ e
  have h2 := List.length_pos_iff.mpr (ne _ (List.getElem_mem (by omega : j' < ys.length)))
  have h3 := off_mono (ys := ys) (show i ≤ j' by omega)
  omega
theorem off_dropS {ys : List Str} {i t : Nat} : off ys (i + t) = off ys i + off (ys.drop i) t := by
  unfold off
  rw [List.take_add, List.map_append, List.flatten_append, List.length_append]
theorem nempty_run {f : Str → Bool → Option Str} {v : Nat} {l : List Nat} {ys : List Str} (h : RunC f v l ys) : ∀ y ∈ ys, cs y ≠ [] := by
  induction h with
  | nil => intro y hy; exact (List.not_mem_nil hy).elim
  | cons ne h e n t ih =>
    intro y hy
    rcases List.mem_cons.mp hy with q | q
    · rw [q]; exact n
    · exact ih y q
/-! ### pieces that two cuts share at their beginnings -/
def shareL : List Str → List Str → Nat
  | a :: r, b :: q => if a = b then shareL r q + 1 else 0
  | _, _ => 0
theorem share_le : ∀ {xs ys : List Str}, shareL xs ys ≤ xs.length ∧ shareL xs ys ≤ ys.length
  | [], _ => ⟨Nat.zero_le _, by unfold shareL; exact Nat.zero_le _⟩
  | _ :: _, [] => ⟨by unfold shareL; exact Nat.zero_le _, Nat.zero_le _⟩
  | a :: r, b :: q => by
    have ih := share_le (xs := r) (ys := q)
    unfold shareL
    split
    · rw [List.length_cons, List.length_cons]
      omega
    · exact ⟨Nat.zero_le _, Nat.zero_le _⟩
theorem share_take : ∀ {xs ys : List Str}, xs.take (shareL xs ys) = ys.take (shareL xs ys)
  | [], ys => by unfold shareL; rfl
  | _ :: _, [] => by unfold shareL; rfl
  | a :: r, b :: q => by
    have ih := share_take (xs := r) (ys := q)
    unfold shareL
    split
    · rename_i e
      rw [List.take_succ_cons, List.take_succ_cons, ih, e]
    · rfl
theorem share_ne : ∀ {xs ys : List Str} {x y : Str}, xs[shareL xs ys]? = some x → ys[shareL xs ys]? = some y → x ≠ y
  | [], _, _, _, h, _ => by simp at h
  | _ :: _, [], _, _, _, h => by simp at h
  | a :: r, b :: q, x, y, h, k => by
    unfold shareL at h k
    split at h
    · rename_i e
      rw [if_pos e] at k
      rw [List.getElem?_cons_succ] at h k
      exact share_ne h k
    · rename_i e
      rw [if_neg e] at k
      rw [List.getElem?_cons_zero] at h k
      cases h
      cases k
      exact e
theorem share_stop : ∀ {xs ys : List Str} {i : Nat}, xs.take i = ys.take i → i ≤ xs.length → i ≤ ys.length → (i = min xs.length ys.length ∨ ∃ x y, xs[i]? = some x ∧ ys[i]? = some y ∧ x ≠ y) → shareL xs ys = i
  | xs, ys, 0, _, _, _, h => by
    cases xs with
    | nil => unfold shareL; rfl
    | cons a r =>
      cases ys with
      | nil => unfold shareL; rfl
      | cons b q =>
        rcases h with h | ⟨x, y, h1, h2, h3⟩
        · simp at h
        · cases h1
          cases h2
          unfold shareL
          rw [if_neg h3]
  | xs, ys, i + 1, ht, hx, hy, h => by
    cases xs with
    | nil => simp at hx
    | cons a r =>
      cases ys with
      | nil => simp at hy
      | cons b q =>
        rw [List.take_succ_cons, List.take_succ_cons] at ht
        injection ht with e1 e2
        unfold shareL
        rw [if_pos e1, share_stop (xs := r) (ys := q) (i := i) e2 (by simpa using hx) (by simpa using hy) (by
          rcases h with h | ⟨x, y, h1, h2, h3⟩
          · left
            rw [List.length_cons, List.length_cons] at h
            omega
          · right
            exact ⟨x, y, h1, h2, h3⟩)]
/-! ### what an edit takes away and brings -/
def cmpE (ys zs : List Str) : Nat := shareL (ys.drop (shareL ys zs)).reverse (zs.drop (shareL ys zs)).reverse
def goneL (ys zs : List Str) : List Str := (ys.drop (shareL ys zs)).take ((ys.drop (shareL ys zs)).length - cmpE ys zs)
def cameL (ys zs : List Str) : List Str := (zs.drop (shareL ys zs)).take ((zs.drop (shareL ys zs)).length - cmpE ys zs)
def restL (ys zs : List Str) : List Str := (ys.drop (shareL ys zs)).drop ((ys.drop (shareL ys zs)).length - cmpE ys zs)
theorem cmp_one {ys zs : List Str} : ys.take (shareL ys zs) ++ goneL ys zs ++ restL ys zs = ys := by
  unfold goneL restL
  rw [List.append_assoc, List.take_append_drop, List.take_append_drop]
theorem cmp_rest {ys zs : List Str} : ys.drop (shareL ys zs + (goneL ys zs).length) = restL ys zs := by
  unfold restL goneL
  rw [← List.drop_drop, List.length_take, Nat.min_eq_left (Nat.sub_le _ _)]
theorem cmp_two {ys zs : List Str} : zs.take (shareL ys zs) ++ cameL ys zs ++ restL ys zs = zs := by
  have h : (ys.drop (shareL ys zs)).drop ((ys.drop (shareL ys zs)).length - cmpE ys zs) = (zs.drop (shareL ys zs)).drop ((zs.drop (shareL ys zs)).length - cmpE ys zs) := by
    have h1 := share_take (xs := (ys.drop (shareL ys zs)).reverse) (ys := (zs.drop (shareL ys zs)).reverse)
    rw [List.take_reverse, List.take_reverse] at h1
    exact List.reverse_inj.mp h1
  unfold restL cameL
  rw [h, List.append_assoc, List.take_append_drop, List.take_append_drop]
theorem cmp_first {ys zs : List Str} {x y : Str} (h : (goneL ys zs)[0]? = some x) (k : (cameL ys zs)[0]? = some y) : x ≠ y := by
  unfold goneL at h
  unfold cameL at k
  have h1 : (ys.drop (shareL ys zs))[0]? = some x := by
    rw [List.getElem?_take] at h
    split at h
    · exact h
    · cases h
  have k1 : (zs.drop (shareL ys zs))[0]? = some y := by
    rw [List.getElem?_take] at k
    split at k
    · exact k
    · cases k
  rw [List.getElem?_drop, Nat.add_zero] at h1 k1
  exact share_ne h1 k1
theorem cmp_last {ys zs : List Str} {x y : Str} (h : (goneL ys zs).getLast? = some x) (k : (cameL ys zs).getLast? = some y) : x ≠ y := by
  have go : ∀ {as : List Str} {e : Nat} {x : Str}, e ≤ as.length → (as.take (as.length - e)).getLast? = some x → as.reverse[e]? = some x := fun {as e x} he h => by
    rw [List.getLast?_eq_getElem?, List.length_take, Nat.min_eq_left (Nat.sub_le _ _)] at h
    rw [List.getElem?_take] at h
    split at h
    · rename_i q
      rw [List.getElem?_reverse (by omega)]
      rw [← h]
      congr 1
      omega
    · cases h
  have l1 := share_le (xs := (ys.drop (shareL ys zs)).reverse) (ys := (zs.drop (shareL ys zs)).reverse)
  rw [List.length_reverse, List.length_reverse] at l1
  exact share_ne (go l1.1 h) (go l1.2 k)
/-! ### the same signs in front, the same boundaries -/
section
variable {f : Str → Bool → Option Str} {v : Nat}
theorem front_same {l m : List Nat} {ys zs : List Str} {n : Nat} (hv : 1 ≤ v) (h : RunC f v l ys) (k : RunC f v m zs) (e : l.take n = m.take n) (nl : n ≤ l.length) (nm : n ≤ m.length) : ∀ i, off ys i + v ≤ n → i ≤ ys.length → i < ys.length ∧ i < zs.length ∧ ys.take (i + 1) = zs.take (i + 1) := by
  intro i
  induction i with
  | zero =>
    intro ho hi
    exact one hv h k e nl nm 0 ho (Nat.zero_le _) (Nat.zero_le _) rfl
  | succ i ih =>
    intro ho hi
    have h1 := off_mono (ys := ys) (Nat.le_succ i)
    have h1 : off ys i ≤ off ys (i + 1) := h1
    obtain ⟨a, b, c⟩ := ih (by omega) (by omega)
    exact one hv h k e nl nm (i + 1) ho a b c
where
  one {l m : List Nat} {ys zs : List Str} {n : Nat} (hv : 1 ≤ v) (h : RunC f v l ys) (k : RunC f v m zs) (e : l.take n = m.take n) (nl : n ≤ l.length) (nm : n ≤ m.length) (i : Nat) (ho : off ys i + v ≤ n) (hi : i ≤ ys.length) (hz : i ≤ zs.length) (t : ys.take i = zs.take i) : i < ys.length ∧ i < zs.length ∧ ys.take (i + 1) = zs.take (i + 1) := by
    have eo : off zs i = off ys i := by unfold off; rw [t]
    have r1 := RunC.at' h hi
    have r2 := RunC.at' k hz
    rw [eo] at r2
    have w : (l.drop (off ys i)).take v = (m.drop (off ys i)).take v := by
      have h5 := congrArg (fun q => (q.drop (off ys i)).take v) e
      rw [List.drop_take, List.drop_take, List.take_take, List.take_take, Nat.min_eq_left (by omega)] at h5
      exact h5
    have go : ∀ {l : List Nat} {us : List Str}, RunC f v l us → 1 ≤ l.length → ∃ y r, us = y :: r ∧ f (sOf (l.take v)) (decide ((l.take v).length < v)) = some y := fun {l us} r hl => by
      cases us with
      | nil =>
        cases r
        simp at hl
      | cons y q => exact ⟨y, q, rfl, r.head.1⟩
    obtain ⟨y, r, e1, f1⟩ := go r1 (by rw [List.length_drop]; omega)
    obtain ⟨z, q, e2, f2⟩ := go r2 (by rw [List.length_drop]; omega)
    rw [w] at f1
    rw [f1] at f2
    have eyz := Option.some.inj f2
    subst eyz
    have hy : ys[i]? = some y := by
      have := congrArg (fun q => q[0]?) e1
      rw [List.getElem?_drop, Nat.add_zero] at this
      exact this
    have hz' : zs[i]? = some y := by
      have := congrArg (fun q => q[0]?) e2
      rw [List.getElem?_drop, Nat.add_zero] at this
      exact this
    refine ⟨(List.getElem?_eq_some_iff.mp hy).1, (List.getElem?_eq_some_iff.mp hz').1, ?_⟩
    rw [List.take_succ, List.take_succ, t, hy, hz']
end
/-- those of an ascending row that are not over a bound stand in front -/
theorem asc_filter {g : Nat → Nat} {s : Int} : ∀ n, (∀ i j, i < j → j < n → g i < g j) → ∃ k, k ≤ n ∧ (((List.range n).map fun i => (g i : Int)).filter fun x => decide (x ≤ s)) = ((List.range n).map fun i => (g i : Int)).take k ∧ (∀ i, i < k → (g i : Int) ≤ s) ∧ ∀ i, k ≤ i → i < n → ¬ (g i : Int) ≤ s
  | 0, _ => ⟨0, Nat.le_refl _, rfl, fun _ h => absurd h (Nat.not_lt_zero _), fun i _ h => absurd h (Nat.not_lt_zero _)⟩
  | n + 1, mono => by
    obtain ⟨k, hk, e, h1, h2⟩ := asc_filter n fun i j a b => mono i j a (by omega)
    have er : ((List.range (n + 1)).map fun i => (g i : Int)) = ((List.range n).map fun i => (g i : Int)) ++ [(g n : Int)] := by rw [List.range_succ, List.map_append]; rfl
    rw [er, List.filter_append, e]
    by_cases q : (g n : Int) ≤ s
    · have ek : k = n := by
        rcases Nat.lt_or_ge k n with c | c
        · have := h2 k (Nat.le_refl _) c
          have := mono k n c (by omega)
          omega
        · omega
      subst ek
      refine ⟨k + 1, by omega, ?_, fun i hi => ?_, fun i hi hn => by omega⟩
      · rw [List.filter_cons_of_pos (by simpa using q), List.filter_nil, List.take_of_length_le (by rw [List.length_map, List.length_range]; exact Nat.le_refl _), List.take_of_length_le (by rw [List.length_append, List.length_map, List.length_range]; exact Nat.le_refl _)]
      · rcases Nat.lt_or_ge i k with c | c
        · exact h1 i c
        · have : i = k := by omega
          subst this
          exact q
    · refine ⟨k, by omega, ?_, h1, fun i hi hn => ?_⟩
      · rw [List.filter_cons_of_neg (by simpa using q), List.filter_nil, List.append_nil, List.take_append_of_le_length (by rw [List.length_map, List.length_range]; exact hk)]
      · rcases Nat.lt_or_ge i n with c | c
        · exact h2 i hi c
        · have : i = n := by omega
          subst this
          exact q
theorem bnd_asc {ys : List Str} (ne : ∀ y ∈ ys, cs y ≠ []) (s : Int) : ∃ k, k ≤ ys.length + 1 ∧ (bndI ys).filter (fun x => decide (x ≤ s)) = (bndI ys).take k ∧ (∀ i, i < k → (off ys i : Int) ≤ s) ∧ ∀ i, k ≤ i → i < ys.length + 1 → ¬ (off ys i : Int) ≤ s :=
  asc_filter (g := off ys) (ys.length + 1) fun i j a b => off_lt' ne a (by omega)
/-- two texts with the same signs in front: the boundaries that are seen, and the next one -/
theorem front_law {f : Str → Bool → Option Str} {v : Nat} {l m : List Nat} {ys zs : List Str} {n : Nat} (hv : 1 ≤ v) (h : RunC f v l ys) (k : RunC f v m zs) (e : l.take n = m.take n) (nl : n ≤ l.length) (nm : n ≤ m.length) :
    ∃ q, (bndI ys).filter (fun x => decide (x ≤ (n : Int) - (v : Int))) = (bndI ys).take q ∧ (bndI zs).filter (fun x => decide (x ≤ (n : Int) - (v : Int))) = (bndI ys).take q ∧ q ≤ ys.length ∧ q ≤ zs.length ∧ (bndI ys).take (q + 1) = (bndI zs).take (q + 1) := by
  have n1 := nempty_run h
  have n2 := nempty_run k
  obtain ⟨q, hq, e1, a1, b1⟩ := bnd_asc n1 ((n : Int) - (v : Int))
  obtain ⟨p, hp, e2, a2, b2⟩ := bnd_asc n2 ((n : Int) - (v : Int))
  have same : ∀ i, i < q → i < ys.length ∧ i < zs.length ∧ ys.take (i + 1) = zs.take (i + 1) := fun i hi => front_same hv h k e nl nm i (by have := a1 i hi; omega) (by omega)
  have same' : ∀ i, i < p → i < zs.length ∧ i < ys.length ∧ zs.take (i + 1) = ys.take (i + 1) := fun i hi => front_same hv k h e.symm nm nl i (by have := a2 i hi; omega) (by omega)
  have qy : q ≤ ys.length ∧ q ≤ zs.length := by
    cases q with
    | zero => exact ⟨Nat.zero_le _, Nat.zero_le _⟩
    | succ q => have := same q (Nat.lt_succ_self _); omega
  have tk : ys.take q = zs.take q := by
    cases q with
    | zero => rfl
    | succ q => exact (same q (Nat.lt_succ_self _)).2.2
  have tk' : zs.take p = ys.take p := by
    cases p with
    | zero => rfl
    | succ p => exact (same' p (Nat.lt_succ_self _)).2.2
  have offs : ∀ i, i ≤ q → off ys i = off zs i := fun i hi => by
    have h1 : off ys i = off (ys.take q) i := by unfold off; rw [List.take_take, Nat.min_eq_left hi]
    have h2 : off zs i = off (zs.take q) i := by unfold off; rw [List.take_take, Nat.min_eq_left hi]
    rw [h1, h2, tk]
  have offs' : ∀ i, i ≤ p → off zs i = off ys i := fun i hi => by
    have h1 : off zs i = off (zs.take p) i := by unfold off; rw [List.take_take, Nat.min_eq_left hi]
    have h2 : off ys i = off (ys.take p) i := by unfold off; rw [List.take_take, Nat.min_eq_left hi]
    rw [h1, h2, tk']
  have tks : (bndI ys).take (q + 1) = (bndI zs).take (q + 1) := by
    refine List.ext_getElem? fun i => ?_
    rw [List.getElem?_take, List.getElem?_take]
    split
    · rw [bndI_at (by omega), bndI_at (by omega), offs i (by omega)]
    · rfl
  have pq : p = q := by
    rcases Nat.lt_trichotomy p q with c | c | c
    · have h1 := a1 p c
      have h2 := b2 p (Nat.le_refl _) (by have := same p c; omega)
      rw [offs p (by omega)] at h1
      exact absurd h1 h2
    · exact c
    · have h1 := a2 q c
      have h2 := b1 q (Nat.le_refl _) (by have := same' q c; omega)
      rw [offs' q (by omega)] at h1
      exact absurd h1 h2
  subst pq
  refine ⟨p, e1, ?_, qy.1, qy.2, tks⟩
  rw [e2]
  have := congrArg (fun l => l.take p) tks
  rw [List.take_take, List.take_take, Nat.min_eq_left (Nat.le_succ _)] at this
  exact this.symm
/-! ### behind a common boundary -/
theorem behind_same {f : Str → Bool → Option Str} {v : Nat} {o n r : List Nat} {ys zs : List Str} {m i j : Nat} (h : RunC f v (o ++ r) ys) (k : RunC f v (n ++ r) zs) (hi : i ≤ ys.length) (hj : j ≤ zs.length) (ei : off ys i = o.length + m) (ej : off zs j = n.length + m) : ys.drop i = zs.drop j := by
  have r1 := RunC.at' h hi
  have r2 := RunC.at' k hj
  rw [ei, ← List.drop_drop, List.drop_left] at r1
  rw [ej, ← List.drop_drop, List.drop_left] at r2
  exact r1.uniq r2
/-- the boundaries from a place on -/
theorem bnd_from {ys : List Str} (ne : ∀ y ∈ ys, cs y ≠ []) {i a m : Nat} (hi : i ≤ ys.length) (ei : off ys i = a + m) :
    ((bndI ys).map fun x => x - (a : Int)).filter (fun x => decide ((m : Int) ≤ x)) = (List.range (ys.length - i + 1)).map fun t => (m : Int) + (off (ys.drop i) t : Int) := by
  unfold bndI
  have e : List.range (ys.length + 1) = List.range i ++ (List.range (ys.length - i + 1)).map (i + ·) := by
    rw [← List.range_add]
    congr 1
    omega
  rw [e, List.map_append, List.map_append, List.filter_append]
  have z : (((List.range i).map fun i => (off ys i : Int)).map (fun x => x - (a : Int))).filter (fun x => decide ((m : Int) ≤ x)) = [] := by
    rw [List.filter_eq_nil_iff]
    intro x hx
    obtain ⟨y, hy, rfl⟩ := List.mem_map.mp hx
    obtain ⟨t, ht, rfl⟩ := List.mem_map.mp hy
    have := off_lt' ne (List.mem_range.mp ht) hi
    simp only [decide_eq_true_eq]
    omega
  rw [z, List.nil_append, List.map_map, List.map_map, List.filter_eq_self.mpr]
  · refine List.map_congr_left fun t _ => ?_
    show ((off ys (i + t) : Nat) : Int) - (a : Int) = _
    rw [off_dropS]
    omega
  · intro x hx
    obtain ⟨t, ht, rfl⟩ := List.mem_map.mp hx
    have h1 : off ys i ≤ off ys (i + t) := off_mono (Nat.le_add_right _ _)
    simp only [decide_eq_true_eq]
    show (m : Int) ≤ ((off ys (i + t) : Nat) : Int) - (a : Int)
    omega
theorem bnd_nodup {ys : List Str} (ne : ∀ y ∈ ys, cs y ≠ []) : (bndI ys).Nodup := by
  unfold bndI
  rw [List.Nodup, List.pairwise_map]
  refine List.Pairwise.imp_of_mem (R := fun a b : Nat => a < b) (fun {a b} ha hb h => ?_) List.pairwise_lt_range
  have := off_lt' ne h (by have := List.mem_range.mp hb; omega)
  omega
def thereK (a : Int) (ys : List Str) : List (Key × V) := (bndI ys).map fun x => (Sum.inl (x - a), V.bl true)
theorem there_is {a k : Int} {ys : List Str} : (valV (thereK a ys) (Sum.inl k : Key)).isSome = decide (k + a ∈ bndI ys) := by
  rw [← valV_any]
  unfold thereK
  rw [List.any_map, Bool.eq_iff_iff, List.any_eq_true, decide_eq_true_eq]
  constructor
  · rintro ⟨x, hx, e⟩
    have e := of_decide_eq_true e
    injection e with e
    have : k + a = x := by omega
    rw [this]
    exact hx
  · intro h
    exact ⟨_, h, decide_eq_true (by show (Sum.inl (k + a - a) : Key) = _; rw [Int.add_sub_cancel])⟩
/-- the least common boundary, as the program finds it -/
theorem com_first {a b : Nat} {r : Str} {ys zs : List Str} {l m : List Nat} {f g : Str → Bool → Option Str} {v u : Nat} (h : RunC f v l ys) (k : RunC g u m zs) (la : l.length = a + r.length) (lb : m.length = b + r.length) :
    ∃ (q : Nat) (rest : List Int), (bndI zs).filterMap (fun x => if (b : Int) ≤ x ∧ x - (b : Int) + (a : Int) ∈ bndI ys then some (V.int (x - (b : Int))) else none) = V.int (q : Int) :: rest.map V.int ∧ Bd ys (a + q) ∧ Bd zs (b + q) ∧ q ≤ r.length ∧ ∀ q', Bd ys (a + q') → Bd zs (b + q') → q ≤ q' := by
  have e1 : (bndI zs).filterMap (fun x => if (b : Int) ≤ x ∧ x - (b : Int) + (a : Int) ∈ bndI ys then some (V.int (x - (b : Int))) else none) = (((bndI zs).filter fun x => decide ((b : Int) ≤ x ∧ x - (b : Int) + (a : Int) ∈ bndI ys)).map fun x => x - (b : Int)).map V.int := by
    rw [List.map_map]
    induction bndI zs with
    | nil => rfl
    | cons x l ih =>
      by_cases q : (b : Int) ≤ x ∧ x - (b : Int) + (a : Int) ∈ bndI ys
      · rw [List.filterMap_cons, if_pos q, List.filter_cons_of_pos (by simpa using q), List.map_cons, ih]
        rfl
      · rw [List.filterMap_cons, if_neg q, List.filter_cons_of_neg (by simpa using q), ih]
  have asc : (bndI zs).Pairwise fun x y => x < y := by
    unfold bndI
    rw [List.pairwise_map]
    refine List.Pairwise.imp_of_mem (R := fun a b : Nat => a < b) (fun {i j} ha hb h => ?_) List.pairwise_lt_range
    have := off_lt' (nempty_run k) h (by have := List.mem_range.mp hb; omega)
    omega
  have fin : ((m.length : Nat) : Int) ∈ (bndI zs).filter fun x => decide ((b : Int) ≤ x ∧ x - (b : Int) + (a : Int) ∈ bndI ys) := by
    refine List.mem_filter.mpr ⟨bd_mem.mpr ⟨zs.length, Nat.le_refl _, off_all k.flat⟩, decide_eq_true ⟨by omega, ?_⟩⟩
    have : ((m.length : Nat) : Int) - (b : Int) + (a : Int) = ((l.length : Nat) : Int) := by omega
    rw [this]
    exact bd_mem.mpr ⟨ys.length, Nat.le_refl _, off_all h.flat⟩
  rw [e1]
  have asc2 := asc.filter (p := fun x => decide ((b : Int) ≤ x ∧ x - (b : Int) + (a : Int) ∈ bndI ys))
  have all2 : ∀ x, x ∈ (bndI zs).filter (fun x => decide ((b : Int) ≤ x ∧ x - (b : Int) + (a : Int) ∈ bndI ys)) ↔ x ∈ bndI zs ∧ (b : Int) ≤ x ∧ x - (b : Int) + (a : Int) ∈ bndI ys := fun x => by rw [List.mem_filter, decide_eq_true_eq]
  generalize (bndI zs).filter (fun x => decide ((b : Int) ≤ x ∧ x - (b : Int) + (a : Int) ∈ bndI ys)) = L at fin asc2 all2
  cases L with
  | nil => exact (List.not_mem_nil fin).elim
  | cons x0 L =>
    obtain ⟨m1, m2, m3⟩ := (all2 x0).mp List.mem_cons_self
    obtain ⟨q, hq⟩ : ∃ q : Nat, x0 = (b : Int) + (q : Int) := ⟨(x0 - b).toNat, by omega⟩
    have least : ∀ x ∈ x0 :: L, x0 ≤ x := fun x hx => by
      rcases List.mem_cons.mp hx with rfl | hx
      · exact Int.le_refl _
      · exact Int.le_of_lt (List.rel_of_pairwise_cons asc2 hx)
    refine ⟨q, L.map fun x => x - (b : Int), ?_, ?_, ?_, ?_, fun q' h1 h2 => ?_⟩
    · rw [List.map_cons, List.map_cons, hq]
      congr 2
      omega
    · have : x0 - (b : Int) + (a : Int) = ((a + q : Nat) : Int) := by omega
      rw [this] at m3
      exact bd_mem.mp m3
    · have : x0 = ((b + q : Nat) : Int) := by omega
      rw [this] at m1
      exact bd_mem.mp m1
    · have := least _ fin
      omega
    · have := least ((b + q' : Nat) : Int) ((all2 _).mpr ⟨bd_mem.mpr h2, by omega, by
        have : ((b + q' : Nat) : Int) - (b : Int) + (a : Int) = ((a + q' : Nat) : Int) := by omega
        rw [this]
        exact bd_mem.mpr h1⟩)
      omega
theorem cutV_fromE {xs : List V} {i : Nat} (h : i ≤ xs.length) : cutV xs (some (i : Int)) none = xs.drop i := by
  unfold cutV
  rw [show HT.sIx xs.length 0 (some (i : Int)) = i by rw [sIx_pos (by omega), Int.toNat_natCast]; omega]
  exact List.take_of_length_le (by rw [List.length_drop]; exact Nat.le_refl _)
/-! ### promises -/
def spReqCutE (CU : Addr) : Sp := fun vs H Q _ => ∃ c dx fs, vs = [.ref c] ∧ H c = some (.ins CU dx fs) ∧ Q .non H
def spBnd (C CU : Addr) : Sp := fun vs H Q _ => ∃ c kvs z ys, vs = [.ref c, .str z] ∧ RunAt C CU H c kvs z ys ∧ ∀ p H', H p = none → H' p = some (.lst ((bndI ys).map V.int)) → Same H H' → Q (.ref p) H'
def spBndT (C CU : Addr) : Sp := fun vs H Q _ => ∃ c kvs z ys, vs = [.ref c, .str z] ∧ RunAt C CU H c kvs z ys ∧ ∀ p H', H p = none → H' p = some (.tup ((bndI ys).map V.int)) → Same H H' → Q (.ref p) H'
structure ComAt (C CU : Addr) (H : Hp) (c : Addr) (kvs : List (Key × V)) (o n r : Str) (ys zs : List Str) : Prop where
  one : RunAt C CU H c kvs (o ++ r) ys
  two : RunAt C CU H c kvs (n ++ r) zs
  lo : o.length ≤ 8000
  ln : n.length ≤ 8000
  lr : r.length ≤ 8000
  oo : Over (tfD kvs) (cs o)
  on : Over (tfD kvs) (cs n)
  or_ : Over (tfD kvs) (cs r)
theorem ComAt.same {C CU : Addr} {H H' : Hp} {c : Addr} {kvs : List (Key × V)} {o n r : Str} {ys zs : List Str} (A : ComAt C CU H c kvs o n r ys zs) (s : Same H H') : ComAt C CU H' c kvs o n r ys zs := ⟨A.one.same s, A.two.same s, A.lo, A.ln, A.lr, A.oo, A.on, A.or_⟩
def spCom (C CU : Addr) : Sp := fun vs H Q _ => ∃ c kvs o n r ys zs, vs = [.ref c, .str o, .str n, .str r] ∧ ComAt C CU H c kvs o n r ys zs ∧
  ∀ (m : Nat) H', Bd ys (o.length + m) → Bd zs (n.length + m) → m ≤ r.length → (∀ m', Bd ys (o.length + m') → Bd zs (n.length + m') → m ≤ m') → Same H H' → Q (.int (m : Int)) H'
def spShare (K : PySem.W.Frag) : Sp := fun vs H Q _ => ∃ (a b : Addr) (ys zs : List Str), vs = [.ref a, .ref b] ∧ SqL K H a (ys.map V.str) ∧ SqL K H b (zs.map V.str) ∧ ys.length ≤ 8000 ∧ zs.length ≤ 8000 ∧ ∀ H', Same H H' → Q (.int (shareL ys zs : Int)) H'
def CmpTup (H' : Hp) (p : Addr) (ys zs : List Str) : Prop := ∃ g k, H' p = some (.tup [.int (shareL ys zs : Int), .ref g, .ref k]) ∧ H' g = some (.tup ((goneL ys zs).map V.str)) ∧ H' k = some (.tup ((cameL ys zs).map V.str))
def spCmp (C CU : Addr) : Sp := fun vs H Q _ => ∃ c kvs o n ys zs, vs = [.ref c, .str o, .str n] ∧ RunAt C CU H c kvs o ys ∧ RunAt C CU H c kvs n zs ∧ ∀ p H', H p = none → CmpTup H' p ys zs → Same H H' → Q (.ref p) H'
def spRecut (C CU : Addr) : Sp := fun vs H Q _ => ∃ (c : Addr) (kvs : List (Key × V)) (z g n : Str) (a b : Nat) (ys zs : List Str), vs = [.ref c, .str z, .int (a : Int), .int (b : Int), .str g] ∧ a ≤ b ∧ b ≤ z.length ∧ Over (tfD kvs) (cs g) ∧ g.length ≤ 8000 ∧ cs n = (cs z).take a ++ cs g ++ (cs z).drop b ∧ RunAt C CU H c kvs z ys ∧ RunAt C CU H c kvs n zs ∧
  ∀ p H', H p = none → CmpTup H' p ys zs → Same H H' → Q (.ref p) H'
/-! ### the law's side -/
theorem bd10 : 0 < ((10 : Int) ^ (58 : Int).toNat) ^ (10 : Int).toNat ∧ (((10 : Int) ^ (58 : Int).toNat) ^ (10 : Int).toNat).natAbs ≤ 2 ^ 2420 := by decide +kernel
/-- sorted(some letters) -/
def spSignsE : Sp := fun vs H Q _ => ∃ (l : Addr) (m n : Nat), vs = [.ref l, .int (m : Int)] ∧ m ≤ 26 ∧ Dice H l (n + m) ∧ ∀ p (sg : List Nat) H', H p = none → H' p = some (.lst (sg.map chV)) → sg.length = m → (∀ c ∈ sg, lett c = true) → Kp l H H' → Dice H' l n → Q (.ref p) H'
def spPricesE (K : PySem.W.Frag) : Sp := fun vs H Q _ => ∃ (l sa : Addr) (sg : List Nat) (lo sz top n : Nat), vs = [.ref l, .ref sa, .int (lo : Int), .int (sz : Int), .int (top : Int)] ∧ sa ≠ l ∧ SqL K H sa (sg.map chV) ∧ 1 ≤ sg.length ∧ sg.length ≤ 4 ∧ (∀ c ∈ sg, lett c = true) ∧
  lo ≤ 6 ∧ 2 ≤ sz ∧ sz ≤ 5 ∧ 1 ≤ top ∧ top ≤ 99 ∧ Dice H l (n + 100) ∧
  ∀ (p : Addr) (kvs : List (Key × V)) H', H p = none → p ≠ l → H' p = some (.dK kvs) → arePrices kvs = true → (kvs.map (·.1)).Nodup → (∀ c, (∃ q, tfD kvs (ch c) = some q) ↔ c ∈ sg) → Kp l H H' → Dice H' l n → Q (.ref p) H'
def planKV (d o : Addr) (v : Int) (td te : Addr) : List (Key × V) := [(Sum.inr ("prices" : Str), .ref d), (Sum.inr ("order" : Str), .ref o), (Sum.inr ("view" : Str), .int v), (Sum.inr ("table" : Str), .ref td), (Sum.inr ("ends" : Str), .ref te)]
section
variable {d o td te : Addr} {v : Int}
theorem pl_prices : valV (planKV d o v td te) (Sum.inr ("prices" : Str)) = some (.ref d) := by
  unfold planKV valV
  simp
theorem pl_order : valV (planKV d o v td te) (Sum.inr ("order" : Str)) = some (.ref o) := by
  have h : (Sum.inr ("prices" : Str) : Key) ≠ Sum.inr ("order" : Str) := by decide +kernel
  unfold planKV valV
  simp [h]
theorem pl_view : valV (planKV d o v td te) (Sum.inr ("view" : Str)) = some (.int v) := by
  have h : (Sum.inr ("prices" : Str) : Key) ≠ Sum.inr ("view" : Str) := by decide +kernel
  have h2 : (Sum.inr ("order" : Str) : Key) ≠ Sum.inr ("view" : Str) := by decide +kernel
  unfold planKV valV
  simp [h, h2]
theorem pl_table : valV (planKV d o v td te) (Sum.inr ("table" : Str)) = some (.ref td) := by
  have h : (Sum.inr ("prices" : Str) : Key) ≠ Sum.inr ("table" : Str) := by decide +kernel
  have h2 : (Sum.inr ("order" : Str) : Key) ≠ Sum.inr ("table" : Str) := by decide +kernel
  have h3 : (Sum.inr ("view" : Str) : Key) ≠ Sum.inr ("table" : Str) := by decide +kernel
  unfold planKV valV
  simp [h, h2, h3]
theorem pl_ends : valV (planKV d o v td te) (Sum.inr ("ends" : Str)) = some (.ref te) := by
  have h : (Sum.inr ("prices" : Str) : Key) ≠ Sum.inr ("ends" : Str) := by decide +kernel
  have h2 : (Sum.inr ("order" : Str) : Key) ≠ Sum.inr ("ends" : Str) := by decide +kernel
  have h3 : (Sum.inr ("view" : Str) : Key) ≠ Sum.inr ("ends" : Str) := by decide +kernel
  have h4 : (Sum.inr ("table" : Str) : Key) ≠ Sum.inr ("ends" : Str) := by decide +kernel
  unfold planKV valV
  simp [h, h2, h3, h4]
end
structure PlanAt (H : Hp) (pc : Addr) (kvs : List (Key × V)) (ord : List Str) (v : Nat) (T E : List (Key × V)) : Prop where
  wt : WinOk (tfD kvs) (v : Int) T
  we : WinOk (tfD kvs) ((v : Int) - 1) E
  op : ord.Perm (keyStrs kvs)
  v1 : 1 ≤ v
  v2 : v ≤ 2000
  av : arePrices kvs = true
  nd : (kvs.map (·.1)).Nodup
  ex : ∃ d o td te, H pc = some (.dK (planKV d o (v : Int) td te)) ∧ H d = some (.dK kvs) ∧ H o = some (.tup (ord.map V.str)) ∧ H td = some (.dK T) ∧ H te = some (.dK E)
theorem PlanAt.same {H H' : Hp} {pc : Addr} {kvs : List (Key × V)} {ord : List Str} {v : Nat} {T E : List (Key × V)} (A : PlanAt H pc kvs ord v T E) (s : Same H H') : PlanAt H' pc kvs ord v T E := by
  obtain ⟨d, o, td, te, h1, h2, h3, h4, h5⟩ := A.ex
  exact ⟨A.wt, A.we, A.op, A.v1, A.v2, A.av, A.nd, d, o, td, te, s _ _ h1, s _ _ h2, s _ _ h3, s _ _ h4, s _ _ h5⟩
theorem PlanAt.kp {l : Addr} {H H' : Hp} {pc : Addr} {kvs : List (Key × V)} {ord : List Str} {v n : Nat} {T E : List (Key × V)} (A : PlanAt H pc kvs ord v T E) (D : Dice H l n) (k : Kp l H H') : PlanAt H' pc kvs ord v T E := by
  obtain ⟨d, o, td, te, h1, h2, h3, h4, h5⟩ := A.ex
  exact ⟨A.wt, A.we, A.op, A.v1, A.v2, A.av, A.nd, d, o, td, te, k _ _ h1 (D.ne' h1 (by simp)), k _ _ h2 (D.ne' h2 (by simp)), k _ _ h3 (D.ne' h3 (by simp)), k _ _ h4 (D.ne' h4 (by simp)), k _ _ h5 (D.ne' h5 (by simp))⟩
def spPlan (T : List (Addr × Str)) : Sp := fun vs H Q _ => ∃ (l d : Addr) (kvs : List (Key × V)) (m n : Nat), vs = [.ref l, .ref d, .int (m : Int)] ∧ Tabs T H ∧ d ≠ l ∧ H d = some (.dK kvs) ∧ arePrices kvs = true ∧ (kvs.map (·.1)).Nodup ∧ 1 ≤ m ∧ m ≤ 20 ∧ Dice H l (n + 400) ∧
  ∀ p (ord : List Str) (v : Nat) (W Y : List (Key × V)) H', PlanAt H' p kvs ord v W Y → v ≤ m → KpU l H H' → Tabs T H' → Dice H' l n → Q (.ref p) H'
def spPlanCut (C CU : Addr) : Sp := fun vs H Q _ => ∃ (pc : Addr) (kvs : List (Key × V)) (ord : List Str) (v : Nat) (W Y : List (Key × V)), vs = [.ref pc] ∧ PlanAt H pc kvs ord v W Y ∧ ∀ c H', H c = none → CutAt C CU H' c kvs ord (v : Int) W Y → Same H H' → Q (.ref c) H'
def spAlphabet : Sp := fun vs H Q _ => ∃ (pc : Addr) (kvs : List (Key × V)) (ord : List Str) (v : Nat) (W Y : List (Key × V)), vs = [.ref pc] ∧ PlanAt H pc kvs ord v W Y ∧ ∀ p (sg : List Nat) H', H p = none → H' p = some (.lst (sg.map chV)) → sg.length ≤ 12 → sg ≠ [] → (∀ c, c ∈ sg ↔ Over (tfD kvs) [c]) → Same H H' → Q (.ref p) H'
theorem alph {kvs : List (Key × V)} {ys : List Str} (av : arePrices kvs = true) (nd : (kvs.map (·.1)).Nodup) (pz : ys.Perm (keyStrs kvs)) :
    ∃ sg : List Nat, ys.filter (fun y => decide ((y.length : Int) = 1)) = sg.map ch ∧ (∀ c, c ∈ sg ↔ Over (tfD kvs) [c]) ∧ sg.length ≤ 12 ∧ sg ≠ [] := by
  obtain ⟨⟨n1, n12⟩, al, _, _⟩ := ap_parts av
  have tar := tar_of av nd
  have good := tar.good
  have kl := keyStrs_len kvs
  have nek : kvs ≠ [] := fun e => by rw [e] at n1; simp at n1
  obtain ⟨sg, e, _⟩ := lift_ch (P := fun _ => True) (ys := ys.filter (fun y => decide ((y.length : Int) = 1))) fun y hy => by
    obtain ⟨h1, h2⟩ := List.mem_filter.mp hy
    have h2 := of_decide_eq_true h2
    have h3 : (cs y).length = 1 := by rw [cs_len]; omega
    obtain ⟨c, hc⟩ := List.length_eq_one_iff.mp h3
    exact ⟨c, str_ext (by rw [hc]), trivial⟩
  have mem : ∀ c, c ∈ sg ↔ Over (tfD kvs) [c] := fun c => by
    have chi : ∀ {c d : Nat}, ch c = ch d → c = d := fun h => by
      have := congrArg cs h
      simpa [cs] using this
    have h1 : c ∈ sg ↔ ch c ∈ sg.map ch := ⟨fun h => List.mem_map.mpr ⟨c, h, rfl⟩, fun h => by
      obtain ⟨d, hd, q⟩ := List.mem_map.mp h
      exact chi q ▸ hd⟩
    rw [h1, ← e, List.mem_filter, pz.mem_iff]
    constructor
    · rintro ⟨h, _⟩ x hx
      rw [List.mem_singleton.mp hx]
      exact (tf_key al).mp h
    · intro h
      refine ⟨(tf_key al).mpr (h c List.mem_cons_self), decide_eq_true ?_⟩
      have : (cs (ch c)).length = 1 := by simp [cs]
      rw [cs_len] at this
      omega
  refine ⟨sg, e, mem, ?_, fun e0 => ?_⟩
  · have h1 := congrArg List.length e
    have h2 := List.length_filter_le (fun y : Str => decide ((y.length : Int) = 1)) ys
    have h3 := pz.length_eq
    rw [List.length_map] at h1
    omega
  · obtain ⟨y, q, hy, hyl⟩ : ∃ y q, tfD kvs y = some q ∧ 1 ≤ (cs y).length := by
      cases hk : kvs with
      | nil => exact absurd hk nek
      | cons kv rr =>
        obtain ⟨y, q, ey, hq⟩ := tar.mem kv (by rw [hk]; exact List.mem_cons_self)
        rw [← hk]
        exact ⟨y, q, hq, (good.len y q hq).1⟩
    obtain ⟨c0, r0, ec⟩ : ∃ c0 r0, cs y = c0 :: r0 := by
      cases hc : cs y with
      | nil => rw [hc] at hyl; simp at hyl
      | cons c0 r0 => exact ⟨c0, r0, rfl⟩
    have := (mem c0).mpr fun x hx => by
      rw [List.mem_singleton.mp hx]
      exact good.cov y q hy c0 (by rw [ec]; exact List.mem_cons_self)
    rw [e0] at this
    exact (List.not_mem_nil this).elim
def unS : V → Str
  | .str z => z
  | _ => Str.ofString ""
theorem perm_str {a b : List Str} (h : (a.map V.str).Perm (b.map V.str)) : a.Perm b := by
  have := h.map unS
  rw [List.map_map, List.map_map] at this
  rwa [show unS ∘ V.str = id from rfl, List.map_id, List.map_id] at this
/-- the table of a plan is filled first, then its ends -/
def two {α : Type} (i : Nat) (a b : α) : α := if i = 0 then a else b
def QK (l a b : Addr) (G H : Hp) : Prop := ∀ x u, G x = some u → x ≠ l → x ≠ a → x ≠ b → H x = some u
theorem QK.kp {l a b : Addr} {G H H' : Hp} (q : QK l a b G H) (k : Kp l H H') : QK l a b G H' := fun x u e n1 n2 n3 => k _ _ (q x u e n1 n2 n3) n1
theorem QK.upd {l a b : Addr} {G H : Hp} {o : HO} {i : Nat} (q : QK l a b G H) : QK l a b G (L2.upd H (two i a b) o) := fun x u e n1 n2 n3 => by
  refine (upd_ne ?_).trans (q x u e n1 n2 n3)
  unfold two
  split
  · exact n2
  · exact n3
structure DW (F : Tf) (H : Hp) (td te : Addr) (v : Int) (W E : List (Key × V)) (c : Nat) : Prop where
  ht : H td = some (.dK W)
  he : H te = some (.dK E)
  wt : WinOk F v W
  we : WinOk F (v - 1) E
  lt : W.length ≤ c
  le : E.length ≤ c
theorem DW.kp {F : Tf} {l : Addr} {H H' : Hp} {td te : Addr} {v : Int} {W E : List (Key × V)} {c : Nat} (d : DW F H td te v W E c) (k : Kp l H H') (n1 : td ≠ l) (n2 : te ≠ l) : DW F H' td te v W E c :=
  ⟨k _ _ d.ht n1, k _ _ d.he n2, d.wt, d.we, d.lt, d.le⟩
theorem DW.at {F : Tf} {H : Hp} {td te : Addr} {v : Int} {W E : List (Key × V)} {c : Nat} (d : DW F H td te v W E c) {i : Nat} : H (two i td te) = some (.dK (two i W E)) ∧ (two i W E).length ≤ c := by
  unfold two
  split
  · exact ⟨d.ht, d.lt⟩
  · exact ⟨d.he, d.le⟩
theorem DW.mono {F : Tf} {H : Hp} {td te : Addr} {v : Int} {W E : List (Key × V)} {c c' : Nat} (d : DW F H td te v W E c) (h : c ≤ c') : DW F H td te v W E c' := ⟨d.ht, d.he, d.wt, d.we, Nat.le_trans d.lt h, Nat.le_trans d.le h⟩
theorem DW.put {F : Tf} {H : Hp} {td te : Addr} {v : Int} {W E : List (Key × V)} {c i : Nat} {z y : Str} (d : DW F H td te v W E c) (ne : td ≠ te) (hi : i < 2) (hc : c < 2000)
    (h : 1 ≤ (cs z).length ∧ ((cs z).length : Int) ≤ v - (i : Int) ∧ Over F (cs z) ∧ (∃ p, F y = some p) ∧ ∃ r, cs z = cs y ++ r) :
    ∃ W' E', DW F (L2.upd H (two i td te) (.dK (putK (two i W E) (Sum.inr z) (.str y)))) td te v W' E' (c + 1) := by
  have hlt := d.lt
  have hle := d.le
  rcases (by omega : i = 0 ∨ i = 1) with e | e
  · subst e
    refine ⟨_, _, upd_same, (upd_ne ne.symm).trans d.he, d.wt.put (by omega) ?_, d.we, Nat.le_trans put_len (by show W.length + 1 ≤ c + 1; omega), Nat.le_succ_of_le d.le⟩
    exact ⟨h.1, by have := h.2.1; omega, h.2.2⟩
  · subst e
    refine ⟨_, _, (upd_ne ne).trans d.ht, upd_same, d.wt, d.we.put (by omega) ?_, Nat.le_succ_of_le d.lt, Nat.le_trans put_len (by show E.length + 1 ≤ c + 1; omega)⟩
    exact ⟨h.1, by have := h.2.1; omega, h.2.2⟩
theorem pl_two {d o td te : Addr} {v : Int} {i : Nat} : valV (planKV d o v td te) (Sum.inr (two i ("table" : Str) ("ends" : Str))) = some (.ref (two i td te)) := by
  unfold two
  split
  · exact pl_table
  · exact pl_ends
structure TxAt (C CU : Addr) (H : Hp) (c : Addr) (kvs : List (Key × V)) (ord : List Str) (v : Nat) (W Y : List (Key × V)) (z : Str) (ys : List Str) : Prop where
  cut : CutAt C CU H c kvs ord (v : Int) W Y
  run : RunC (tellS ord W Y) v (cs z) ys
  len : z.length ≤ 500
  ov : Over (tfD kvs) (cs z)
  all : ∀ y ∈ ys, ∃ p, tfD kvs y = some p
theorem TxAt.at {C CU : Addr} {H : Hp} {c : Addr} {kvs : List (Key × V)} {ord : List Str} {v : Nat} {W Y : List (Key × V)} {z : Str} {ys : List Str} (A : TxAt C CU H c kvs ord v W Y z ys) : RunAt C CU H c kvs z ys :=
  ⟨Nat.le_trans A.len (by decide), A.ov, A.all, ord, v, W, Y, A.cut, A.run⟩
theorem TxAt.re {C CU : Addr} {H H' : Hp} {c : Addr} {kvs : List (Key × V)} {ord : List Str} {v : Nat} {W Y : List (Key × V)} {z : Str} {ys : List Str} (A : TxAt C CU H c kvs ord v W Y z ys) (B : CutAt C CU H' c kvs ord (v : Int) W Y) : TxAt C CU H' c kvs ord v W Y z ys :=
  ⟨B, A.run, A.len, A.ov, A.all⟩
theorem TxAt.same {C CU : Addr} {H H' : Hp} {c : Addr} {kvs : List (Key × V)} {ord : List Str} {v : Nat} {W Y : List (Key × V)} {z : Str} {ys : List Str} (A : TxAt C CU H c kvs ord v W Y z ys) (s : Same H H') : TxAt C CU H' c kvs ord v W Y z ys :=
  A.re (A.cut.same s)
theorem tx_ex {C CU : Addr} {H : Hp} {c : Addr} {kvs : List (Key × V)} {ord : List Str} {v : Nat} {W Y : List (Key × V)} {z : Str} (A : CutAt C CU H c kvs ord (v : Int) W Y) (av : arePrices kvs = true) (v1 : 1 ≤ v) (hz : z.length ≤ 500) (ov : Over (tfD kvs) (cs z)) : ∃ ys, TxAt C CU H c kvs ord v W Y z ys := by
  obtain ⟨_, al, _, _⟩ := ap_parts av
  obtain ⟨ys, run, hall⟩ := run_ex A.wt A.we al A.op v1 _ (cs z) (Nat.le_refl _) ov
  exact ⟨ys, A, run, hz, ov, hall⟩
def spEnds (C CU : Addr) : Sp := fun vs H Q _ => ∃ c kvs z ys, vs = [.ref c, .str z] ∧ RunAt C CU H c kvs z ys ∧ z.length ≤ 500 ∧ ∀ H', Same H H' → Q (.bl true) H'
def spFront (C CU : Addr) : Sp := fun vs H Q _ => ∃ (pc c : Addr) (kvs : List (Key × V)) (ord : List Str) (v : Nat) (W Y : List (Key × V)) (z1 z2 : Str) (n : Nat) (ys zs : List Str), vs = [.ref pc, .ref c, .str z1, .str z2, .int (n : Int)] ∧
  PlanAt H pc kvs ord v W Y ∧ TxAt C CU H c kvs ord v W Y z1 ys ∧ TxAt C CU H c kvs ord v W Y z2 zs ∧ n ≤ z1.length ∧ n ≤ z2.length ∧ (cs z1).take n = (cs z2).take n ∧ ∀ H', Same H H' → Q (.bl true) H'
def spBehindR (C CU : Addr) : Sp := fun vs H Q _ => ∃ (c : Addr) (kvs : List (Key × V)) (ord : List Str) (v : Nat) (W Y : List (Key × V)) (o n r : Str) (ys zs : List Str), vs = [.ref c, .str o, .str n, .str r] ∧
  TxAt C CU H c kvs ord v W Y (o ++ r) ys ∧ TxAt C CU H c kvs ord v W Y (n ++ r) zs ∧ ∀ H', Same H H' → Q (.bl true) H'
def spRecutR (C CU : Addr) : Sp := fun vs H Q _ => ∃ (c : Addr) (kvs : List (Key × V)) (z g n : Str) (a b : Nat) (ys zs : List Str), vs = [.ref c, .str z, .int (a : Int), .int (b : Int), .str g] ∧ a ≤ b ∧ b ≤ z.length ∧ Over (tfD kvs) (cs g) ∧ g.length ≤ 500 ∧ z.length ≤ 500 ∧ cs n = (cs z).take a ++ cs g ++ (cs z).drop b ∧ RunAt C CU H c kvs z ys ∧ RunAt C CU H c kvs n zs ∧ n.length ≤ 500 ∧
  ∀ H', Same H H' → Q (.bl true) H'
def spEditPlan (T : List (Addr × Str)) (K : PySem.W.Frag) : Sp := fun vs H Q _ => ∃ (l sa : Addr) (n : Nat), vs = [.ref l, .ref sa] ∧ Tabs T H ∧ sa ≠ l ∧ SqL K H sa (([0, 9, 9, 9, 9] : List Int).map V.int) ∧ Dice H l (n + 700) ∧
  ∀ p (kvs : List (Key × V)) (ord : List Str) (v : Nat) (W Y : List (Key × V)) H', PlanAt H' p kvs ord v W Y → KpU l H H' → Tabs T H' → Dice H' l n → Q (.ref p) H'
def spCellE (T : List (Addr × Str)) (K : PySem.W.Frag) : Sp := fun vs H Q _ => ∃ (l sa : Addr) (ns : List Int) (n : Nat), vs = [.ref l, .ref sa] ∧ Tabs T H ∧ sa ≠ l ∧ SqL K H sa (ns.map V.int) ∧ 1 ≤ ns.length ∧ ns.length ≤ 63 ∧ (∀ x ∈ ns, 0 ≤ x) ∧ Dice H l (n + 2000) ∧
  ∀ H', KpU l H H' → Tabs T H' → Dice H' l n → Q (.bl true) H'
theorem shaped_lE (is : List Int) : SeqAt.shaped (.list (is.map PyData.int)) = true := by
  have h1 : PyData.canLayAll0 (is.map PyData.int) = true := by
    induction is with
    | nil => rfl
    | cons i r ih =>
      show (PyData.canLay0 (.int i) && _) = true
      rw [ih]
      rfl
  have h2 : PyData.depthAll (is.map PyData.int) ≤ 1 := by
    induction is with
    | nil => simp [PyData.depthAll]
    | cons i r ih =>
      have ih' := ih (by
        have h3 : (PyData.canLay0 (.int i) && PyData.canLayAll0 (r.map PyData.int)) = true := h1
        rw [Bool.and_eq_true] at h3
        exact h3.2)
      simp only [List.map_cons, PyData.depthAll, PyData.depth]
      omega
  unfold SeqAt.shaped
  rw [Bool.and_eq_true, decide_eq_true_eq]
  refine ⟨h1, ?_⟩
  simp only [PyData.depth]
  omega
theorem eqD_sameE {K : PySem.W.Frag} {H : Hp} {x y : V} {d : PyData} {Q : VK} (hx : Dp K H x d) (hy : Dp K H y d) (s : SeqAt.shaped d = true) (q : Q (.bl true) H) : rEqD K x y H Q := by
  refine ⟨d, d, hx, hy, s, s, ?_⟩
  rw [SeqAt.eqv_refl _ (SeqAt.canLay_of_shaped s)]
  exact q
theorem cutV_win {xs : List V} {q : Nat} (h : q < xs.length) : cutV xs (some (q : Int)) (some ((q : Int) + 1)) = (xs.take (q + 1)).drop q := by
  unfold cutV
  rw [show HT.sIx xs.length 0 (some (q : Int)) = q by rw [sIx_pos (by omega), Int.toNat_natCast]; omega,
    show HT.sIx xs.length xs.length (some ((q : Int) + 1)) = q + 1 by rw [sIx_pos (by omega)]; omega]
  rw [List.drop_take]
theorem rSlA_any {K : PySem.W.Frag} {H : Hp} {a : Addr} {xs : List V} {lo hi : Option Int} {Q : VK} (h : SqT K H a xs) (q : ∀ p H', SqT K H' p (cutV xs lo hi) → Same H H' → Q (.ref p) H') : rSlA K (.ref a) lo hi H Q :=
  ⟨a, xs, rfl, h, fun e => q a H (by
    unfold cutV
    rw [e.1, e.2, List.drop_zero, Nat.sub_zero, List.take_length]
    exact h) (Same.refl _), fun _ p hp => q p _ (SqT.of upd_same) (same_new hp)⟩
theorem atI_firstE {xs : List V} {v : V} (h : xs[0]? = some v) : atI xs 0 = some v := by
  exact at_of (j := 0) rfl h
theorem atI_lastE {xs : List V} {v : V} (h : xs.getLast? = some v) : atI xs (-1) = some v := by
  obtain ⟨r, e⟩ := List.getLast?_eq_some_iff.mp h
  rw [e]
  exact atI_last
theorem inV_intE {x : Int} : ∀ {xs : List Int}, inV (.int x) (xs.map V.int) = decide (x ∈ xs)
  | [] => by simp [inV]
  | y :: r => by
    have ih := inV_intE (x := x) (xs := r)
    unfold inV at ih ⊢
    rw [List.map_cons, List.any_cons, ih]
    show (eqV (.int y) (.int x) || _) = _
    by_cases e : y = x
    · subst e
      simp [eqV]
    · have e' : x ≠ y := fun q => e q.symm
      simp [eqV, e, e']
theorem flat_intE {xs : List Int} : (xs.map V.int).all flatV = true := by
  rw [List.all_map, List.all_eq_true]
  intro x _
  rfl
theorem rCatA_any {K : PySem.W.Frag} {H : Hp} {a b : Addr} {xs ys : List V} {Q : VK} (ha : SqT K H a xs) (hb : SqT K H b ys) (hl : xs.length + ys.length ≤ sizeLine) (q : ∀ p H', SqT K H' p (xs ++ ys) → Same H H' → Q (.ref p) H') : rCatA K (.ref a) (.ref b) H Q :=
  ⟨a, b, xs, ys, rfl, rfl, ha, hb, hl, fun e => q b H (by rw [e]; exact hb) (Same.refl _), fun _ e => q a H (by rw [e, List.append_nil]; exact ha) (Same.refl _), fun _ _ p hp => q p _ (SqT.of upd_same) (same_new hp)⟩
theorem ne_nilE {x : Str} {r : List Str} : PyData.eqv (.tuple ((x :: r).map PyData.str)) (.tuple []) = false := rfl
theorem gone_sub {ys zs : List Str} : ∀ y ∈ goneL ys zs, y ∈ ys := fun _ h => List.mem_of_mem_drop (List.mem_of_mem_take h)
theorem came_sub {ys zs : List Str} : ∀ y ∈ cameL ys zs, y ∈ zs := fun _ h => List.mem_of_mem_drop (List.mem_of_mem_take h)
theorem join_chE : ∀ zs : List Nat, ((zs.map ch).map cs).flatten = zs
  | [] => rfl
  | c :: r => by
    have ih := join_chE r
    rw [List.map_cons, List.map_cons, List.flatten_cons, ih]
    simp [cs]
theorem over_take {F : Tf} {l : List Nat} {n : Nat} (h : Over F l) : Over F (l.take n) := fun x hx => h x (List.mem_of_mem_take hx)
theorem over_drop {F : Tf} {l : List Nat} {n : Nat} (h : Over F l) : Over F (l.drop n) := fun x hx => h x (List.mem_of_mem_drop hx)
theorem over_appE {F : Tf} {l m : List Nat} (h : Over F l) (k : Over F m) : Over F (l ++ m) := fun x hx => (List.mem_append.mp hx).elim (h x) (k x)
theorem cutV_upE {xs : List V} {i : Nat} : cutV xs none (some (i : Int)) = xs.take i := by
  unfold cutV
  rw [show HT.sIx xs.length xs.length (some (i : Int)) = min i xs.length by rw [sIx_pos (by omega), Int.toNat_natCast]]
  show (xs.drop 0).take (min i xs.length - 0) = _
  rw [List.drop_zero, Nat.sub_zero]
  rcases Nat.le_total i xs.length with h | h
  · rw [Nat.min_eq_left h]
  · rw [Nat.min_eq_right h, List.take_length, List.take_of_length_le h]
end G
namespace K61
open PySem PySem.Spec PyProof.Rows L2 G LamX
open L2 (St)

def top (i : Nat) : Stmt := PySem.Challenge.pw_cutbehind_k61_whole_edits_move_what_was.main.body.getD i (.Pass ⟨0, 0, 0, 0⟩)
abbrev s_is_integer : Stmt := top 4
abbrev s_is_word : Stmt := top 6
abbrev s_is_text : Stmt := top 7
abbrev s_is_piece : Stmt := top 8
abbrev s_is_integer_within : Stmt := top 5
abbrev s_is_price : Stmt := top 23
abbrev s_are_prices : Stmt := top 24
abbrev s_Book___init__ : Stmt := inClass (top 32) 0
abbrev s_require_book : Stmt := top 28
abbrev s_is_text_over : Stmt := top 27
abbrev s_require_text : Stmt := top 29
abbrev s_Book_accepts : Stmt := inClass (top 32) 7
abbrev s_is_order : Stmt := top 36
abbrev s_is_view : Stmt := top 37
abbrev s_is_table : Stmt := top 38
abbrev s_Cutter___init__ : Stmt := inClass (top 40) 0
abbrev s_Cutter_told_by : Stmt := inClass (top 40) 8
abbrev s_Cutter_cut_in : Stmt := inClass (top 40) 9
abbrev s_Cutter_price_in : Stmt := inClass (top 40) 10
abbrev s_Cutter_cut : Stmt := inClass (top 40) 12
abbrev s_Cutter___call__ : Stmt := inClass (top 40) 13
abbrev s_Cutter_price : Stmt := inClass (top 40) 14
abbrev s_require_cutter : Stmt := top 39
abbrev s_boundaries_in : Stmt := top 42
abbrev s_boundaries : Stmt := top 43
abbrev s_shared_start : Stmt := top 46
abbrev s_common_in : Stmt := top 44
abbrev s_common_boundary : Stmt := top 45
abbrev s_cuts_compared : Stmt := top 47
abbrev s_recut : Stmt := top 48
abbrev s__law_reel : Stmt := top 50
abbrev s__law_spin : Stmt := top 51
abbrev s__law_pick : Stmt := top 52
abbrev s__law_some : Stmt := top 53
abbrev s__law_text : Stmt := top 54
abbrev s__law_signs : Stmt := top 55
abbrev s__law_prices : Stmt := top 56
abbrev s__law_plan : Stmt := top 57
abbrev s__law_cutter : Stmt := top 58
abbrev s__law_alphabet : Stmt := top 60
abbrev s__law_edit_plan : Stmt := top 59
abbrev s__law_ends_right : Stmt := top 61
abbrev s__law_front_right : Stmt := top 62
abbrev s__law_behind_right : Stmt := top 63
abbrev s__law_recut_right : Stmt := top 64
abbrev s__law_cell_right : Stmt := top 65
abbrev s_law : Stmt := top 66
structure Txt (K : PySem.W.Frag) (mg : Str → Option Value) (C CU : Addr) : Prop where
  cl : Cls K C
  ic : C8.InsC K C
  n_own_prices : NoAttr K C "own_prices"
  n_own_pieces : NoAttr K C "own_pieces"
  n_own_alphabet : NoAttr K C "own_alphabet"
  n_own_longest : NoAttr K C "own_longest"
  n_own_dearest : NoAttr K C "own_dearest"
  gC : mg "Book" = some (.ref C)
  clU : Cls K CU
  u_own_book : NoAttr K CU "own_book"
  u_own_order : NoAttr K CU "own_order"
  u_own_view : NoAttr K CU "own_view"
  u_own_table : NoAttr K CU "own_table"
  u_own_ends : NoAttr K CU "own_ends"
  u_own_sizes : NoAttr K CU "own_sizes"
  gU : mg "Cutter" = some (.ref CU)
  icU : C8.InsC K CU
  b_abs : mg "abs" = none
  b_all : mg "all" = none
  b_bool : mg "bool" = none
  b_dict : mg "dict" = none
  b_int : mg "int" = none
  b_isinstance : mg "isinstance" = none
  b_len : mg "len" = none
  b_list : mg "list" = none
  b_max : mg "max" = none
  b_min : mg "min" = none
  b_range : mg "range" = none
  b_repr : mg "repr" = none
  b_sorted : mg "sorted" = none
  b_str : mg "str" = none
  b_sum : mg "sum" = none
  b_tuple : mg "tuple" = none
  b_zip : mg "zip" = none
  g_MAX_ALPHABET : ∃ t, mg "MAX_ALPHABET" = some (.int 4 t)
  g_MAX_PIECES : ∃ t, mg "MAX_PIECES" = some (.int 12 t)
  g_MAX_PRICE : ∃ t, mg "MAX_PRICE" = some (.int 99 t)
  g_MAX_SIGNS : ∃ t, mg "MAX_SIGNS" = some (.int 8000 t)
  g_MAX_VIEW : ∃ t, mg "MAX_VIEW" = some (.int 2000 t)
  g_MAX_WINDOWS : ∃ t, mg "MAX_WINDOWS" = some (.int 2000 t)
  g_PIECE_SIGNS : ∃ t, mg "PIECE_SIGNS" = some (.int 5 t)
  g_TEXT_SIGNS : ∃ t, mg "TEXT_SIGNS" = some (.int 8000 t)

section
variable {P : Program} {w : World} {K : PySem.W.Frag} {mg : Str → Option Value} {base : Heap} {C CU PT : Addr}
theorem sc_is_integer : FnScope ["value"] ["value"] (defScope s_is_integer) := ⟨rfl, rfl, rfl, by decide +kernel, rfl, by decide +kernel, by decide +kernel⟩
theorem ok_is_integer {f : Addr} {fd : FuncData} (F : Fun K "is_integer" "is_integer" s_is_integer f fd) (T : Txt K mg C CU) : FnOk P w K mg base CX0 1 f fd ["value"] (spIsI K isInteger) := by
  refine F.ok sc_is_integer (fun vs H Q E h => ?_) (fun cdv A outer s H vs Q E hr h => ?_)
  · obtain ⟨x, rfl, _⟩ := h
    rfl
  · have hu := hu_of hr
    obtain ⟨x, rfl, ty, k⟩ := h
    obtain ⟨t, ht, hs, hi, hb⟩ := id ty
    have k0 := k H (Same.refl H)
    refine ⟨_, (pss_cons (ps_if (PW.pt (pw_or (pt_val (pe_callB (g_isi K) (by rfl) T.b_isinstance (by decide +kernel) (pa_cons (pv 0) (pa_cons (pe_bltn (v := .ty "bool") rfl T.b_bool (by decide +kernel) rfl) pa_nil)))) (pw_or1 (pt_not (pt_val (pe_callB (g_isi K) (by rfl) T.b_isinstance (by decide +kernel) (pa_cons (pv 0) (pa_cons (pe_bltn (v := .ty "int") rfl T.b_int (by decide +kernel) rfl) pa_nil)))))))) (pss_one (ps_ret pe_bl)) pss_nil)
      (pss_one (ps_ret (pe_cmpR op_lt (pe_callB call_abs (by rfl) T.b_abs (by decide +kernel) (pa_cons (pv 0) pa_nil)) (pe_op op_powW pe_int pe_int) (nomark _))))), ?_⟩
    cases x with
    | bl b =>
      refine ⟨_, rfl, _, _, _, _, _, rfl, .ty _, ht, hb, _, rfl, ?_⟩
      exact k0
    | int i =>
      refine ⟨_, rfl, _, _, _, _, _, rfl, .ty _, ht, hb, _, rfl, ?_⟩
      refine ⟨_, rfl, _, _, _, _, _, rfl, .ty _, ht, hi, _, rfl, ?_⟩
      refine ⟨_, rfl, _, rfl, _, _, rfl, rfl, ⟨by decide, by decide +kernel⟩, _, _, rfl, rfl, ?_⟩
      have e : decide ((if i < 0 then -i else i) < (10 : Int) ^ (60 : Int).toNat) = isInteger (.int i) := abs_lt i
      rw [← e] at k0
      exact k0
    | _ =>
      refine ⟨_, rfl, _, _, _, _, _, rfl, .ty _, ht, hb, _, rfl, ?_⟩
      refine ⟨_, rfl, _, _, _, _, _, rfl, .ty _, ht, hi, _, rfl, ?_⟩
      exact k0
theorem sc_is_word : FnScope ["value", "letter"] ["value"] (defScope s_is_word) := ⟨rfl, rfl, rfl, by decide +kernel, rfl, by decide +kernel, by decide +kernel⟩
theorem ok_is_word {f : Addr} {fd : FuncData} (F : Fun K "is_word" "is_word" s_is_word f fd) (T : Txt K mg C CU) : FnOk P w K mg base CX0 1 f fd ["value"] (spIs K isWord) := by
  refine F.ok sc_is_word (fun vs H Q E h => ?_) (fun cdv A outer s H vs Q E hr h => ?_)
  · obtain ⟨x, rfl, _⟩ := h
    rfl
  · have hu := hu_of hr
    obtain ⟨x, rfl, ty, sz, k⟩ := h
    obtain ⟨t, ht, hs, hi, hb⟩ := id ty
    have k0 := k H (Same.refl H)
    refine ⟨_, (pss_one (ps_ret (pe_and (pe_callB (g_isi K) (by rfl) T.b_isinstance (by decide +kernel) (pa_cons (pv 0) (pa_cons (pe_bltn (v := .ty "str") rfl T.b_str (by decide +kernel) rfl) pa_nil))) (pe_and (pe_cmpR op_ne (pv 0) pe_str (nomark _)) (pe_one (pe_callB (g_all K rfl) (by rfl) T.b_all (by decide +kernel) (pa_cons (pe_lc (own := [("letter", 1)]) rfl sc_is_word.nd (pi_str (pv 0)) (blkOk_by (own := [("letter", 1)]) (N := ["value", "letter"]) (sc := defScope s_is_word) (by decide +kernel)) (fun _ _ _ _ _ => (pg_name (i := 1) sc_is_word.nd rfl (Or.inl rfl))) (fun _ _ _ _ _ => pts_nil) (fun _ _ _ _ _ => (pe_chain op_le_str op_le_str pe_str (pv 1) pe_str))) pa_nil))))))), ?_⟩
    cases x with
    | str z =>
      have sz' : z.length ≤ sizeLine := fits_sz sz
      refine ⟨_, rfl, _, _, _, _, _, rfl, .ty _, ht, hs, _, rfl, ?_⟩
      refine ⟨_, rfl, rfl, _, rfl, ?_⟩
      rw [v_str_ne]
      refine itB (fun e1 => ?_) (fun e1 => ?_)
      · refine ⟨_, rfl, _, rfl, fun D hD => ?_⟩
        refine lcp_str (fun c => .bl (lett c)) sz' (fun c acc N hc hN => ?_) ?_
        · refine ⟨_, rfl, _, _, rfl, rfl, _, rfl, ?_⟩
          show if (!decide (([c] : List Nat) < [97])) = true then _ else _
          rw [(lett_eq c).1]
          refine itB (fun e2 => ?_) (fun e2 => ?_)
          · refine ⟨_, _, rfl, rfl, ?_⟩
            show N (.bl (!decide (([122] : List Nat) < [c]))) _
            rw [(lett_eq c).2, ← lett_of e2]
            exact hN
          · rw [lett_no e2] at hN
            exact hN
        · refine ⟨_, (cs z).map lett, rfl, SqL.of (by rw [upd_same, List.map_map]; rfl), ?_⟩
          have e4 : ((cs z).map lett).all id = isWord (.str z) := by
            show _ = (!(cs z).isEmpty && (cs z).all lett)
            rw [e1, List.all_map]
            rfl
          rw [e4]
          exact k _ (same_new hD)
      · have e4 : isWord (.str z) = false := by
          show (!(cs z).isEmpty && (cs z).all lett) = false
          rw [e1]
          rfl
        rw [e4] at k0
        exact k0
    | _ =>
      refine ⟨_, rfl, _, _, _, _, _, rfl, .ty _, ht, hs, _, rfl, ?_⟩
      exact k0
theorem sc_is_text : FnScope ["value"] ["value"] (defScope s_is_text) := ⟨rfl, rfl, rfl, by decide +kernel, rfl, by decide +kernel, by decide +kernel⟩
theorem ok_is_text {f : Addr} {fd : FuncData} (F : Fun K "is_text" "is_text" s_is_text f fd) (T : Txt K mg C CU) (c_is_word : HasO P w K mg base CX0 1 "is_word" ["value"] (spIs K isWord)) : FnOk P w K mg base CX0 2 f fd ["value"] (spIs K isText) := by
  refine F.ok sc_is_text (fun vs H Q E h => ?_) (fun cdv A outer s H vs Q E hr h => ?_)
  · obtain ⟨x, rfl, _⟩ := h
    rfl
  · have hu := hu_of hr
    obtain ⟨x, rfl, ty, sz, k⟩ := h
    obtain ⟨t, ht, hs, hi, hb⟩ := id ty
    have k0 := k H (Same.refl H)
    refine ⟨_, (pss_cons (ps_if (PW.pt (pw_or (pt_not (pt_val (pe_callB (g_isi K) (by rfl) T.b_isinstance (by decide +kernel) (pa_cons (pv 0) (pa_cons (pe_bltn (v := .ty "str") rfl T.b_str (by decide +kernel) rfl) pa_nil))))) (pw_or1 (pt_cmpR op_gt (pe_callB call_len_str (by rfl) T.b_len (by decide +kernel) (pa_cons (pv 0) pa_nil)) (pe_glob (v := .int 8000) rfl T.g_TEXT_SIGNS.choose_spec ⟨_, rfl⟩) (nomark _))))) (pss_one (ps_ret pe_bl)) pss_nil)
      (pss_one (ps_ret (pe_or (pe_cmpR op_eq (pv 0) pe_str (nomark _)) (pe_one (pe_hasO c_is_word (hr.mono (by decide)) pass0 (pa_cons (pv 0) pa_nil))))))), ?_⟩
    cases x with
    | str z =>
      have sz' : z.length ≤ sizeLine := fits_sz sz
      refine ⟨_, rfl, _, _, _, _, _, rfl, .ty _, ht, hs, _, rfl, ?_⟩
      refine ⟨_, rfl, _, rfl, sz', _, _, rfl, rfl, _, rfl, ?_⟩
      refine itB (fun e1 => ?_) (fun e1 => ?_)
      · have e2 := of_decide_eq_true e1
        have e4 : isText (.str z) = false := by
          show (decide ((cs z).length ≤ 8000) && (cs z).all lett) = false
          rw [cs_len, decide_eq_false (by omega)]
          rfl
        rw [e4] at k0
        exact k0
      · have e2 := of_decide_eq_false e1
        have e4 : isText (.str z) = (cs z).all lett := by
          show (decide ((cs z).length ≤ 8000) && (cs z).all lett) = _
          rw [cs_len, decide_eq_true (by omega)]
          rfl
        refine ⟨_, rfl, rfl, _, rfl, ?_⟩
        rw [v_str_eq]
        refine itB (fun e3 => ?_) (fun e3 => ?_)
        · have e5 : isText (.str z) = true := by
            rw [e4]
            cases hz : cs z with
            | nil => rfl
            | cons a l =>
              rw [hz] at e3
              cases e3
          rw [e5] at k0
          exact k0
        · refine ⟨_, rfl, _, rfl, ty, sz, fun H' s' => ?_⟩
          have e5 : isWord (.str z) = isText (.str z) := by
            rw [e4]
            show (!(cs z).isEmpty && (cs z).all lett) = _
            rw [e3]
            rfl
          rw [e5]
          exact k _ s'
    | _ =>
      refine ⟨_, rfl, _, _, _, _, _, rfl, .ty _, ht, hs, _, rfl, ?_⟩
      exact k0
theorem sc_is_piece : FnScope ["value"] ["value"] (defScope s_is_piece) := ⟨rfl, rfl, rfl, by decide +kernel, rfl, by decide +kernel, by decide +kernel⟩
theorem ok_is_piece {f : Addr} {fd : FuncData} (F : Fun K "is_piece" "is_piece" s_is_piece f fd) (T : Txt K mg C CU) (c_is_word : HasO P w K mg base CX0 1 "is_word" ["value"] (spIs K isWord)) : FnOk P w K mg base CX0 2 f fd ["value"] (spIs K isPiece) := by
  refine F.ok sc_is_piece (fun vs H Q E h => ?_) (fun cdv A outer s H vs Q E hr h => ?_)
  · obtain ⟨x, rfl, _⟩ := h
    rfl
  · have hu := hu_of hr
    obtain ⟨x, rfl, ty, sz, k⟩ := h
    obtain ⟨t, ht, hs, hi, hb⟩ := id ty
    have k0 := k H (Same.refl H)
    refine ⟨_, (pss_one (ps_ret (pe_and (pe_callB (g_isi K) (by rfl) T.b_isinstance (by decide +kernel) (pa_cons (pv 0) (pa_cons (pe_bltn (v := .ty "str") rfl T.b_str (by decide +kernel) rfl) pa_nil))) (pe_and (pe_chain op_le op_le pe_int (pe_callB call_len_str (by rfl) T.b_len (by decide +kernel) (pa_cons (pv 0) pa_nil)) (pe_glob (v := .int 5) rfl T.g_PIECE_SIGNS.choose_spec ⟨_, rfl⟩)) (pe_one (pe_hasO c_is_word (hr.mono (by decide)) pass0 (pa_cons (pv 0) pa_nil))))))), ?_⟩
    cases x with
    | str z =>
      have sz' : z.length ≤ sizeLine := fits_sz sz
      refine ⟨_, rfl, _, _, _, _, _, rfl, .ty _, ht, hs, _, rfl, ?_⟩
      refine ⟨_, rfl, _, rfl, sz', _, _, rfl, rfl, _, rfl, ?_⟩
      refine itB (fun e1 => ?_) (fun e1 => ?_)
      · have e1' := of_decide_eq_true e1
        refine ⟨_, _, rfl, rfl, _, rfl, ?_⟩
        refine itB (fun e2 => ?_) (fun e2 => ?_)
        · have e2' := of_decide_eq_true e2
          refine ⟨_, rfl, _, rfl, ty, sz, fun H' s' => ?_⟩
          have e5 : isWord (.str z) = isPiece (.str z) := by
            show (!(cs z).isEmpty && (cs z).all lett) = (decide (1 ≤ (cs z).length) && decide ((cs z).length ≤ 5) && (cs z).all lett)
            rw [cs_len, decide_eq_true (by omega), decide_eq_true (by omega)]
            have : (cs z).isEmpty = false := by
              cases hz : cs z with
              | nil =>
                have := cs_len z
                rw [hz] at this
                simp at this
                omega
              | cons a l => rfl
            rw [this]
            rfl
          rw [e5]
          exact k _ s'
        · have e2' := of_decide_eq_false e2
          have e4 : isPiece (.str z) = false := by
            show (decide (1 ≤ (cs z).length) && decide ((cs z).length ≤ 5) && (cs z).all lett) = false
            rw [cs_len, decide_eq_false (by omega : ¬ z.length ≤ 5), Bool.and_false]
            rfl
          rw [e4] at k0
          exact k0
      · have e1' := of_decide_eq_false e1
        have e4 : isPiece (.str z) = false := by
          show (decide (1 ≤ (cs z).length) && decide ((cs z).length ≤ 5) && (cs z).all lett) = false
          rw [cs_len, decide_eq_false (by omega : ¬ 1 ≤ z.length)]
          rfl
        rw [e4] at k0
        exact ⟨_, rfl, k0⟩
    | _ =>
      refine ⟨_, rfl, _, _, _, _, _, rfl, .ty _, ht, hs, _, rfl, ?_⟩
      exact k0
theorem sc_is_integer_within : FnScope ["value", "least", "most"] ["value", "least", "most"] (defScope s_is_integer_within) := ⟨rfl, rfl, rfl, by decide +kernel, rfl, by decide +kernel, by decide +kernel⟩
theorem ok_is_integer_within {f : Addr} {fd : FuncData} (F : Fun K "is_integer_within" "is_integer_within" s_is_integer_within f fd) (T : Txt K mg C CU) (c_is_integer : HasO P w K mg base CX0 1 "is_integer" ["value"] (spIsI K isInteger)) : FnOk P w K mg base CX0 2 f fd ["value", "least", "most"] (spWithin K) := by
  refine F.ok sc_is_integer_within (fun vs H Q E h => ?_) (fun cdv A outer s H vs Q E hr h => ?_)
  · obtain ⟨x, a, b, rfl, _⟩ := h
    rfl
  · have hu := hu_of hr
    obtain ⟨x, a, b, rfl, ty, k⟩ := h
    refine ⟨_, (pss_one (ps_ret (pe_and (pe_hasO c_is_integer (hr.mono (by decide)) pass0 (pa_cons (pv 0) pa_nil)) (pe_one (pe_chain op_le op_le (pv 1) (pv 0) (pv 2)))))), ?_⟩
    refine ⟨_, rfl, _, rfl, ty, fun H1 s1 => ⟨_, rfl, ?_⟩⟩
    have k1 := k H1 s1
    cases x with
    | int i =>
      refine itB (fun e => ?_) (fun e => ?_)
      · have e' : decide (i.natAbs < 10 ^ 60) = true := e
        have e2 : inRange (.int i) a b = (decide (a ≤ i) && decide (i ≤ b)) := by
          show (decide (i.natAbs < 10 ^ 60) && (decide (a ≤ i) && decide (i ≤ b))) = _
          rw [e']
          rfl
        rw [e2] at k1
        exact chain_le (a := a) (b := i) (c := b) (fun N hN => ⟨_, rfl, hN⟩) (fun N hN => ⟨_, rfl, hN⟩) (fun N hN => ⟨_, rfl, hN⟩) k1
      · have e' : decide (i.natAbs < 10 ^ 60) = false := e
        have e2 : inRange (.int i) a b = false := by
          show (decide (i.natAbs < 10 ^ 60) && (decide (a ≤ i) && decide (i ≤ b))) = _
          rw [e']
          rfl
        rw [e2] at k1
        exact k1
    | _ => exact k1
theorem sc_is_price : FnScope ["value"] ["value"] (defScope s_is_price) := ⟨rfl, rfl, rfl, by decide +kernel, rfl, by decide +kernel, by decide +kernel⟩
theorem ok_is_price {f : Addr} {fd : FuncData} (F : Fun K "is_price" "is_price" s_is_price f fd) (T : Txt K mg C CU) (c_is_integer_within : HasO P w K mg base CX0 2 "is_integer_within" ["value", "least", "most"] (spWithin K)) : FnOk P w K mg base CX0 3 f fd ["value"] (spIsI K isPrice) := by
  refine F.ok sc_is_price (fun vs H Q E h => ?_) (fun cdv A outer s H vs Q E hr h => ?_)
  · obtain ⟨x, rfl, _⟩ := h
    rfl
  · have hu := hu_of hr
    obtain ⟨x, rfl, ty, k⟩ := h
    refine ⟨_, (pss_one (ps_ret (pe_hasO c_is_integer_within (hr.mono (by decide)) pass0 (pa_cons (pv 0) (pa_cons pe_int (pa_cons (pe_glob (v := .int 99) rfl T.g_MAX_PRICE.choose_spec ⟨_, rfl⟩) pa_nil)))))), ?_⟩
    exact ⟨_, rfl, x, 1, 99, rfl, ty, k⟩
theorem sc_are_prices : FnScope ["value", "piece", "sign", "price"] ["value"] (defScope s_are_prices) := ⟨rfl, rfl, rfl, by decide +kernel, rfl, by decide +kernel, by decide +kernel⟩
theorem ok_are_prices {f : Addr} {fd : FuncData} (F : Fun K "are_prices" "are_prices" s_are_prices f fd) (T : Txt K mg C CU) (c_is_piece : HasO P w K mg base CX0 2 "is_piece" ["value"] (spIs K isPiece)) (c_is_price : HasO P w K mg base CX0 3 "is_price" ["value"] (spIsI K isPrice)) : FnOk P w K mg base CX0 4 f fd ["value"] (spArePrices K) := by
  refine F.ok sc_are_prices (fun vs H Q E h => ?_) (fun cdv A outer s H vs Q E hr h => ?_)
  · obtain ⟨x, rfl, _⟩ := h
    rfl
  · have hu := hu_of hr
    obtain ⟨x, rfl, hx⟩ := h
    refine ⟨_, (pss_cons (ps_if (PW.pt (pw_or (pt_not (pt_val (pe_callB (g_isi K) (by rfl) T.b_isinstance (by decide +kernel) (pa_cons (pv 0) (pa_cons (pe_bltn (v := .ty "dict") rfl T.b_dict (by decide +kernel) rfl) pa_nil))))) (pw_or1 (pt_not (pt_chain op_le op_le pe_int (pe_callB call_lenF (by rfl) T.b_len (by decide +kernel) (pa_cons (pv 0) pa_nil)) (pe_glob (v := .int 12) rfl T.g_MAX_PIECES.choose_spec ⟨_, rfl⟩)))))) (pss_one (ps_ret pe_bl)) pss_nil)
      (pss_cons (ps_if (pt_not (pt_val (pe_callB (g_all K rfl) (by rfl) T.b_all (by decide +kernel) (pa_cons (pe_lock (by exact (pe_lc (own := [("piece", 1), ("price", 3)]) rfl sc_are_prices.nd (pi_items (pv 0)) (blkOk_by (own := [("piece", 1), ("price", 3)]) (N := ["value", "piece", "sign", "price"]) (sc := defScope s_are_prices) (by decide +kernel)) (fun _ _ _ _ _ => (g_tup K (n := 2) rfl (pgs_cons (pg_name (i := 1) sc_are_prices.nd rfl (Or.inl rfl)) (pgs_cons (pg_name (i := 3) sc_are_prices.nd rfl (Or.inl rfl)) pgs_nil)))) (fun _ _ _ _ _ => pts_nil) (fun _ _ _ _ _ => (pe_and (pe_hasO c_is_piece (hr.mono (by decide)) pass0 (pa_cons (pv 1) pa_nil)) (pe_one (pe_hasO c_is_price (hr.mono (by decide)) pass0 (pa_cons (pv 3) pa_nil)))))))) pa_nil)))) (pss_one (ps_ret pe_bl)) pss_nil)
      (pss_cons (ps_if (pt_cmpR op_gt (pe_callB (g_len_seq K) (by rfl) T.b_len (by decide +kernel) (pa_cons (pe_lock (by exact (pe_lc (own := [("piece", 1)]) rfl sc_are_prices.nd (pi_keys (pv 0)) (blkOk_by (own := [("piece", 1)]) (N := ["value", "piece", "sign", "price"]) (sc := defScope s_are_prices) (by decide +kernel)) (fun _ _ _ _ _ => (pg_name (i := 1) sc_are_prices.nd rfl (Or.inl rfl))) (fun _ _ _ _ _ => (pts_one (pt_cmpR op_eq (pe_callB call_len_str (by rfl) T.b_len (by decide +kernel) (pa_cons (pv 1) pa_nil)) pe_int (nomark _)))) (fun _ _ _ _ _ => (pv 1))))) pa_nil)) (pe_glob (v := .int 4) rfl T.g_MAX_ALPHABET.choose_spec ⟨_, rfl⟩) (nomark _)) (pss_one (ps_ret pe_bl)) pss_nil)
      (pss_one (ps_ret (pe_callB (g_all K rfl) (by rfl) T.b_all (by decide +kernel) (pa_cons (pe_lock (by exact (pe_lc2 (own := [("piece", 1), ("sign", 2)]) (vs1 := [2]) rfl sc_are_prices.nd (pi_keys (pv 0)) (blkOk_by (own := [("piece", 1), ("sign", 2)]) (N := ["value", "piece", "sign", "price"]) (sc := defScope s_are_prices) (by decide +kernel)) (by decide) (fun _ _ _ _ _ => (pg_name (i := 1) sc_are_prices.nd rfl (Or.inl rfl))) (fun _ _ _ _ _ => pts_nil) (fun _ _ _ _ _ => (pi_str (pv 1))) (fun _ _ _ _ _ => (pg_name (i := 2) sc_are_prices.nd rfl (Or.inl rfl))) (fun _ _ _ _ _ => pts_nil) (fun _ _ _ _ _ => (pe_cmp (pc_din hu (pv 2) (pv 0))))))) pa_nil))))))), ?_⟩
    rcases hx with ⟨t, ht, hdict, k⟩ | ⟨a, kvs, rfl, ha, hn, ok, k⟩
    · refine ⟨_, rfl, _, _, _, _, _, rfl, .ty _, ht, hdict, _, rfl, ?_⟩
      exact k H (Same.refl H)
    refine ⟨_, rfl, _, _, _, _, _, rfl, .ty _, .base (.dK ha), kit_ty (show kitB "dict" "dict" = some true by decide +kernel), _, rfl, ?_⟩
    refine ⟨_, rfl, _, _, rfl, .inl ha, _, _, rfl, rfl, _, rfl, ?_⟩
    have k0 := k H (Same.refl H)
    have fz : ∀ od, (upd H a (.frz od (.dK kvs))) a = some (.frz od (.dK kvs)) := fun od => upd_same
    unfold arePrices at k k0
    -- 1 <= len(value) <= MAX_PIECES
    cases e1 : decide (1 ≤ (kvs.length : Int)) with
    | false =>
      rw [e1] at k0
      exact ⟨_, rfl, k0⟩
    | true =>
    rw [e1] at k k0
    refine ⟨_, _, rfl, rfl, _, rfl, ?_⟩
    cases e2 : decide ((kvs.length : Int) ≤ 12) with
    | false =>
      rw [e2] at k0
      exact k0
    | true =>
    rw [e2] at k k0
    -- the pieces and the prices
    refine ⟨a, _, ha, trivial, fun od => ?_⟩
    refine ⟨_, rfl, a, od, kvs, rfl, upd_same, fun D hD => ?_⟩
    have nDa := lock_ne hD
    refine lcs kvs walk_kv (fun kv => some (.bl (isPiece (kV kv.1) && isPrice kv.2))) hD (by omega) (fun H' s => s _ _ (fz od)) ?_ ?_
    · rintro i kv x H2 H3 hi s ⟨T, k', v', e, rfl, hT, rfl⟩ N M hN hM
      have ekv : kv = (k', v') := Option.some.inj (hi.symm.trans e)
      subst ekv
      obtain ⟨sz, tyv⟩ := ok _ (List.mem_of_getElem? hi)
      have sH : ∀ {H'}, Same H2 H' → Same (upd H a (.frz od (.dK kvs))) H' := fun z => s.trans z
      refine ⟨T, _, rfl, SqT.of upd_same, rfl, _, _, rfl, _, _, rfl, rfl, rfl, ?_⟩
      have sT : Same H2 (upd H2 T (.tup [kV k', v'])) := same_new hT
      refine ⟨_, rfl, _, rfl, tyd_key _, sz, fun H4 s4 => ⟨_, rfl, ?_⟩⟩
      refine itB (fun p1 => ?_) (fun p1 => ?_)
      · refine ⟨_, rfl, _, rfl, tyv _ (((Sim.lock ha).then s).then (sT.trans s4)), fun H5 s5 => ?_⟩
        refine hN _ _ ?_ (sT.trans (s4.trans s5))
        show some (V.bl (isPiece (kV k') && isPrice v')) = _
        rw [p1]
        rfl
      · refine hN _ _ ?_ (sT.trans s4)
        show some (V.bl (isPiece (kV k') && isPrice v')) = _
        rw [p1]
        rfl
    rintro H2 s2 e2'
    have S2 : Same H (upd H2 a (.dK kvs)) := unlock ha s2
    refine ⟨s2 _ _ (fz od), _, kvs.map (fun kv => isPiece (kV kv.1) && isPrice kv.2), rfl, SqL.of (by rw [upd_ne nDa, e2', List.map_map, List.filterMap_eq_map']; rfl), _, rfl, ?_⟩
    have k2 := k _ S2
    have a2 : (upd H2 a (.dK kvs)) a = some (.dK kvs) := upd_same
    generalize upd H2 a (.dK kvs) = H3 at S2 k2 a2 ⊢
    have e3' : ((kvs.map fun kv => isPiece (kV kv.1) && isPrice kv.2).all id) = (kvs.all fun kv => isPiece (kV kv.1) && isPrice kv.2) := by
      rw [List.all_map]
      rfl
    rw [e3']
    clear e3' e2' s2 H2 hD nDa k0 fz od D
    cases e3 : (kvs.all fun kv => isPiece (kV kv.1) && isPrice kv.2) with
    | false =>
      rw [e3] at k2
      exact k2
    | true =>
    rw [e3] at k k2
    have hk := keys_of e3
    have hp := keyStrs_piece e3
    have ln : (keyStrs kvs).length = kvs.length := by
      have h := congrArg List.length hk
      rw [List.length_map, List.length_map] at h
      exact h.symm
    -- how many single signs
    refine ⟨a, _, a2, trivial, fun od => ?_⟩
    refine ⟨_, rfl, a, od, rfl, .inl ⟨kvs, upd_same, fun D hD => ?_⟩⟩
    have nDa := lock_ne hD
    refine lcs kvs walk_keys (fun kv => match kv.1 with | .inr z => if decide ((cs z).length = 1) = true then some (.str z) else none | .inl _ => none) hD (by omega) (fun H' s => s _ _ upd_same) ?_ ?_
    · rintro i kv x H4 H5 hi s ⟨rfl, k', v', e, rfl⟩ N M hN hM
      have ekv : kv = (k', v') := Option.some.inj (hi.symm.trans e)
      subst ekv
      obtain ⟨z, hz⟩ : ∃ z, k' = Sum.inr z := by
        have h1 := congrArg (fun l => l[i]?) hk
        simp only [List.getElem?_map, hi] at h1
        cases h2 : (keyStrs kvs)[i]? with
        | none => rw [h2] at h1; cases h1
        | some z => rw [h2] at h1; exact ⟨z, Option.some.inj h1⟩
      subst hz
      have zs := (ok _ (List.mem_of_getElem? hi)).1
      refine ⟨rfl, _, rfl, _, rfl, fits_sz zs, rfl, _, rfl, ?_⟩
      rw [v_len_eq1]
      refine itB (fun q1 => ?_) (fun q1 => ?_)
      · refine ⟨_, rfl, hN _ _ ?_ (Same.refl _)⟩
        show (if decide ((cs z).length = 1) = true then some (V.str z) else none) = _
        rw [if_pos q1]
        rfl
      · refine hM _ ?_ (Same.refl _)
        show (if decide ((cs z).length = 1) = true then some (V.str z) else none) = _
        rw [if_neg (by rw [q1]; exact Bool.false_ne_true)]
    rintro H4 s4 e4
    have e5 : (kvs.filterMap fun kv => match kv.1 with | .inr z => if decide ((cs z).length = 1) = true then some (V.str z) else none | .inl _ => none) = ((keyStrs kvs).filter fun z => decide ((cs z).length = 1)).map V.str := singles kvs
    rw [e5] at e4
    have S4 : Same H (upd H4 a (.dK kvs)) := S2.trans (unlock a2 s4)
    refine ⟨s4 _ _ upd_same, _, _, rfl, .inl (SqL.of (by rw [upd_ne nDa]; exact e4)), _, _, rfl, rfl, _, rfl, ?_⟩
    have k4 := k _ S4
    have a4 : (upd H4 a (.dK kvs)) a = some (.dK kvs) := upd_same
    generalize upd H4 a (.dK kvs) = H5 at S4 k4 a4 ⊢
    clear e4 e5 s4 H4 hD nDa od D S2 k2 a2 H3
    rw [List.length_map]
    cases e6 : decide (((keyStrs kvs).filter fun z => decide ((cs z).length = 1)).length ≤ 4) with
    | false =>
      rw [e6] at k4
      refine itT (decide_eq_true (by have := of_decide_eq_false e6; omega)) ?_
      exact k4
    | true =>
    rw [e6] at k k4
    refine itF (decide_eq_false (by have := of_decide_eq_true e6; omega)) ?_
    -- each sign of each piece
    have fl := flat_len (zs := keyStrs kvs) fun z hz => (hp z hz).2.1
    refine ⟨a, _, a4, trivial, fun od => ?_⟩
    refine ⟨_, rfl, a, od, rfl, .inl ⟨kvs, upd_same, fun D hD => ?_⟩⟩
    have nDa := lock_ne hD
    refine lc2_ks (zs := keyStrs kvs) hk (fun c => .bl (valV kvs (Sum.inr (ch c))).isSome) upd_same hD (by omega) (fun _ => rfl) (fun _ _ => rfl) (fun _ => rfl) ?_ ?_
    · intro z hz c hc H6 s6 N hN
      exact ⟨_, rfl, _, rfl, a, _, rfl, Or.inl ⟨kvs, Sum.inr (ch c), Or.inr ⟨od, s6 _ _ upd_same⟩, rfl, rfl⟩, hN _ (Same.refl _)⟩
    rintro H6 s6 e7
    refine ⟨s6 _ _ upd_same, _, ((keyStrs kvs).map cs).flatten.map (fun c => (valV kvs (Sum.inr (ch c))).isSome), rfl, SqL.of (by rw [upd_ne nDa, e7, List.map_map]; rfl), ?_⟩
    rw [List.all_map]
    exact k _ (S4.trans (unlock a4 s6))
theorem sc_Book___init__ : FnScope ["self", "prices", "piece"] ["self", "prices"] (defScope s_Book___init__) := ⟨rfl, rfl, rfl, by decide +kernel, rfl, by decide +kernel, by decide +kernel⟩
theorem ok_Book___init__ {f : Addr} {fd : FuncData} (F : Fun K "__init__" "Book.__init__" s_Book___init__ f fd) (T : Txt K mg C CU) (c_are_prices : HasO P w K mg base CX0 4 "are_prices" ["value"] (spArePrices K)) : FnOk P w K mg base CX0 5 f fd ["self", "prices"] (spBook C K) := by
  refine F.ok sc_Book___init__ (fun vs H Q E h => ?_) (fun cdv A outer s H vs Q E hr h => ?_)
  · obtain ⟨b, dx, a, kvs, rfl, _⟩ := h
    rfl
  · have hu := hu_of hr
    obtain ⟨b, dx, a, kvs, rfl, hb, ha, ok, av, nd, k⟩ := h
    refine ⟨_, (pss_frz (pss_cons (ps_if (pt_not (pt_val (pe_hasO c_are_prices (hr.mono (by decide)) pass0 (pa_cons (pv 1) pa_nil)))) (pss_one ps_never) pss_nil)
      (pss_cons (ps_fld (pv 0) (pe_dc (own := [("piece", 2)]) rfl sc_Book___init__.nd (g_list K (pe_callB (g_sortedS K) (by rfl) T.b_sorted (by decide +kernel) (pa_cons (pe_callTy (call_listD rfl) (by rfl) T.b_list (by decide +kernel) (pa_cons (pv 1) pa_nil)) pa_nil))) (blkOk_by (own := [("piece", 2)]) (N := ["self", "prices", "piece"]) (sc := defScope s_Book___init__) (by decide +kernel)) (fun _ _ _ _ _ => (pg_name (i := 2) sc_Book___init__.nd rfl (Or.inl rfl))) (fun _ _ _ _ _ => pts_nil) (fun _ _ _ _ _ => (pv 2)) (fun _ _ _ _ _ => (pe_dget hu (pv 1) (pv 2) (fun _ _ => rfl)))) rfl)
      (pss_cons (ps_fld (pv 0) (pe_callTy (g_tuple_of K) (by rfl) T.b_tuple (by decide +kernel) (pa_cons (pe_callTy (call_listD rfl) (by rfl) T.b_list (by decide +kernel) (pa_cons (g_fld K (pv 0)) pa_nil)) pa_nil)) rfl)
      (pss_cons (ps_fld (pv 0) (pe_callTy (g_tuple_of K) (by rfl) T.b_tuple (by decide +kernel) (pa_cons (pe_lc (own := [("piece", 2)]) rfl sc_Book___init__.nd (g_tuple K (g_fld K (pv 0))) (blkOk_by (own := [("piece", 2)]) (N := ["self", "prices", "piece"]) (sc := defScope s_Book___init__) (by decide +kernel)) (fun _ _ _ _ _ => (pg_name (i := 2) sc_Book___init__.nd rfl (Or.inl rfl))) (fun _ _ _ _ _ => (pts_one (pt_cmpR op_eq (pe_callB call_len_str (by rfl) T.b_len (by decide +kernel) (pa_cons (pv 2) pa_nil)) pe_int (nomark _)))) (fun _ _ _ _ _ => (pv 2))) pa_nil)) rfl)
      (pss_cons (ps_fld (pv 0) (pe_callB (g_max K rfl) (by rfl) T.b_max (by decide +kernel) (pa_cons (pe_lc (own := [("piece", 2)]) rfl sc_Book___init__.nd (g_tuple K (g_fld K (pv 0))) (blkOk_by (own := [("piece", 2)]) (N := ["self", "prices", "piece"]) (sc := defScope s_Book___init__) (by decide +kernel)) (fun _ _ _ _ _ => (pg_name (i := 2) sc_Book___init__.nd rfl (Or.inl rfl))) (fun _ _ _ _ _ => pts_nil) (fun _ _ _ _ _ => (pe_callB call_len_str (by rfl) T.b_len (by decide +kernel) (pa_cons (pv 2) pa_nil)))) pa_nil)) rfl)
      (pss_one (ps_fld (pv 0) (pe_callB (g_max K rfl) (by rfl) T.b_max (by decide +kernel) (pa_cons (pe_callTy (call_listVw rfl) (by rfl) T.b_list (by decide +kernel) (pa_cons (g_bm0 K PySem.F.plainAttrs_dict PySem.F.slot_dict_values PySem.F.type_dict_values mt_values (g_fld K (pv 0))) pa_nil)) pa_nil)) rfl)))))))), ?_⟩
    obtain ⟨⟨n1, n2⟩, al, f4, fs⟩ := ap_parts av
    have nb : b ≠ a := fun e => by
      rw [e, ha] at hb
      cases hb
    refine ⟨_, rfl, _, rfl, .inr ⟨a, kvs, rfl, ha, by omega, ok, fun H1 s1 => ⟨_, congrArg V.bl av, ?_⟩⟩⟩
    have hk := keys_of al
    have hkV : (kvs.map fun kv => kV kv.1) = (keyStrs kvs).map V.str := by
      have h := congrArg (List.map kV) hk
      rw [List.map_map, List.map_map] at h
      exact h
    have ln : (keyStrs kvs).length = kvs.length := by
      have h := congrArg List.length hk
      rw [List.length_map, List.length_map] at h
      exact h.symm
    -- the prices
    refine ⟨_, rfl, a, kvs, rfl, .inl (s1 _ _ ha), fun p hp => ?_⟩
    refine ⟨p, keyStrs kvs, rfl, SqL.of (by rw [upd_same, hkV]), by omega, fun ys p2 pm so hp2 => ?_⟩
    refine ⟨p2, rfl, ⟨_, SqL.of upd_same⟩, fun D hD => ?_⟩
    have ly : ys.length = kvs.length := by rw [pm.length_eq, ln]
    have ndk : (keyStrs kvs).Nodup := by
      rw [hk] at nd
      exact nd_of_map nd
    have ndy : ys.Nodup := pm.nodup_iff.mpr ndk
    have s2 : Same H (upd (upd H1 p (.lst (kvs.map fun kv => kV kv.1))) p2 (.lst (ys.map V.str))) := (s1.trans (same_new hp)).trans (same_new hp2)
    have l2 : (upd (upd H1 p (.lst (kvs.map fun kv => kV kv.1))) p2 (.lst (ys.map V.str))) p2 = some (.lst (ys.map V.str)) := upd_same
    generalize (upd (upd H1 p (.lst (kvs.map fun kv => kV kv.1))) p2 (.lst (ys.map V.str))) = H2 at s2 l2 hD ⊢
    have nDb : D ≠ b := (ne_of_none (s2 _ _ hb) hD).symm
    have hDn := not_there s2 hD
    refine dcs ys (walk_listF (K := K) V.str ys) (fun z => (Sum.inr z, .int (priceIn kvs z))) (nd_map (f := fun z : Str => (Sum.inr z : Key)) (fun _ _ h => Sum.inr.inj h) ndy) hD (by omega) (fun H' s => SqL.of (s _ _ l2)) ?_ ?_
    · rintro i z x H3 H4 hi s3 ⟨rfl, z', ez, rfl⟩ N M hN
      have e1 : z = z' := Option.some.inj (hi.symm.trans ez)
      subst e1
      exact ⟨wipe_set, _, rfl, _, rfl, _, rfl, a, _, rfl, .inl ⟨kvs, Sum.inr z, .inl (s3 _ _ (s2 _ _ ha)), rfl, (price_of_key al (pm.mem_iff.mp (List.mem_of_getElem? hi))).1.symm⟩, hN _ (Same.refl _)⟩
    rintro H3 s3 e3
    have e3' : H3 D = some (.dK (kvOf (psOf kvs ys))) := by
      rw [e3]
      unfold kvOf psOf
      rw [List.map_map]
      rfl
    have b3 := s3 _ _ (s2 _ _ hb)
    have hps : (psOf kvs ys).map (fun p => V.str p.1) = ys.map V.str := by
      unfold psOf
      rw [List.map_map]
      rfl
    refine ⟨_, rfl, b, C, dx, [], rfl, b3, T.cl, T.n_own_prices, by decide, ?_⟩
    have k3 : Kp b H (upd H3 b (.ins C dx (putF "own_prices" (.ref D) []))) := (Kp.of (s2.trans s3)).trans Kp.upd
    have d3 : upd H3 b (.ins C dx (putF "own_prices" (.ref D) [])) D = some (.dK (kvOf (psOf kvs ys))) := by
      rw [upd_ne nDb]
      exact e3'
    have o3 : upd H3 b (.ins C dx (putF "own_prices" (.ref D) [])) b = some (.ins C dx [(("own_prices" : Str), .ref D)]) := upd_same
    generalize upd H3 b (.ins C dx (putF "own_prices" (.ref D) [])) = H4 at k3 d3 o3 ⊢
    clear e3 e3' b3 s3 s2 l2 hD
    -- the pieces
    refine ⟨_, rfl, b, C, dx, _, _, rfl, o3, T.cl, T.n_own_prices, lk_at, D, _, rfl, .inl d3, fun p3 hp3 => ?_⟩
    refine ⟨p3, _, rfl, .inl ⟨SqL.of upd_same, fun tp htp => ?_⟩⟩
    rw [kv_keys, hps] at htp ⊢
    have npb : p3 ≠ b := (ne_of_none o3 hp3).symm
    have ntb : tp ≠ b := (ne_of_none ((same_new hp3) _ _ o3) htp).symm
    have o4' := (same_new hp3 (o := .lst (ys.map V.str))).trans (same_new htp (o := .tup (ys.map V.str)))
    refine ⟨_, rfl, b, C, dx, _, rfl, o4' _ _ o3, T.cl, T.n_own_pieces, by simp, ?_⟩
    rw [pf2]
    have k4 := (k3.trans (.of o4')).trans (Kp.upd (o := .ins C dx [(("own_prices" : Str), .ref D), ("own_pieces", .ref tp)]))
    have d4 : (upd (upd (upd H4 p3 (.lst (ys.map V.str))) tp (.tup (ys.map V.str))) b (.ins C dx [(("own_prices" : Str), .ref D), ("own_pieces", .ref tp)])) D = some (.dK (kvOf (psOf kvs ys))) := by
      rw [upd_ne nDb]
      exact o4' _ _ d3
    have t4 : (upd (upd (upd H4 p3 (.lst (ys.map V.str))) tp (.tup (ys.map V.str))) b (.ins C dx [(("own_prices" : Str), .ref D), ("own_pieces", .ref tp)])) tp = some (.tup (ys.map V.str)) := by
      rw [upd_ne ntb]
      exact upd_same
    have o4 : (upd (upd (upd H4 p3 (.lst (ys.map V.str))) tp (.tup (ys.map V.str))) b (.ins C dx [(("own_prices" : Str), .ref D), ("own_pieces", .ref tp)])) b = some (.ins C dx [(("own_prices" : Str), .ref D), ("own_pieces", .ref tp)]) := upd_same
    generalize (upd (upd (upd H4 p3 (.lst (ys.map V.str))) tp (.tup (ys.map V.str))) b (.ins C dx [(("own_prices" : Str), .ref D), ("own_pieces", .ref tp)])) = H5 at k4 d4 t4 o4 ⊢
    clear o4' htp hp3 npb k3 d3 o3
    -- the alphabet
    refine ⟨_, rfl, b, C, dx, _, _, rfl, o4, T.cl, T.n_own_pieces, (lk_by (by decide +kernel)).trans lk_at, tp, rfl, ⟨_, SqT.of t4⟩, fun L hL => ?_⟩
    have nLb : L ≠ b := (ne_of_none o4 hL).symm
    refine lcs ys (walk_tupF (K := K) V.str ys) (fun z => if decide ((cs z).length = 1) = true then some (V.str z) else none) hL (by omega) (fun H' s => SqT.of (s _ _ t4)) ?_ ?_
    · rintro i z x H6 H7 hi s6 ⟨rfl, z', ez, rfl⟩ N M hN hM
      have e1 : z = z' := Option.some.inj (hi.symm.trans ez)
      subst e1
      have hz := (keyStrs_piece al z (pm.mem_iff.mp (List.mem_of_getElem? hi))).2.1
      refine ⟨wipe_set, _, rfl, _, rfl, fits_sz (by rw [← cs_len]; omega), rfl, _, rfl, ?_⟩
      rw [v_len_eq1]
      refine itB (fun q1 => ?_) (fun q1 => ?_)
      · exact ⟨_, rfl, hN _ _ (if_pos q1) (Same.refl _)⟩
      · exact hM _ (if_neg (by rw [q1]; exact Bool.false_ne_true)) (Same.refl _)
    rintro H6 s6 e6
    rw [sgn_fm kvs ys] at e6
    refine ⟨L, _, rfl, .inl ⟨SqL.of e6, fun ta hta => ?_⟩⟩
    have nab : ta ≠ b := (ne_of_none (s6 _ _ o4) hta).symm
    have o6 := s6.trans (same_new hta (o := .tup ((sgn (psOf kvs ys)).map V.str)))
    refine ⟨_, rfl, b, C, dx, _, rfl, o6 _ _ o4, T.cl, T.n_own_alphabet, by simp, ?_⟩
    rw [pf3]
    have k6 := (k4.trans (.of o6)).trans (Kp.upd (o := .ins C dx [(("own_prices" : Str), .ref D), ("own_pieces", .ref tp), ("own_alphabet", .ref ta)]))
    have d6 : (upd (upd H6 ta (.tup ((sgn (psOf kvs ys)).map V.str))) b (.ins C dx [(("own_prices" : Str), .ref D), ("own_pieces", .ref tp), ("own_alphabet", .ref ta)])) D = some (.dK (kvOf (psOf kvs ys))) := by
      rw [upd_ne nDb]
      exact o6 _ _ d4
    have t6 : (upd (upd H6 ta (.tup ((sgn (psOf kvs ys)).map V.str))) b (.ins C dx [(("own_prices" : Str), .ref D), ("own_pieces", .ref tp), ("own_alphabet", .ref ta)])) tp = some (.tup (ys.map V.str)) := by
      rw [upd_ne ntb]
      exact o6 _ _ t4
    have a6 : (upd (upd H6 ta (.tup ((sgn (psOf kvs ys)).map V.str))) b (.ins C dx [(("own_prices" : Str), .ref D), ("own_pieces", .ref tp), ("own_alphabet", .ref ta)])) ta = some (.tup ((sgn (psOf kvs ys)).map V.str)) := by
      rw [upd_ne nab]
      exact upd_same
    have o6' : (upd (upd H6 ta (.tup ((sgn (psOf kvs ys)).map V.str))) b (.ins C dx [(("own_prices" : Str), .ref D), ("own_pieces", .ref tp), ("own_alphabet", .ref ta)])) b = some (.ins C dx [(("own_prices" : Str), .ref D), ("own_pieces", .ref tp), ("own_alphabet", .ref ta)]) := upd_same
    generalize (upd (upd H6 ta (.tup ((sgn (psOf kvs ys)).map V.str))) b (.ins C dx [(("own_prices" : Str), .ref D), ("own_pieces", .ref tp), ("own_alphabet", .ref ta)])) = H7 at k6 d6 t6 a6 o6' ⊢
    clear o6 e6 s6 hta hL k4 d4 t4 o4
    -- the longest
    refine ⟨_, rfl, b, C, dx, _, _, rfl, o6', T.cl, T.n_own_pieces, (lk_by (by decide +kernel)).trans lk_at, tp, rfl, ⟨_, SqT.of t6⟩, fun L hL => ?_⟩
    refine lcs ys (walk_tupF (K := K) V.str ys) (fun z => some (V.int (z.length : Int))) hL (by omega) (fun H' s => SqT.of (s _ _ t6)) ?_ ?_
    · rintro i z x H8 H9 hi s8 ⟨rfl, z', ez, rfl⟩ N M hN hM
      have e1 : z = z' := Option.some.inj (hi.symm.trans ez)
      subst e1
      have hz := (keyStrs_piece al z (pm.mem_iff.mp (List.mem_of_getElem? hi))).2.1
      exact ⟨wipe_set, _, rfl, _, rfl, fits_sz (by rw [← cs_len]; omega), hN _ _ rfl (Same.refl _)⟩
    rintro H8 s8 e8
    have ll : (ys.filterMap fun z => some (V.int (z.length : Int))) = (lens (psOf kvs ys)).map V.int := by
      rw [fm_some]
      unfold lens psOf
      rw [List.map_map, List.map_map]
      rfl
    rw [ll] at e8
    refine ⟨L, _, rfl, SqL.of e8, by unfold lens psOf; rw [List.length_map, List.length_map]; omega, fun lo lo1 lo2 => ?_⟩
    refine ⟨_, rfl, b, C, dx, _, rfl, s8 _ _ o6', T.cl, T.n_own_longest, by simp, ?_⟩
    rw [pf4]
    have k8 := (k6.trans (.of s8)).trans (Kp.upd (o := .ins C dx [(("own_prices" : Str), .ref D), ("own_pieces", .ref tp), ("own_alphabet", .ref ta), ("own_longest", .int lo)]))
    have d8 : (upd H8 b (.ins C dx [(("own_prices" : Str), .ref D), ("own_pieces", .ref tp), ("own_alphabet", .ref ta), ("own_longest", .int lo)])) D = some (.dK (kvOf (psOf kvs ys))) := by
      rw [upd_ne nDb]
      exact s8 _ _ d6
    have t8 : (upd H8 b (.ins C dx [(("own_prices" : Str), .ref D), ("own_pieces", .ref tp), ("own_alphabet", .ref ta), ("own_longest", .int lo)])) tp = some (.tup (ys.map V.str)) := by
      rw [upd_ne ntb]
      exact s8 _ _ t6
    have a8 : (upd H8 b (.ins C dx [(("own_prices" : Str), .ref D), ("own_pieces", .ref tp), ("own_alphabet", .ref ta), ("own_longest", .int lo)])) ta = some (.tup ((sgn (psOf kvs ys)).map V.str)) := by
      rw [upd_ne nab]
      exact s8 _ _ a6
    have o8 : (upd H8 b (.ins C dx [(("own_prices" : Str), .ref D), ("own_pieces", .ref tp), ("own_alphabet", .ref ta), ("own_longest", .int lo)])) b = some (.ins C dx [(("own_prices" : Str), .ref D), ("own_pieces", .ref tp), ("own_alphabet", .ref ta), ("own_longest", .int lo)]) := upd_same
    generalize (upd H8 b (.ins C dx [(("own_prices" : Str), .ref D), ("own_pieces", .ref tp), ("own_alphabet", .ref ta), ("own_longest", .int lo)])) = H9 at k8 d8 t8 a8 o8 ⊢
    clear s8 e8 hL k6 d6 t6 a6 o6'
    have ntD : tp ≠ D := fun e => by
      rw [e, d8] at t8
      cases t8
    have naD : ta ≠ D := fun e => by
      rw [e, d8] at a8
      cases a8
    -- the dearest
    refine ⟨_, rfl, b, C, dx, _, _, rfl, o8, T.cl, T.n_own_prices, lk_at, .inr (.inr (.inl ⟨rfl, .inl ⟨_, d8⟩⟩)), D, _, rfl, rfl, .inl d8, fun r hr => ?_⟩
    refine ⟨r, D, _, rfl, upd_same, .inl (same_new hr _ _ d8), fun q hq => ?_⟩
    rw [kv_vals] at *
    refine ⟨q, _, rfl, SqL.of upd_same, by unfold fees psOf; rw [List.length_map, List.length_map]; omega, fun de de1 de2 => ?_⟩
    have s9 := (same_new hr (o := vwV D r)).trans (same_new hq (o := .lst ((fees (psOf kvs ys)).map V.int)))
    refine ⟨_, rfl, b, C, dx, _, rfl, s9 _ _ o8, T.cl, T.n_own_dearest, by simp, ?_⟩
    rw [pf5]
    have k9 := (k8.trans (.of s9)).trans (Kp.upd (o := .ins C dx (bookF D tp ta lo de)))
    refine ⟨D, _, (upd_ne nDb).trans (s9 _ _ d8), trivial, fun od => ?_⟩
    refine k _ ys lo de D tp ta od pm so ⟨?_, upd_same, ?_, ?_, ⟨lo1, lo2⟩, ⟨de1, de2⟩⟩ ?_
    · exact (upd_ne nDb.symm).trans upd_same
    · rw [upd_ne ntD, upd_ne ntb, hps]
      exact s9 _ _ t8
    · rw [upd_ne naD, upd_ne nab]
      exact s9 _ _ a8
    · intro c o e n
      rw [upd_ne (ne_of_none e hDn)]
      exact k9 _ _ e n
theorem sc_require_book : FnScope ["value"] ["value"] (defScope s_require_book) := ⟨rfl, rfl, rfl, by decide +kernel, rfl, by decide +kernel, by decide +kernel⟩
theorem ok_require_book {f : Addr} {fd : FuncData} (F : Fun K "require_book" "require_book" s_require_book f fd) (T : Txt K mg C CU) : FnOk P w K mg base CX0 1 f fd ["value"] (spReqBook C) := by
  refine F.ok sc_require_book (fun vs H Q E h => ?_) (fun cdv A outer s H vs Q E hr h => ?_)
  · obtain ⟨b, dx, fs, rfl, _⟩ := h
    rfl
  · have hu := hu_of hr
    obtain ⟨b, dx, fs, rfl, hb, k⟩ := h
    refine ⟨_, (pss_one (ps_if (pt_not (pt_val (pe_callB (C8.call_isC T.ic) (by rfl) T.b_isinstance (by decide +kernel) (pa_cons (pv 0) (pa_cons (pe_glob (v := .ref C) rfl T.gC rfl) pa_nil))))) (pss_one ps_never) pss_nil)), ?_⟩
    exact ⟨_, rfl, b, dx, fs, rfl, hb, true, rfl, k⟩
theorem sc_is_text_over : FnScope ["book", "value", "sign"] ["book", "value"] (defScope s_is_text_over) := ⟨rfl, rfl, rfl, by decide +kernel, rfl, by decide +kernel, by decide +kernel⟩
theorem ok_is_text_over {f : Addr} {fd : FuncData} (F : Fun K "is_text_over" "is_text_over" s_is_text_over f fd) (T : Txt K mg C CU) (c_is_text : HasO P w K mg base CX0 2 "is_text" ["value"] (spIs K isText)) : FnOk P w K mg base CX0 3 f fd ["book", "value"] (spOverV C) := by
  refine F.ok sc_is_text_over (fun vs H Q E h => ?_) (fun cdv A outer s H vs Q E hr h => ?_)
  · obtain ⟨b, kvs, x, rfl, _⟩ := h
    rfl
  · have hu := hu_of hr
    obtain ⟨b, kvs, x, rfl, B, hx, k⟩ := h
    refine ⟨_, (pss_one (ps_ret (pe_and (pe_hasO c_is_text (hr.mono (by decide)) pass0 (pa_cons (pv 1) pa_nil)) (pe_one (pe_callB (g_all K rfl) (by rfl) T.b_all (by decide +kernel) (pa_cons (pe_lc (own := [("sign", 2)]) rfl sc_is_text_over.nd (pi_str (pv 1)) (blkOk_by (own := [("sign", 2)]) (N := ["book", "value", "sign"]) (sc := defScope s_is_text_over) (by decide +kernel)) (fun _ _ _ _ _ => (pg_name (i := 2) sc_is_text_over.nd rfl (Or.inl rfl))) (fun _ _ _ _ _ => pts_nil) (fun _ _ _ _ _ => (pe_cmpR (g_in_seq K) (pv 2) (g_fld K (pv 0)) (by rfl)))) pa_nil)))))), ?_⟩
    obtain ⟨av, nd, ys, L, M, dx, d, tp, ta, od, pm, so, A⟩ := id B
    obtain ⟨_, al, _, _⟩ := ap_parts av
    refine ⟨_, rfl, x, rfl, hx.tyd, hx.sz, fun H1 s1 => ⟨_, rfl, ?_⟩⟩
    refine itB (fun e1 => ?_) (fun e1 => ?_)
    · obtain ⟨z, rfl, hz⟩ : ∃ z : Str, x = .str z ∧ z.length ≤ 100000 := by
        rcases hx with o | h
        · rw [o.text] at e1
          cases e1
        · exact h
      refine ⟨_, rfl, z, rfl, fun D hD => ?_⟩
      refine lcp_str (fun c => .bl (tfD kvs (ch c)).isSome) (fits_sz hz) (fun c acc N hc hN => ?_) ?_
      · have s2 : Same H (upd H1 D (.lst acc)) := s1.trans (same_new hD)
        refine ⟨_, rfl, _, rfl, b, C, dx, _, _, rfl, s2 _ _ A.ob, T.cl, T.n_own_alphabet, bf_alphabet, ta, _, rfl, .inr (SqT.of (s2 _ _ A.al)), rfl, G.flat_strs _, ?_⟩
        rw [if_neg Bool.false_ne_true, inV_str]
        have e : decide (ch c ∈ sgn (psOf kvs ys)) = (tfD kvs (ch c)).isSome := by
          rw [Bool.eq_iff_iff, decide_eq_true_eq, sgn_mem al pm, Option.isSome_iff_exists]
        rw [e]
        exact hN
      · refine ⟨D, (cs z).map fun c => (tfD kvs (ch c)).isSome, rfl, SqL.of (by rw [upd_same, List.map_map]; rfl), ?_⟩
        have e : ((cs z).map fun c => (tfD kvs (ch c)).isSome).all id = overB kvs z := by
          unfold overB
          rw [e1, List.all_map]
          rfl
        rw [e]
        exact k _ (s1.trans (same_new hD))
    · have k1 := k _ s1
      rw [overV_text e1] at k1
      exact k1
theorem sc_require_text : FnScope ["book", "value"] ["book", "value"] (defScope s_require_text) := ⟨rfl, rfl, rfl, by decide +kernel, rfl, by decide +kernel, by decide +kernel⟩
theorem ok_require_text {f : Addr} {fd : FuncData} (F : Fun K "require_text" "require_text" s_require_text f fd) (T : Txt K mg C CU) (c_is_text_over : HasO P w K mg base CX0 3 "is_text_over" ["book", "value"] (spOverV C)) : FnOk P w K mg base CX0 4 f fd ["book", "value"] (spReqText C) := by
  refine F.ok sc_require_text (fun vs H Q E h => ?_) (fun cdv A outer s H vs Q E hr h => ?_)
  · obtain ⟨b, kvs, z, rfl, _⟩ := h
    rfl
  · have hu := hu_of hr
    obtain ⟨b, kvs, z, rfl, B, hz, ok, k⟩ := h
    refine ⟨_, (pss_one (ps_if (pt_not (pt_val (pe_hasO c_is_text_over (hr.mono (by decide)) pass0 (pa_cons (pv 0) (pa_cons (pv 1) pa_nil))))) (pss_one ps_never) pss_nil)), ?_⟩
    exact ⟨_, rfl, _, rfl, b, kvs, .str z, rfl, B, .inr ⟨z, rfl, hz⟩, fun H1 s1 => ⟨true, congrArg V.bl ok, k _ s1⟩⟩
theorem sc_Book_accepts : FnScope ["self", "value"] ["self", "value"] (defScope s_Book_accepts) := ⟨rfl, rfl, rfl, by decide +kernel, rfl, by decide +kernel, by decide +kernel⟩
theorem ok_Book_accepts {f : Addr} {fd : FuncData} (F : Fun K "accepts" "Book.accepts" s_Book_accepts f fd) (T : Txt K mg C CU) (c_is_text_over : HasO P w K mg base CX0 3 "is_text_over" ["book", "value"] (spOverV C)) : FnOk P w K mg base CX0 4 f fd ["self", "value"] (spOverV C) := by
  refine F.ok sc_Book_accepts (fun vs H Q E h => ?_) (fun cdv A outer s H vs Q E hr h => ?_)
  · obtain ⟨b, kvs, x, rfl, _⟩ := h
    rfl
  · have hu := hu_of hr
    obtain ⟨b, kvs, x, rfl, B, hx, k⟩ := h
    refine ⟨_, (pss_one (ps_ret (pe_hasO c_is_text_over (hr.mono (by decide)) pass0 (pa_cons (pv 0) (pa_cons (pv 1) pa_nil))))), ?_⟩
    exact ⟨_, rfl, _, rfl, b, kvs, x, rfl, B, hx, fun H1 s1 => k _ s1⟩
theorem sc_is_order : FnScope ["book", "value", "piece"] ["book", "value"] (defScope s_is_order) := ⟨rfl, rfl, rfl, by decide +kernel, rfl, by decide +kernel, by decide +kernel⟩
theorem ok_is_order {f : Addr} {fd : FuncData} (F : Fun K "is_order" "is_order" s_is_order f fd) (T : Txt K mg C CU) : FnOk P w K mg base CX0 2 f fd ["book", "value"] (spIsOrder C) := by
  refine F.ok sc_is_order (fun vs H Q E h => ?_) (fun cdv A outer s H vs Q E hr h => ?_)
  · obtain ⟨b, t, kvs, ord, rfl, _⟩ := h
    rfl
  · have hu := hu_of hr
    obtain ⟨b, t, kvs, ord, rfl, B, ht, op, k⟩ := h
    refine ⟨_, (pss_cons (ps_if (PW.pt (pw_or (pt_not (pt_val (pe_callB (g_isi K) (by rfl) T.b_isinstance (by decide +kernel) (pa_cons (pv 1) (pa_cons (pe_bltn (v := .ty "tuple") rfl T.b_tuple (by decide +kernel) rfl) pa_nil))))) (pw_or1 (pt_not (pt_val (pe_callB (g_all K rfl) (by rfl) T.b_all (by decide +kernel) (pa_cons (pe_lc (own := [("piece", 2)]) rfl sc_is_order.nd (g_tuple K (pv 1)) (blkOk_by (own := [("piece", 2)]) (N := ["book", "value", "piece"]) (sc := defScope s_is_order) (by decide +kernel)) (fun _ _ _ _ _ => (pg_name (i := 2) sc_is_order.nd rfl (Or.inl rfl))) (fun _ _ _ _ _ => pts_nil) (fun _ _ _ _ _ => (pe_callB (g_isi K) (by rfl) T.b_isinstance (by decide +kernel) (pa_cons (pv 2) (pa_cons (pe_bltn (v := .ty "str") rfl T.b_str (by decide +kernel) rfl) pa_nil))))) pa_nil))))))) (pss_one (ps_ret pe_bl)) pss_nil)
      (pss_one (ps_ret (pe_cmpR (g_eqD K hr.units) (pe_callB g_sortedTu (by rfl) T.b_sorted (by decide +kernel) (pa_cons (pv 1) pa_nil)) (pe_callTy (g_list_of K) (by rfl) T.b_list (by decide +kernel) (pa_cons (g_fld K (pv 0)) pa_nil)) (nomark _))))), ?_⟩
    obtain ⟨av, nd, ys, Lo, Mo, dx, d, tp, ta, od, pm, so, A⟩ := id B
    obtain ⟨_, al, _, _⟩ := ap_parts av
    
    refine ⟨_, rfl, _, _, _, _, _, rfl, .ty _, .base (.tup ht), kit_ty (show kitB "tuple" "tuple" = some true by decide +kernel), true, rfl, ?_⟩
    have lk := op.length_eq
    have lk2 : (keyStrs kvs).length ≤ 1000 := by
      unfold keyStrs
      refine Nat.le_trans (List.length_filterMap_le _ _) ?_
      obtain ⟨⟨_, n12⟩, _⟩ := ap_parts av
      omega
    refine ⟨_, rfl, t, rfl, ⟨_, SqT.of ht⟩, fun D hD => ?_⟩
    refine lcs ord (walk_tupF (K := K) V.str ord) (fun y => some (V.bl true)) hD (by omega) (fun H' s => SqT.of (s _ _ ht)) ?_ ?_
    · rintro j y x H1 H2 hj s1 ⟨rfl, y', ey, rfl⟩ N M hN hM
      obtain ⟨t1, ty, ks, _, _⟩ := tyd_str (K := K) (H := H2) y'
      exact ⟨wipe_set, _, rfl, _, _, _, _, _, rfl, .ty _, ty, ks, hN _ _ rfl (Same.refl _)⟩
    intro H1 s1 e1
    rw [fm_some] at e1
    refine ⟨D, ord.map fun _ => true, rfl, SqL.of (by rw [e1, List.map_map]; rfl), ?_⟩
    refine ⟨true, congrArg V.bl (List.all_eq_true.mpr fun y hy => by obtain ⟨_, _, e⟩ := List.mem_map.mp hy; rw [← e]; rfl), ?_⟩
    refine ⟨_, rfl, t, ord, rfl, SqT.of (s1 _ _ ht), fun zs p pz sz hp => ?_⟩
    have s2 := s1.trans (same_new hp (o := .lst (zs.map V.str)))
    have pi : H tp = some (.tup (ys.map V.str)) := by
      rw [A.pi]
      unfold psOf
      rw [List.map_map]
      rfl
    have ez : zs = ys := so_eq (so_pw sz) (so_pw so) ((pz.trans op).trans pm.symm)
    subst ez
    refine ⟨_, rfl, b, C, dx, _, _, rfl, s2 _ _ A.ob, T.cl, T.n_own_pieces, bf_pieces, tp, zs.map V.str, rfl, .inr (SqT.of (s2 _ _ pi)), fun q hq => ?_⟩
    have s3 := s2.trans (same_new hq (o := .lst (zs.map V.str)))
    exact eq_lstrs (SqL.of (same_new hq _ _ upd_same)) (SqL.of upd_same) (fun z hz => (keyStrs_piece al z (pm.mem_iff.mp hz)).2.2) (k _ s3)
theorem sc_is_view : FnScope ["value"] ["value"] (defScope s_is_view) := ⟨rfl, rfl, rfl, by decide +kernel, rfl, by decide +kernel, by decide +kernel⟩
theorem ok_is_view {f : Addr} {fd : FuncData} (F : Fun K "is_view" "is_view" s_is_view f fd) (T : Txt K mg C CU) (c_is_integer : HasO P w K mg base CX0 1 "is_integer" ["value"] (spIsI K isInteger)) : FnOk P w K mg base CX0 2 f fd ["value"] (spIsView) := by
  refine F.ok sc_is_view (fun vs H Q E h => ?_) (fun cdv A outer s H vs Q E hr h => ?_)
  · obtain ⟨v, rfl, _⟩ := h
    rfl
  · have hu := hu_of hr
    obtain ⟨v, rfl, v1, v2, k⟩ := h
    refine ⟨_, (pss_one (ps_ret (pe_and (pe_hasO c_is_integer (hr.mono (by decide)) pass0 (pa_cons (pv 0) pa_nil)) (pe_one (pe_chain op_le op_le pe_int (pv 0) (pe_glob (v := .int 2000) rfl T.g_MAX_VIEW.choose_spec ⟨_, rfl⟩)))))), ?_⟩
    refine ⟨_, rfl, _, rfl, tyd_int v, fun H1 s1 => ?_⟩
    have e : isInteger (.int v) = true := decide_eq_true (by have h1 : v.natAbs ≤ 2000 := by omega
                                                             exact Nat.lt_of_le_of_lt h1 (by decide))
    refine ⟨true, congrArg V.bl e, ?_⟩
    refine chain_le (ta := tC (.int 1)) (tb := tVar 0) (tc := tC (.int 2000)) (a := 1) (b := v) (c := 2000) (fun N hN => hN) (fun N hN => ⟨_, rfl, hN⟩) (fun N hN => hN) ?_
    rw [decide_eq_true v1, decide_eq_true v2]
    exact k _ s1
theorem sc_is_table : FnScope ["book", "value", "most", "text", "piece"] ["book", "value", "most"] (defScope s_is_table) := ⟨rfl, rfl, rfl, by decide +kernel, rfl, by decide +kernel, by decide +kernel⟩
theorem ok_is_table {f : Addr} {fd : FuncData} (F : Fun K "is_table" "is_table" s_is_table f fd) (T : Txt K mg C CU) (c_Book_accepts : C8.Met P w K mg base 4 C "accepts" (spOverV C) []) : FnOk P w K mg base CX0 5 f fd ["book", "value", "most"] (spIsTable C) := by
  refine F.ok sc_is_table (fun vs H Q E h => ?_) (fun cdv A outer s H vs Q E hr h => ?_)
  · obtain ⟨b, d, kvs, W, m, rfl, _⟩ := h
    rfl
  · have hu := hu_of hr
    obtain ⟨b, dt, kvs, W, m, rfl, B, hd, wo, hm, k⟩ := h
    refine ⟨_, (pss_cons (ps_if (PW.pt (pw_or (pt_not (pt_val (pe_callB (g_isi K) (by rfl) T.b_isinstance (by decide +kernel) (pa_cons (pv 1) (pa_cons (pe_bltn (v := .ty "dict") rfl T.b_dict (by decide +kernel) rfl) pa_nil))))) (pw_or1 (pt_cmpR op_gt (pe_callB call_lenF (by rfl) T.b_len (by decide +kernel) (pa_cons (pv 1) pa_nil)) (pe_glob (v := .int 2000) rfl T.g_MAX_WINDOWS.choose_spec ⟨_, rfl⟩) (nomark _))))) (pss_one (ps_ret pe_bl)) pss_nil)
      (pss_cons (ps_lock (by exact (ps_for PassesOwn.never rfl (pi_items (pv 1)) (g_tup K (n := 2) rfl (pgs_cons (pg_name (i := 3) sc_is_table.nd rfl (Or.inl rfl)) (pgs_cons (pg_name (i := 4) sc_is_table.nd rfl (Or.inl rfl)) pgs_nil))) (pss_cons (ps_if (PW.pt (pw_or (pt_not (pt_val (C8.pe_mt c_Book_accepts hr (by decide) (pv 0) (pa_cons (pv 3) pa_nil)))) (pw_or1 (pt_not (pt_chain op_le op_le pe_int (pe_callB call_len_str (by rfl) T.b_len (by decide +kernel) (pa_cons (pv 3) pa_nil)) (pv 2)))))) (pss_one (ps_ret pe_bl)) pss_nil)
      (pss_one (ps_if (PW.pt (pw_or (pt_not (pt_val (pe_callB (g_isi K) (by rfl) T.b_isinstance (by decide +kernel) (pa_cons (pv 4) (pa_cons (pe_bltn (v := .ty "str") rfl T.b_str (by decide +kernel) rfl) pa_nil))))) (pw_or (pt_cmp (pc_dnotin hu (pv 4) (g_fld K (pv 0)))) (pw_or1 (pt_not (pt_val (pe_m1 PySem.F.slot_str_startswith PySem.F.type_str_startswith mt_startswith (pv 3) (pv 4)))))))) (pss_one (ps_ret pe_bl)) pss_nil))))))
      (pss_one (ps_ret pe_bl)))), ?_⟩
    obtain ⟨av, nd, ys, Lo, Mo, dx, d, tp, ta, od, pm, so, A⟩ := id B
    obtain ⟨_, al, _, _⟩ := ap_parts av
    
    have w60 := wo.len
    refine ⟨_, rfl, _, _, _, _, _, rfl, .ty _, .base (.dK hd), kit_ty (show kitB "dict" "dict" = some true by decide +kernel), true, rfl, ?_⟩
    refine ⟨_, rfl, dt, W, rfl, .inl hd, _, _, rfl, rfl, _, rfl, ?_⟩
    refine itF (decide_eq_false (by omega)) ?_
    refine ⟨dt, _, hd, trivial, fun od' => ?_⟩
    refine ⟨_, rfl, dt, od', W, rfl, upd_same, for_it walk_items (Pv := fun i σ H' => ∃ u v, σ = [some (.ref b), some (.ref dt), some (.int m), u, v] ∧ H' dt = some (.frz od' (.dK W)) ∧ Book1 C H' b kvs ∧ Same (upd H dt (.frz od' (.dK W))) H')
      ⟨_, _, rfl, upd_same, B.updD hd, Same.refl _⟩ (fun i σ H' hi q => by obtain ⟨u, v, _, q, _⟩ := q; exact q) ?_ ?_⟩
    · rintro i x σ H1 H2 hi ⟨u, v, rfl, d1, B1, s1⟩ ⟨Tt, xk, xv, rfl, hT, rfl, ek, ev⟩
      dsimp only at ek ev
      obtain ⟨z, y, e0, z1, zm, zo, ⟨p, hp⟩, r, hr⟩ := wo.ent W[i] (List.getElem_mem hi)
      rw [List.getElem?_eq_getElem hi, e0] at ek ev
      cases ek
      cases ev
      have lz := cs_len z
      have sT := same_new hT (o := .tup [kV (Sum.inr z), V.str y])
      have B2 := B1.same sT
      have s2 := s1.trans sT
      have d2 := sT _ _ d1
      have t2 : (upd H1 Tt (.tup [kV (Sum.inr z), V.str y])) Tt = some (.tup [kV (Sum.inr z), V.str y]) := upd_same
      generalize upd H1 Tt (.tup [kV (Sum.inr z), V.str y]) = H2 at sT B2 s2 d2 t2 ⊢
      refine ⟨Tt, _, rfl, SqT.of t2, rfl, _, _, rfl, _, _, rfl, rfl, ?_⟩
      obtain ⟨_, _, ys2, L2, M2, dx2, bd2, tp2, ta2, od2, pm2, so2, A2⟩ := id B2
      refine ⟨_, rfl, b, dx2, _, rfl, A2.ob, bf_no (by decide +kernel) (by decide +kernel) (by decide +kernel) (by decide +kernel) (by decide +kernel), _, rfl, b, kvs, .str z, rfl, B2, .inr ⟨z, rfl, by omega⟩, fun H3 s3 => ⟨true, congrArg V.bl (over_text av zo (by omega)), ?_⟩⟩
      refine itF rfl ?_
      refine chain_le (ta := tC (.int 1)) (tb := tCB (fun xs H Q => ∃ z, xs = [V.str z] ∧ z.length ≤ sizeLine ∧ Q (V.int (z.length : Int)) H) (tCons (tVar 3) tNil)) (tc := tVar 2) (a := 1) (b := (z.length : Int)) (c := m) (fun N hN => hN) (fun N hN => ⟨_, rfl, z, rfl, fits_sz (by omega), hN⟩) (fun N hN => ⟨_, rfl, hN⟩) ?_
      rw [decide_eq_true (show (1 : Int) ≤ (z.length : Int) by omega), decide_eq_true (show (z.length : Int) ≤ m by omega)]
      refine ⟨true, rfl, itF rfl ?_⟩
      obtain ⟨t1, ty, ks, _, _⟩ := tyd_str (K := K) (H := H3) y
      refine ⟨_, rfl, _, _, _, _, _, rfl, .ty _, ty, ks, true, rfl, itF rfl ?_⟩
      refine ⟨_, rfl, _, rfl, b, C, dx2, _, _, rfl, s3 _ _ A2.ob, T.cl, T.n_own_prices, bf_prices, bd2, _, rfl, .inl ⟨_, Sum.inr y, .inr ⟨od2, s3 _ _ A2.dc⟩, rfl, rfl⟩, _, rfl, ?_⟩
      rw [tar_val (tar_book av pm2), tf_psOf al pm2, hp]
      refine itF rfl ?_
      refine ⟨_, rfl, ⟨_, rfl⟩, _, rfl, z, y, rfl, rfl, _, rfl, ?_⟩
      rw [starts_iff'.mpr ⟨r, hr⟩]
      exact itF rfl ⟨_, _, rfl, s3 _ _ d2, B2.same s3, s2.trans s3⟩
    · rintro σ H1 ⟨u, v, rfl, d1, B1, s1⟩
      exact ⟨d1, k _ (unlock hd s1)⟩
theorem sc_Cutter___init__ : FnScope ["self", "book", "order", "view", "table", "ends", "text"] ["self", "book", "order", "view", "table", "ends"] (defScope s_Cutter___init__) := ⟨rfl, rfl, rfl, by decide +kernel, rfl, by decide +kernel, by decide +kernel⟩
theorem ok_Cutter___init__ {f : Addr} {fd : FuncData} (F : Fun K "__init__" "Cutter.__init__" s_Cutter___init__ f fd) (T : Txt K mg C CU) (c_require_book : HasO P w K mg base CX0 1 "require_book" ["value"] (spReqBook C)) (c_is_order : HasO P w K mg base CX0 2 "is_order" ["book", "value"] (spIsOrder C)) (c_is_view : HasO P w K mg base CX0 2 "is_view" ["value"] (spIsView)) (c_is_table : HasO P w K mg base CX0 5 "is_table" ["book", "value", "most"] (spIsTable C)) : FnOk P w K mg base CX0 6 f fd ["self", "book", "order", "view", "table", "ends"] (spCutInit C CU) := by
  refine F.ok sc_Cutter___init__ (fun vs H Q E h => ?_) (fun cdv A outer s H vs Q E hr h => ?_)
  · obtain ⟨c, dx, b, to, td, te, kvs, ord, v, W, E, rfl, _⟩ := h
    rfl
  · have hu := hu_of hr
    obtain ⟨c, cx, b, to, td, te, kvs, ord, v, W, E, rfl, hc, B, hto, htd, hte, wW, wE, op, v1, v2, k⟩ := h
    refine ⟨_, (pss_cons (ps_expr (pe_hasO c_require_book (hr.mono (by decide)) pass0 (pa_cons (pv 1) pa_nil)))
      (pss_cons (ps_set (i := 3) sc_Cutter___init__.nd rfl (Or.inl rfl) (pe_ifExp (pt_cmpR op_isN (pv 3) pe_non (nomark _)) (g_fld K (pv 1)) (pv 3)))
      (pss_cons (ps_set (i := 4) sc_Cutter___init__.nd rfl (Or.inr rfl) (pe_ifExp (pt_cmpR op_isN (pv 4) pe_non (nomark _)) pe_dnewK (pv 4)))
      (pss_cons (ps_set (i := 5) sc_Cutter___init__.nd rfl (Or.inr rfl) (pe_ifExp (pt_cmpR op_isN (pv 5) pe_non (nomark _)) pe_dnewK (pv 5)))
      (pss_cons (ps_if (PW.pt (pw_or (pt_not (pt_val (pe_hasO c_is_order (hr.mono (by decide)) pass0 (pa_cons (pv 1) (pa_cons (pv 2) pa_nil))))) (pw_or1 (pt_not (pt_val (pe_hasO c_is_view (hr.mono (by decide)) pass0 (pa_cons (pv 3) pa_nil))))))) (pss_one ps_never) pss_nil)
      (pss_cons (ps_if (PW.pt (pw_or (pt_not (pt_val (pe_hasO c_is_table (hr.mono (by decide)) pass0 (pa_cons (pv 1) (pa_cons (pv 4) (pa_cons (pv 3) pa_nil)))))) (pw_or1 (pt_not (pt_val (pe_hasO c_is_table (hr.mono (by decide)) pass0 (pa_cons (pv 1) (pa_cons (pv 5) (pa_cons (pe_op op_sub (pv 3) pe_int) pa_nil))))))))) (pss_one ps_never) pss_nil)
      (pss_cons (ps_fld (pv 0) (pv 1) rfl)
      (pss_cons (ps_fld (pv 0) (pv 2) rfl)
      (pss_cons (ps_fld (pv 0) (pv 3) rfl)
      (pss_cons (ps_fld (pv 0) (pe_dc (own := [("text", 6)]) rfl sc_Cutter___init__.nd (g_list K (pe_callB (call_sortedDA rfl) (by rfl) T.b_sorted (by decide +kernel) (pa_cons (pv 4) pa_nil))) (blkOk_by (own := [("text", 6)]) (N := ["self", "book", "order", "view", "table", "ends", "text"]) (sc := defScope s_Cutter___init__) (by decide +kernel)) (fun _ _ _ _ _ => (pg_name (i := 6) sc_Cutter___init__.nd rfl (Or.inl rfl))) (fun _ _ _ _ _ => pts_nil) (fun _ _ _ _ _ => (pv 6)) (fun _ _ _ _ _ => (pe_dget hu (pv 4) (pv 6) (fun _ _ => rfl)))) rfl)
      (pss_cons (ps_fld (pv 0) (pe_dc (own := [("text", 6)]) rfl sc_Cutter___init__.nd (g_list K (pe_callB (call_sortedDA rfl) (by rfl) T.b_sorted (by decide +kernel) (pa_cons (pv 5) pa_nil))) (blkOk_by (own := [("text", 6)]) (N := ["self", "book", "order", "view", "table", "ends", "text"]) (sc := defScope s_Cutter___init__) (by decide +kernel)) (fun _ _ _ _ _ => (pg_name (i := 6) sc_Cutter___init__.nd rfl (Or.inl rfl))) (fun _ _ _ _ _ => pts_nil) (fun _ _ _ _ _ => (pv 6)) (fun _ _ _ _ _ => (pe_dget hu (pv 5) (pv 6) (fun _ _ => rfl)))) rfl)
      (pss_one (ps_fld (pv 0) (pe_callTy (g_tuple_of K) (by rfl) T.b_tuple (by decide +kernel) (pa_cons (pe_callB (cr_sortedSetA rfl) (by rfl) T.b_sorted (by decide +kernel) (pa_cons (pe_lock (by exact (pe_setC (AcI _) (own := [("text", 6)]) rfl sc_Cutter___init__.nd (pi_keys (pv 4)) (blkOk_by (own := [("text", 6)]) (N := ["self", "book", "order", "view", "table", "ends", "text"]) (sc := defScope s_Cutter___init__) (by decide +kernel)) (fun _ _ _ _ _ => (pg_name (i := 6) sc_Cutter___init__.nd rfl (Or.inl rfl))) (fun _ _ _ _ _ => pts_nil) (fun _ _ _ _ _ => (pe_callB call_len_str (by rfl) T.b_len (by decide +kernel) (pa_cons (pv 6) pa_nil)))))) pa_nil)) pa_nil)) rfl))))))))))))), ?_⟩
    obtain ⟨_, _, ys, Lo, Mo, dx, d, tp, ta, od, pm, so, A⟩ := id B
    refine ⟨_, rfl, b, _, _, rfl, A.ob, ?_⟩
    refine ⟨_, rfl, rfl, _, rfl, itF (decide_eq_false (fun e => nomatch e)) ⟨_, rfl, ?_⟩⟩
    refine ⟨_, rfl, rfl, _, rfl, itF (decide_eq_false (fun e => nomatch e)) ⟨_, rfl, ?_⟩⟩
    refine ⟨_, rfl, rfl, _, rfl, itF (decide_eq_false (fun e => nomatch e)) ⟨_, rfl, ?_⟩⟩
    refine ⟨_, rfl, _, rfl, b, to, kvs, ord, rfl, B, hto, op, fun H1 s1 => ⟨true, rfl, itF rfl ?_⟩⟩
    refine ⟨_, rfl, v, rfl, v1, v2, fun H2 s2 => ⟨true, rfl, itF rfl ?_⟩⟩
    have s02 := s1.trans s2
    refine ⟨_, rfl, _, rfl, _, rfl, b, td, kvs, W, v, rfl, B.same s02, s02 _ _ htd, wW, v2, fun H3 s3 => ⟨true, rfl, itF rfl ?_⟩⟩
    have s03 := s02.trans s3
    refine ⟨_, rfl, _, rfl, _, rfl, _, _, rfl, rfl, b, te, kvs, E, v - 1, rfl, B.same s03, s03 _ _ hte, wE, by omega, fun H4 s4 => ⟨true, rfl, itF rfl ?_⟩⟩
    have s04 := s03.trans s4
    have o4 := s04 _ _ hc
    have k4 : Kp c H H4 := Kp.of s04
    clear s1 s2 s3 s4 s02 s03 s04
    have nc : ∀ {a : Addr} {o : HO}, H a = some o → (∀ fs, o ≠ .ins CU cx fs) → a ≠ c := fun {a o} h hn e => by
      rw [e, hc] at h
      exact hn _ (Option.some.inj h).symm
    have nto := nc hto (by simp)
    have ntd := nc htd (by simp)
    have nte := nc hte (by simp)
    refine ⟨_, rfl, _, rfl, c, CU, cx, [], rfl, o4, T.clU, T.u_own_book, by simp, ?_⟩
    rw [pcu1]
    have k5 : Kp c H (upd H4 c (.ins CU cx [(("own_book" : Str), V.ref b)])) := k4.trans Kp.upd
    have o5 : (upd H4 c (.ins CU cx [(("own_book" : Str), V.ref b)])) c = some (.ins CU cx [(("own_book" : Str), V.ref b)]) := upd_same
    generalize upd H4 c (.ins CU cx [(("own_book" : Str), V.ref b)]) = H5 at k5 o5  ⊢
    refine ⟨_, rfl, _, rfl, c, CU, cx, [(("own_book" : Str), V.ref b)], rfl, o5, T.clU, T.u_own_order, by simp, ?_⟩
    rw [pcu2]
    have k6 : Kp c H (upd H5 c (.ins CU cx [(("own_book" : Str), V.ref b), (("own_order" : Str), .ref to)])) := k5.trans Kp.upd
    have o6 : (upd H5 c (.ins CU cx [(("own_book" : Str), V.ref b), (("own_order" : Str), .ref to)])) c = some (.ins CU cx [(("own_book" : Str), V.ref b), (("own_order" : Str), .ref to)]) := upd_same
    generalize upd H5 c (.ins CU cx [(("own_book" : Str), V.ref b), (("own_order" : Str), .ref to)]) = H6 at k6 o6  ⊢
    refine ⟨_, rfl, _, rfl, c, CU, cx, [(("own_book" : Str), V.ref b), (("own_order" : Str), .ref to)], rfl, o6, T.clU, T.u_own_view, by simp, ?_⟩
    rw [pcu3]
    have k7 : Kp c H (upd H6 c (.ins CU cx [(("own_book" : Str), V.ref b), (("own_order" : Str), .ref to), (("own_view" : Str), .int v)])) := k6.trans Kp.upd
    have o7 : (upd H6 c (.ins CU cx [(("own_book" : Str), V.ref b), (("own_order" : Str), .ref to), (("own_view" : Str), .int v)])) c = some (.ins CU cx [(("own_book" : Str), V.ref b), (("own_order" : Str), .ref to), (("own_view" : Str), .int v)]) := upd_same
    generalize upd H6 c (.ins CU cx [(("own_book" : Str), V.ref b), (("own_order" : Str), .ref to), (("own_view" : Str), .int v)]) = H7 at k7 o7  ⊢
    have t7 := k7 _ _ htd ntd
    refine ⟨_, rfl, td, W, _, rfl, .inl t7, win_keys wW, fun z7 p7 pz7 sz7 hp7 => ?_⟩
    refine ⟨p7, rfl, ⟨_, SqL.of upd_same⟩, fun Dt hD7 => ?_⟩
    have sn7 := same_new hp7 (o := .lst (z7.map V.str))
    have lp7 : (upd H7 p7 (.lst (z7.map V.str))) p7 = some (.lst (z7.map V.str)) := upd_same
    generalize upd H7 p7 (.lst (z7.map V.str)) = G7 at sn7 lp7 hD7 ⊢
    refine dcs z7 (walk_listF (K := K) V.str z7) (fun y => (Sum.inr y, reV W y)) (nd_map (f := fun z : Str => (Sum.inr z : Key)) (fun _ _ h => Sum.inr.inj h) (pz7.nodup_iff.mpr (win_nd wW))) hD7 (by have := pz7.length_eq; have := keyStrs_len W; have := wW.len; omega) (fun H' s => SqL.of (s _ _ lp7)) ?_ ?_
    · rintro i z x Hx Hy hi s9 ⟨rfl, z', ez, rfl⟩ N M hN
      have e1 : z = z' := Option.some.inj (hi.symm.trans ez)
      subst e1
      exact ⟨wipe_set, _, rfl, _, rfl, _, rfl, td, _, rfl, .inl ⟨W, Sum.inr z, .inl (s9 _ _ (sn7 _ _ t7)), rfl, (key_val (pz7.mem_iff.mp (List.mem_of_getElem? hi))).symm⟩, hN _ (Same.refl _)⟩
    intro H8 sa7 ea7
    have nf7 : Dt ≠ c := (ne_of_none (sn7 _ _ o7) hD7).symm
    have k8 := k7.trans (.of (sn7.trans sa7))
    have o8 := sa7 _ _ (sn7 _ _ o7)
    clear hD7 lp7 sn7 sa7 t7 k7 o7 hp7
    refine ⟨_, rfl, c, CU, cx, [(("own_book" : Str), V.ref b), (("own_order" : Str), .ref to), (("own_view" : Str), .int v)], rfl, o8, T.clU, T.u_own_table, by simp, ?_⟩
    rw [pcu4]
    have k9 : Kp c H (upd H8 c (.ins CU cx [(("own_book" : Str), V.ref b), (("own_order" : Str), .ref to), (("own_view" : Str), .int v), (("own_table" : Str), .ref Dt)])) := k8.trans Kp.upd
    have o9 : (upd H8 c (.ins CU cx [(("own_book" : Str), V.ref b), (("own_order" : Str), .ref to), (("own_view" : Str), .int v), (("own_table" : Str), .ref Dt)])) c = some (.ins CU cx [(("own_book" : Str), V.ref b), (("own_order" : Str), .ref to), (("own_view" : Str), .int v), (("own_table" : Str), .ref Dt)]) := upd_same
    have ea7 := (upd_ne (o := .ins CU cx [(("own_book" : Str), V.ref b), (("own_order" : Str), .ref to), (("own_view" : Str), .int v), (("own_table" : Str), .ref Dt)]) nf7).trans ea7
    generalize upd H8 c (.ins CU cx [(("own_book" : Str), V.ref b), (("own_order" : Str), .ref to), (("own_view" : Str), .int v), (("own_table" : Str), .ref Dt)]) = H9 at k9 o9 ea7 ⊢
    have t9 := k9 _ _ hte nte
    refine ⟨_, rfl, te, E, _, rfl, .inl t9, win_keys wE, fun z9 p9 pz9 sz9 hp9 => ?_⟩
    refine ⟨p9, rfl, ⟨_, SqL.of upd_same⟩, fun De hD9 => ?_⟩
    have sn9 := same_new hp9 (o := .lst (z9.map V.str))
    have lp9 : (upd H9 p9 (.lst (z9.map V.str))) p9 = some (.lst (z9.map V.str)) := upd_same
    generalize upd H9 p9 (.lst (z9.map V.str)) = G9 at sn9 lp9 hD9 ⊢
    refine dcs z9 (walk_listF (K := K) V.str z9) (fun y => (Sum.inr y, reV E y)) (nd_map (f := fun z : Str => (Sum.inr z : Key)) (fun _ _ h => Sum.inr.inj h) (pz9.nodup_iff.mpr (win_nd wE))) hD9 (by have := pz9.length_eq; have := keyStrs_len E; have := wE.len; omega) (fun H' s => SqL.of (s _ _ lp9)) ?_ ?_
    · rintro i z x Hx Hy hi s9 ⟨rfl, z', ez, rfl⟩ N M hN
      have e1 : z = z' := Option.some.inj (hi.symm.trans ez)
      subst e1
      exact ⟨wipe_set, _, rfl, _, rfl, _, rfl, te, _, rfl, .inl ⟨E, Sum.inr z, .inl (s9 _ _ (sn9 _ _ t9)), rfl, (key_val (pz9.mem_iff.mp (List.mem_of_getElem? hi))).symm⟩, hN _ (Same.refl _)⟩
    intro H10 sa9 ea9
    have nf9 : De ≠ c := (ne_of_none (sn9 _ _ o9) hD9).symm
    have k10 := k9.trans (.of (sn9.trans sa9))
    have o10 := sa9 _ _ (sn9 _ _ o9)
    have ea7 := sa9 _ _ (sn9 _ _ ea7)
    clear hD9 lp9 sn9 sa9 t9 k9 o9 hp9
    refine ⟨_, rfl, c, CU, cx, [(("own_book" : Str), V.ref b), (("own_order" : Str), .ref to), (("own_view" : Str), .int v), (("own_table" : Str), .ref Dt)], rfl, o10, T.clU, T.u_own_ends, by simp, ?_⟩
    rw [pcu5]
    have k11 : Kp c H (upd H10 c (.ins CU cx [(("own_book" : Str), V.ref b), (("own_order" : Str), .ref to), (("own_view" : Str), .int v), (("own_table" : Str), .ref Dt), (("own_ends" : Str), .ref De)])) := k10.trans Kp.upd
    have o11 : (upd H10 c (.ins CU cx [(("own_book" : Str), V.ref b), (("own_order" : Str), .ref to), (("own_view" : Str), .int v), (("own_table" : Str), .ref Dt), (("own_ends" : Str), .ref De)])) c = some (.ins CU cx [(("own_book" : Str), V.ref b), (("own_order" : Str), .ref to), (("own_view" : Str), .int v), (("own_table" : Str), .ref Dt), (("own_ends" : Str), .ref De)]) := upd_same
    have ea7 := (upd_ne (o := .ins CU cx [(("own_book" : Str), V.ref b), (("own_order" : Str), .ref to), (("own_view" : Str), .int v), (("own_table" : Str), .ref Dt), (("own_ends" : Str), .ref De)]) nf7).trans ea7
    have ea9 := (upd_ne (o := .ins CU cx [(("own_book" : Str), V.ref b), (("own_order" : Str), .ref to), (("own_view" : Str), .int v), (("own_table" : Str), .ref Dt), (("own_ends" : Str), .ref De)]) nf9).trans ea9
    generalize upd H10 c (.ins CU cx [(("own_book" : Str), V.ref b), (("own_order" : Str), .ref to), (("own_view" : Str), .int v), (("own_table" : Str), .ref Dt), (("own_ends" : Str), .ref De)]) = H11 at k11 o11 ea7 ea9 ⊢
    have t11 := k11 _ _ htd ntd
    refine ⟨td, _, t11, trivial, fun od' => ?_⟩
    refine ⟨_, rfl, td, od', rfl, .inl ⟨W, upd_same, fun Ds hDs => ?_⟩⟩
    have nDs := lock_ne hDs
    have w60 := wW.len
    refine scs W walk_keys lenKey hDs (by omega) (fun H' s => s _ _ upd_same) ?_ ?_
    · rintro i kv x Hx Hy hi s9 ⟨rfl, k', v', ek, rfl⟩ N M hN
      have e1 : kv = (k', v') := Option.some.inj (hi.symm.trans ek)
      subst e1
      obtain ⟨z, y, ey, h1, h2, _⟩ := wW.ent _ (List.mem_of_getElem? hi)
      cases ey
      have lz := cs_len z
      exact ⟨wipe_set, _, rfl, z, rfl, fits_sz (by omega), hN _ (Same.refl _)⟩
    intro H12 l s12 hml hll e12
    have S12 := unlock t11 s12
    have e12' : upd H12 td (.dK W) Ds = some (SetO w Ds (inS l) (cntS l)) := (upd_ne nDs).trans e12
    refine ⟨s12 _ _ upd_same, ?_⟩
    have o12 := S12 _ _ o11
    have k12 := k11.trans (.of S12)
    have ea7 := S12 _ _ ea7
    have ea9 := S12 _ _ ea9
    generalize upd H12 td (.dK W) = H13 at S12 e12' o12 k12 ea7 ea9 ⊢
    refine ⟨Ds, inS l, cntS l, rfl, e12', fun ns p up mm ln hp => ?_⟩
    refine ⟨p, _, rfl, .inl ⟨SqL.of upd_same, fun ts hts => ?_⟩⟩
    have sF := (same_new hp (o := .lst (ns.map V.int))).trans (same_new hts (o := .tup (ns.map V.int)))
    have eF : (upd (upd H13 p (.lst (ns.map V.int))) ts (.tup (ns.map V.int))) ts = some (.tup (ns.map V.int)) := upd_same
    have o13 := sF _ _ o12
    have k13 := k12.trans (.of sF)
    have ea7 := sF _ _ ea7
    have ea9 := sF _ _ ea9
    have nts : ts ≠ c := (ne_of_none (same_new hp _ _ o12) hts).symm
    generalize (upd (upd H13 p (.lst (ns.map V.int))) ts (.tup (ns.map V.int))) = H14 at sF eF o13 k13 ea7 ea9 ⊢
    refine ⟨_, rfl, c, CU, cx, [(("own_book" : Str), V.ref b), (("own_order" : Str), .ref to), (("own_view" : Str), .int v), (("own_table" : Str), .ref Dt), (("own_ends" : Str), .ref De)], rfl, o13, T.clU, T.u_own_sizes, by simp, ?_⟩
    rw [pcu6]
    have kF : Kp c H (upd H14 c (.ins CU cx [(("own_book" : Str), V.ref b), (("own_order" : Str), .ref to), (("own_view" : Str), .int v), (("own_table" : Str), .ref Dt), (("own_ends" : Str), .ref De), (("own_sizes" : Str), .ref ts)])) := k13.trans Kp.upd
    exact k _ ⟨wW, wE, op, v1, v2, b, cx, to, Dt, De, ts, _, _, ns, upd_same, B.kpc hc kF, kF _ _ hto nto, (upd_ne nf7).trans ea7, (upd_ne nf9).trans ea9, (upd_ne nts).trans eF, val_laid pz7, val_laid pz9, sizes_of wW hml up mm, win_laid wW pz7, win_laid wE pz9⟩ kF
theorem sc_Cutter_told_by : FnScope ["self", "window", "is_ended", "size", "piece"] ["self", "window", "is_ended"] (defScope s_Cutter_told_by) := ⟨rfl, rfl, rfl, by decide +kernel, rfl, by decide +kernel, by decide +kernel⟩
theorem ok_Cutter_told_by {f : Addr} {fd : FuncData} (F : Fun K "told_by" "Cutter.told_by" s_Cutter_told_by f fd) (T : Txt K mg C CU) : FnOk P w K mg base CX0 2 f fd ["self", "window", "is_ended"] (spToldBy C CU) := by
  refine F.ok sc_Cutter_told_by (fun vs H Q E h => ?_) (fun cdv A outer s H vs Q E hr h => ?_)
  · obtain ⟨c, kvs, ord, v, W, E, w, y, o, rfl, _⟩ := h
    rfl
  · have hu := hu_of hr
    obtain ⟨c, kvs, ord, v, W, E, z, y, o, rfl, A, hz, hy, k⟩ := h
    refine ⟨_, (pss_cons (ps_if (PW.pt (pw_and (pt_val (pv 2)) (pw_and1 (pt_cmp (pc_din hu (pv 1) (g_fld K (pv 0))))))) (pss_one (ps_ret (pe_dget hu (g_fld K (pv 0)) (pv 1) (fun _ _ => rfl)))) pss_nil)
      (pss_cons (ps_for PassesOwn.never rfl (g_tuple K (g_fld K (pv 0))) (pg_name (i := 3) sc_Cutter_told_by.nd rfl (Or.inl rfl)) (pss_one (ps_if (pt_cmp (pc_din hu (pe_slice sl_str (pv 1) po_none (po_some (pv 3))) (g_fld K (pv 0)))) (pss_one (ps_ret (pe_dget hu (g_fld K (pv 0)) (pe_slice sl_str (pv 1) po_none (po_some (pv 3))) (fun _ _ => rfl)))) pss_nil)))
      (pss_one (ps_ret (pe_ix (g_ix_list K) (pe_lc (own := [("piece", 4)]) rfl sc_Cutter_told_by.nd (g_tuple K (g_fld K (pv 0))) (blkOk_by (own := [("piece", 4)]) (N := ["self", "window", "is_ended", "size", "piece"]) (sc := defScope s_Cutter_told_by) (by decide +kernel)) (fun _ _ _ _ _ => (pg_name (i := 4) sc_Cutter_told_by.nd rfl (Or.inl rfl))) (fun _ _ _ _ _ => (pts_one (pt_val (pe_m1 PySem.F.slot_str_startswith PySem.F.type_str_startswith mt_startswith (pv 1) (pv 4))))) (fun _ _ _ _ _ => (pv 4))) pe_int (fun _ _ => rfl)))))), ?_⟩
    obtain ⟨b, cx, to, td, te, ts, T', E', ns, h1, B, hto, htd, hte, hts, eT, eE, S, _⟩ := A.ex
    have vT : ∀ z, valV T' (Sum.inr z) = (tabAt W z).map V.str := fun z => by rw [eT, A.wt.val]
    have vE : ∀ z, valV E' (Sum.inr z) = (tabAt E z).map V.str := fun z => by rw [eE, A.we.val]
    have lz := cs_len z
    unfold tellS at hy
    cases o with
    | false =>
      have hr : (firstT W z).or (firstP ord z) = some y := hy
      refine ⟨_, rfl, false, rfl, ?_⟩
      refine ⟨_, rfl, c, CU, cx, _, _, rfl, h1, T.clU, T.u_own_sizes, cf_sizes, ts, rfl, ⟨_, SqT.of hts⟩, for_tup (K := K) (xs := ns.map V.int) (fun i σ H' => ∃ x3, σ = [some (.ref c), some (.str z), some (.bl false), x3, none] ∧ H' = H ∧ ∀ j k : Nat, j < i → ns[j]? = some (k : Int) → tabAt W (preS z k) = none) ⟨_, rfl, rfl, fun _ _ h => absurd h (Nat.not_lt_zero _)⟩ (fun i σ H' _ q => by obtain ⟨_, _, e, _⟩ := q; rw [e]; exact SqT.of hts) ?_ ?_⟩
      · rintro i x σ H' hx ⟨x3, rfl, eH, miss⟩
        subst eH
        obtain ⟨n', hn, rfl⟩ : ∃ n', ns[i]? = some n' ∧ x = V.int n' := by
          rw [List.getElem?_map] at hx
          cases q : ns[i]? with
          | none => rw [q] at hx; cases hx
          | some n' => rw [q] at hx; exact ⟨n', rfl, (Option.some.inj hx).symm⟩
        obtain ⟨n, rfl, n1⟩ := S.pos A.wt (List.mem_of_getElem? hn)
        refine ⟨_, rfl, _, rfl, _, rfl, z, rfl, fits_sz (by omega), ?_⟩
        refine ⟨_, rfl, c, CU, cx, _, _, rfl, h1, T.clU, T.u_own_table, cf_table, td, _, rfl, .inl ⟨T', Sum.inr _, .inl htd, rfl, rfl⟩, _, rfl, ?_⟩
        rw [cut_pre, vT]
        cases et : tabAt W (preS z n) with
        | some y' =>
          have e1 := first_hit S A.wt hn (fun j k hj hk => miss j k hj hk) et
          rw [e1] at hr
          cases hr
          refine itT rfl ?_
          exact ⟨_, rfl, c, CU, cx, _, _, rfl, h1, T.clU, T.u_own_table, cf_table, _, rfl, _, rfl, _, rfl, z, rfl, fits_sz (by omega), td, _, rfl, .inl ⟨T', Sum.inr _, .inl htd, rfl, by rw [cut_pre, vT, et]; rfl⟩, k _ (Same.refl _)⟩
        | none =>
          refine itF rfl ⟨_, rfl, rfl, fun j k hj hk => ?_⟩
          rcases Nat.lt_or_ge j i with q | q
          · exact miss j k q hk
          · have : j = i := by omega
            subst this
            rw [hn] at hk
            have : n = k := by have := Option.some.inj hk; omega
            subst this
            exact et
      · rintro σ H' ⟨x3, rfl, eH, miss⟩
        subst eH
        have e1 := first_miss S A.wt (w := z) (fun j k hk => miss j k (by rw [List.length_map]; exact (List.getElem?_eq_some_iff.mp hk).1) hk)
        rw [e1, Option.none_or] at hr
        refine ⟨_, rfl, c, CU, cx, _, _, rfl, h1, T.clU, T.u_own_order, cf_order, to, rfl, ⟨_, SqT.of hto⟩, fun D hD => ?_⟩
        refine lcs ord (walk_tupF (K := K) V.str ord) (fun y => if Txt.startswith z y = true then some (V.str y) else none) hD (by have := A.op.length_eq; have := keyStrs_len kvs; have := (ap_parts B.av).1.2; omega) (fun H' s => SqT.of (s _ _ hto)) ?_ ?_
        · rintro j y1 x H1 H2 hj s1 ⟨rfl, y2, ey, rfl⟩ N M hN hM
          have e3 : y1 = y2 := Option.some.inj (hj.symm.trans ey)
          subst e3
          refine ⟨wipe_set, _, rfl, ⟨_, rfl⟩, _, rfl, z, y1, rfl, rfl, _, rfl, ?_⟩
          refine itB (fun g => ?_) (fun g => ?_)
          · exact ⟨_, rfl, hN _ _ (if_pos g) (Same.refl _)⟩
          · exact hM _ (if_neg (by rw [g]; exact Bool.false_ne_true)) (Same.refl _)
        intro H2 s2 e2
        rw [fm_ifs] at e2
        unfold firstP at hr
        obtain ⟨r, er⟩ : ∃ r, ord.filter (fun y => Txt.startswith z y) = y :: r := by
          cases q : ord.filter (fun y => Txt.startswith z y) with
          | nil => rw [q] at hr; cases hr
          | cons a r => rw [q] at hr; cases hr; exact ⟨r, rfl⟩
        rw [er] at e2
        exact ⟨D, _, _, _, rfl, rfl, SqL.of e2, at_of (j := 0) rfl rfl, k _ s2⟩
      
    | true =>
      rw [if_pos rfl] at hy
      refine ⟨_, rfl, true, rfl, _, rfl, _, rfl, c, CU, cx, _, _, rfl, h1, T.clU, T.u_own_ends, cf_ends, te, _, rfl, .inl ⟨E', Sum.inr z, .inl hte, rfl, rfl⟩, _, rfl, ?_⟩
      rw [vE]
      cases ee : tabAt E z with
      | some y' =>
        rw [ee] at hy
        cases hy
        exact itT rfl ⟨_, rfl, c, CU, cx, _, _, rfl, h1, T.clU, T.u_own_ends, cf_ends, _, rfl, te, _, rfl, .inl ⟨E', Sum.inr z, .inl hte, rfl, by rw [vE, ee]; rfl⟩, k _ (Same.refl _)⟩
      | none =>
        have hr : (firstT W z).or (firstP ord z) = some y := by rw [ee] at hy; exact hy
        refine itF rfl ?_
        refine ⟨_, rfl, c, CU, cx, _, _, rfl, h1, T.clU, T.u_own_sizes, cf_sizes, ts, rfl, ⟨_, SqT.of hts⟩, for_tup (K := K) (xs := ns.map V.int) (fun i σ H' => ∃ x3, σ = [some (.ref c), some (.str z), some (.bl true), x3, none] ∧ H' = H ∧ ∀ j k : Nat, j < i → ns[j]? = some (k : Int) → tabAt W (preS z k) = none) ⟨_, rfl, rfl, fun _ _ h => absurd h (Nat.not_lt_zero _)⟩ (fun i σ H' _ q => by obtain ⟨_, _, e, _⟩ := q; rw [e]; exact SqT.of hts) ?_ ?_⟩
        · rintro i x σ H' hx ⟨x3, rfl, eH, miss⟩
          subst eH
          obtain ⟨n', hn, rfl⟩ : ∃ n', ns[i]? = some n' ∧ x = V.int n' := by
            rw [List.getElem?_map] at hx
            cases q : ns[i]? with
            | none => rw [q] at hx; cases hx
            | some n' => rw [q] at hx; exact ⟨n', rfl, (Option.some.inj hx).symm⟩
          obtain ⟨n, rfl, n1⟩ := S.pos A.wt (List.mem_of_getElem? hn)
          refine ⟨_, rfl, _, rfl, _, rfl, z, rfl, fits_sz (by omega), ?_⟩
          refine ⟨_, rfl, c, CU, cx, _, _, rfl, h1, T.clU, T.u_own_table, cf_table, td, _, rfl, .inl ⟨T', Sum.inr _, .inl htd, rfl, rfl⟩, _, rfl, ?_⟩
          rw [cut_pre, vT]
          cases et : tabAt W (preS z n) with
          | some y' =>
            have e1 := first_hit S A.wt hn (fun j k hj hk => miss j k hj hk) et
            rw [e1] at hr
            cases hr
            refine itT rfl ?_
            exact ⟨_, rfl, c, CU, cx, _, _, rfl, h1, T.clU, T.u_own_table, cf_table, _, rfl, _, rfl, _, rfl, z, rfl, fits_sz (by omega), td, _, rfl, .inl ⟨T', Sum.inr _, .inl htd, rfl, by rw [cut_pre, vT, et]; rfl⟩, k _ (Same.refl _)⟩
          | none =>
            refine itF rfl ⟨_, rfl, rfl, fun j k hj hk => ?_⟩
            rcases Nat.lt_or_ge j i with q | q
            · exact miss j k q hk
            · have : j = i := by omega
              subst this
              rw [hn] at hk
              have : n = k := by have := Option.some.inj hk; omega
              subst this
              exact et
        · rintro σ H' ⟨x3, rfl, eH, miss⟩
          subst eH
          have e1 := first_miss S A.wt (w := z) (fun j k hk => miss j k (by rw [List.length_map]; exact (List.getElem?_eq_some_iff.mp hk).1) hk)
          rw [e1, Option.none_or] at hr
          refine ⟨_, rfl, c, CU, cx, _, _, rfl, h1, T.clU, T.u_own_order, cf_order, to, rfl, ⟨_, SqT.of hto⟩, fun D hD => ?_⟩
          refine lcs ord (walk_tupF (K := K) V.str ord) (fun y => if Txt.startswith z y = true then some (V.str y) else none) hD (by have := A.op.length_eq; have := keyStrs_len kvs; have := (ap_parts B.av).1.2; omega) (fun H' s => SqT.of (s _ _ hto)) ?_ ?_
          · rintro j y1 x H1 H2 hj s1 ⟨rfl, y2, ey, rfl⟩ N M hN hM
            have e3 : y1 = y2 := Option.some.inj (hj.symm.trans ey)
            subst e3
            refine ⟨wipe_set, _, rfl, ⟨_, rfl⟩, _, rfl, z, y1, rfl, rfl, _, rfl, ?_⟩
            refine itB (fun g => ?_) (fun g => ?_)
            · exact ⟨_, rfl, hN _ _ (if_pos g) (Same.refl _)⟩
            · exact hM _ (if_neg (by rw [g]; exact Bool.false_ne_true)) (Same.refl _)
          intro H2 s2 e2
          rw [fm_ifs] at e2
          unfold firstP at hr
          obtain ⟨r, er⟩ : ∃ r, ord.filter (fun y => Txt.startswith z y) = y :: r := by
            cases q : ord.filter (fun y => Txt.startswith z y) with
            | nil => rw [q] at hr; cases hr
            | cons a r => rw [q] at hr; cases hr; exact ⟨r, rfl⟩
          rw [er] at e2
          exact ⟨D, _, _, _, rfl, rfl, SqL.of e2, at_of (j := 0) rfl rfl, k _ s2⟩
theorem sc_Cutter_cut_in : FnScope ["self", "text", "found", "at", "window"] ["self", "text"] (defScope s_Cutter_cut_in) := ⟨rfl, rfl, rfl, by decide +kernel, rfl, by decide +kernel, by decide +kernel⟩
theorem ok_Cutter_cut_in {f : Addr} {fd : FuncData} (F : Fun K "cut_in" "Cutter.cut_in" s_Cutter_cut_in f fd) (T : Txt K mg C CU) (c_Cutter_told_by : C8.Met P w K mg base 2 CU "told_by" (spToldBy C CU) []) : FnOk P w K mg base CX0 3 f fd ["self", "text"] (spCutIn C CU) := by
  refine F.ok sc_Cutter_cut_in (fun vs H Q E h => ?_) (fun cdv A outer s H vs Q E hr h => ?_)
  · obtain ⟨c, kvs, z, ys, rfl, _⟩ := h
    rfl
  · have hu := hu_of hr
    obtain ⟨c, kvs, z, ys, rfl, R, k⟩ := h
    refine ⟨_, (pss_cons (ps_par (i := 2) (j := 3) (by rfl) sc_Cutter_cut_in.nd rfl rfl (by decide) rfl rfl (pa_cons (pe_lst pa_nil) (pa_cons pe_int pa_nil)) (by rfl))
      (pss_cons (ps_while PassesOwn.never (pt_cmpR op_lt (pv 3) (pe_callB call_len_str (by rfl) T.b_len (by decide +kernel) (pa_cons (pv 1) pa_nil)) (nomark _)) (pss_cons (ps_set (i := 4) sc_Cutter_cut_in.nd rfl (Or.inl rfl) (pe_slice sl_str (pv 1) (po_some (pv 3)) (po_some (pe_op op_add (pv 3) (g_fld K (pv 0))))))
      (pss_cons (ps_expr (g_bm K PySem.F.plainAttrs_list PySem.F.slot_list_append PySem.F.type_list_append mt_append (pv 2) (pa_cons (C8.pe_mt c_Cutter_told_by hr (by decide) (pv 0) (pa_cons (pv 4) (pa_cons (pe_cmpR op_lt (pe_callB call_len_str (by rfl) T.b_len (by decide +kernel) (pa_cons (pv 4) pa_nil)) (g_fld K (pv 0)) (nomark _)) pa_nil))) pa_nil)))
      (pss_one (ps_aug (i := 3) sc_Cutter_cut_in.nd rfl (Or.inl rfl) (pe_callB call_len_str (by rfl) T.b_len (by decide +kernel) (pa_cons (pe_ix (g_ix_list K) (pv 2) (pe_un un_neg pe_int) (fun _ _ => rfl)) pa_nil)) ip_add)))))
      (pss_one (ps_ret (pv 2))))), ?_⟩
    obtain ⟨ord, v, W, E, A, run⟩ := id R.ex
    obtain ⟨b, cx, to, td, te, ts, T', E', ns, h1, B, hto, htd, hte, hts, eT, eE, S, _⟩ := id A.ex
    have lz := cs_len z
    have hz := R.len
    
    have nt : (cutF b to td te ts v).lookup ("told_by" : Str) = none := cf_no (by decide +kernel) (by decide +kernel) (by decide +kernel) (by decide +kernel) (by decide +kernel) (by decide +kernel)
    have fl := run.flat
    have v1 := A.v1
    have lr := run.len
    refine ⟨by show 0 ≤ sizeLine; decide, fun co hco => ?_⟩
    refine ⟨_, _, rfl, ?_⟩
    refine ⟨fun m' σ H' => ∃ (i : Nat) (x4 : Option V), m' = ys.length - i ∧ σ = [some (.ref c), some (.str z), some (.ref co), some (.int (off ys i : Int)), x4] ∧ i ≤ ys.length ∧ H' co = some (.lst ((ys.take i).map V.str)) ∧ Same H H',
      ⟨_, 0, _, rfl, rfl, Nat.zero_le _, upd_same, same_new hco⟩, ?_⟩
    rintro m' σ H2 ⟨i, x4, rfl, rfl, hi, c2, s2⟩
    refine ⟨_, rfl, _, rfl, z, rfl, fits_sz (by omega), _, _, rfl, rfl, _, rfl, ?_⟩
    refine itB (fun g => ?_) (fun g => ?_)
    · have g := of_decide_eq_true g
      refine ⟨fun σ' H' => ∃ (i' : Nat) (x4 : Option V), ys.length - i' < ys.length - i ∧ σ' = [some (.ref c), some (.str z), some (.ref co), some (.int (off ys i' : Int)), x4] ∧ i' ≤ ys.length ∧ H' co = some (.lst ((ys.take i').map V.str)) ∧ Same H H', fun σ' H' ⟨i', x, h1, h2⟩ => ⟨_, h1, i', x, rfl, h2⟩, ?_⟩
      have hil : i < ys.length := by
        rcases Nat.lt_or_ge i ys.length with q | q
        · exact q
        · exfalso
          have : i = ys.length := by omega
          rw [this, off_all fl] at g
          omega
      have hy : ys[i]? = some ys[i] := List.getElem?_eq_getElem hil
      generalize ys[i] = y at hy
      have r2 := RunC.at' run hi
      rw [drop_head hy] at r2
      obtain ⟨ht, ey⟩ := r2.head
      have le := off_le fl i
      have h2 := s2 _ _ h1
      refine ⟨_, rfl, _, rfl, _, rfl, _, rfl, _, rfl, c, CU, cx, _, _, rfl, h2, T.clU, T.u_own_view, cf_view, _, _, rfl, rfl, _, rfl, z, rfl, fits_sz (by omega), ?_⟩
      rw [cut_win (by omega) (by omega)]
      have e1 := cs_sOf (((cs z).drop (off ys i)).take v.toNat)
      generalize hw : sOf (((cs z).drop (off ys i)).take v.toNat) = win at ht e1
      have lw := cs_len win
      have lw2 : win.length ≤ 8000 := by
        rw [← lw, e1, List.length_take, List.length_drop]
        omega
      have ed : decide ((win.length : Int) < v) = decide ((((cs z).drop (off ys i)).take v.toNat).length < v.toNat) := by
        rw [← e1, lw, Bool.eq_iff_iff, decide_eq_true_eq, decide_eq_true_eq]
        omega
      refine ⟨_, rfl, .inl ⟨rfl, _, SqL.of c2⟩, _, rfl, c, cx, _, rfl, h2, nt, _, rfl, _, rfl, win, rfl, fits_sz (by omega), _, rfl, c, CU, cx, _, _, rfl, h2, T.clU, T.u_own_view, cf_view, _, _, rfl, rfl, ?_⟩
      refine ⟨c, kvs, ord, v, W, E, win, y, _, rfl, A.same s2, lw2, by rw [ed]; exact ht, fun H3 s3 => ?_⟩
      have ly := cs_len y
      have c3 := s3 _ _ c2
      refine ⟨co, _, _, rfl, rfl, c3, by rw [List.length_map, List.length_take]; exact small1000' (by omega), ?_⟩
      have c5 : (upd H3 co (.lst ((ys.take i).map V.str ++ [.str y]))) co = some (.lst ((ys.take (i + 1)).map V.str)) := by rw [upd_same, List.take_succ, hy, List.map_append]; rfl
      have c5' : (upd H3 co (.lst ((ys.take i).map V.str ++ [.str y]))) co = some (.lst ((ys.take i).map V.str ++ [.str y])) := upd_same
      have s5 := same_mut (o := .lst ((ys.take i).map V.str ++ [.str y])) (s2.trans s3) hco
      have yl : y.length ≤ 8000 := by
        have := congrArg List.length ey.1
        rw [List.length_append, List.length_drop] at this
        omega
      refine ⟨_, rfl, _, rfl, _, rfl, co, _, _, _, rfl, rfl, SqL.of c5', atI_last, y, rfl, fits_sz (by omega), _, _, rfl, rfl, ?_⟩
      refine ⟨i + 1, some (V.str win), by omega, ?_, by omega, c5, s5⟩
      rw [off_succ hy, ly, Int.natCast_add]
      rfl
    · have g := of_decide_eq_false g
      have e : i = ys.length := by
        rcases Nat.lt_or_ge i ys.length with q | q
        · exfalso
          have r2 := RunC.at' run hi
          rw [drop_head (List.getElem?_eq_getElem q)] at r2
          obtain ⟨_, _, _, this⟩ := r2.head
          refine this (List.drop_eq_nil_of_le (by omega))
        · omega
      subst e
      rw [List.take_length] at c2
      exact ⟨_, rfl, k co _ hco c2 s2⟩
theorem sc_Cutter_price_in : FnScope ["self", "text", "piece"] ["self", "text"] (defScope s_Cutter_price_in) := ⟨rfl, rfl, rfl, by decide +kernel, rfl, by decide +kernel, by decide +kernel⟩
theorem ok_Cutter_price_in {f : Addr} {fd : FuncData} (F : Fun K "price_in" "Cutter.price_in" s_Cutter_price_in f fd) (T : Txt K mg C CU) (c_Cutter_cut_in : C8.Met P w K mg base 3 CU "cut_in" (spCutIn C CU) []) : FnOk P w K mg base CX0 4 f fd ["self", "text"] (spPriceC C CU) := by
  refine F.ok sc_Cutter_price_in (fun vs H Q E h => ?_) (fun cdv A outer s H vs Q E hr h => ?_)
  · obtain ⟨c, kvs, z, ys, rfl, _⟩ := h
    rfl
  · have hu := hu_of hr
    obtain ⟨c, kvs, z, ys, rfl, R, k⟩ := h
    refine ⟨_, (pss_one (ps_ret (pe_callB (g_sum K rfl) (by rfl) T.b_sum (by decide +kernel) (pa_cons (pe_lc (own := [("piece", 2)]) rfl sc_Cutter_price_in.nd (g_list K (C8.pe_mt c_Cutter_cut_in hr (by decide) (pv 0) (pa_cons (pv 1) pa_nil))) (blkOk_by (own := [("piece", 2)]) (N := ["self", "text", "piece"]) (sc := defScope s_Cutter_price_in) (by decide +kernel)) (fun _ _ _ _ _ => (pg_name (i := 2) sc_Cutter_price_in.nd rfl (Or.inl rfl))) (fun _ _ _ _ _ => pts_nil) (fun _ _ _ _ _ => (pe_dget hu (g_fld K (g_fld K (pv 0))) (pv 2) (fun _ _ => rfl)))) pa_nil)))), ?_⟩
    obtain ⟨ord, v, W, E, A, run⟩ := id R.ex
    obtain ⟨b, cx, to, td, te, ts, T', E', ns, h1, B, hto, htd, hte, hts, eT, eE, S, _⟩ := id A.ex
    have lz := cs_len z
    have hz := R.len
    
    have nt : (cutF b to td te ts v).lookup ("cut_in" : Str) = none := cf_no (by decide +kernel) (by decide +kernel) (by decide +kernel) (by decide +kernel) (by decide +kernel) (by decide +kernel)
    have lr := run.len
    have hall := R.all
    refine ⟨_, rfl, c, cx, _, rfl, h1, nt, _, rfl, c, kvs, z, ys, rfl, R, fun p H1 hp e1 s1 => ?_⟩
    have B1 := B.same s1
    obtain ⟨av, nd, ys', Lo, Mo, dx, d, tp, ta, od, pm, so, A1⟩ := id B1
    obtain ⟨_, al, _, _⟩ := ap_parts av
    have ef := tf_psOf al pm
    refine ⟨p, rfl, ⟨_, SqL.of e1⟩, fun D hD => ?_⟩
    refine lcs ys (walk_listF (K := K) V.str ys) (fun y => some (V.int ((tfD kvs y).getD 0))) hD (by omega) (fun H' s => SqL.of (s _ _ e1)) ?_ ?_
    · rintro j y x H3 H4 hj s3 ⟨rfl, y', ey, rfl⟩ N M hN hM
      have e1 : y = y' := Option.some.inj (hj.symm.trans ey)
      subst e1
      obtain ⟨q, hq⟩ := hall y (List.mem_of_getElem? hj)
      exact ⟨wipe_set, _, rfl, c, CU, cx, _, _, rfl, (s3 _ _ (s1 _ _ h1)), T.clU, T.u_own_book, cf_book, b, C, dx, _, _, rfl, s3 _ _ A1.ob, T.cl, T.n_own_prices, bf_prices, _, rfl, d, .int q, rfl, by rw [show some (V.int q) = (tfD kvs y).map V.int by rw [hq]; rfl]; exact .inl ⟨_, Sum.inr _, .inr ⟨od, s3 _ _ A1.dc⟩, rfl, by rw [tar_val (tar_book av pm), ef]⟩, hN _ _ (by rw [hq]; rfl) (Same.refl _)⟩
    intro H3 s3 e3
    rw [fm_some] at e3
    exact ⟨D, ys.map fun y => (tfD kvs y).getD 0, rfl, SqL.of (by rw [e3, List.map_map]; rfl), k _ (s1.trans s3)⟩
theorem sc_Cutter_cut : FnScope ["self", "text"] ["self", "text"] (defScope s_Cutter_cut) := ⟨rfl, rfl, rfl, by decide +kernel, rfl, by decide +kernel, by decide +kernel⟩
theorem ok_Cutter_cut {f : Addr} {fd : FuncData} (F : Fun K "cut" "Cutter.cut" s_Cutter_cut f fd) (T : Txt K mg C CU) (c_Cutter_cut_in : C8.Met P w K mg base 3 CU "cut_in" (spCutIn C CU) []) (c_require_text : HasO P w K mg base CX0 4 "require_text" ["book", "value"] (spReqText C)) : FnOk P w K mg base CX0 5 f fd ["self", "text"] (spCutT C CU) := by
  refine F.ok sc_Cutter_cut (fun vs H Q E h => ?_) (fun cdv A outer s H vs Q E hr h => ?_)
  · obtain ⟨c, kvs, z, ys, rfl, _⟩ := h
    rfl
  · have hu := hu_of hr
    obtain ⟨c, kvs, z, ys, rfl, R, k⟩ := h
    refine ⟨_, (pss_cons (ps_expr (pe_hasO c_require_text (hr.mono (by decide)) pass0 (pa_cons (g_fld K (pv 0)) (pa_cons (pv 1) pa_nil))))
      (pss_one (ps_ret (pe_callTy (g_tuple_of K) (by rfl) T.b_tuple (by decide +kernel) (pa_cons (C8.pe_mt c_Cutter_cut_in hr (by decide) (pv 0) (pa_cons (pv 1) pa_nil)) pa_nil))))), ?_⟩
    obtain ⟨ord, v, W, E, A, run⟩ := id R.ex
    obtain ⟨b, cx, to, td, te, ts, T', E', ns, h1, B, hto, htd, hte, hts, eT, eE, S, _⟩ := id A.ex
    have lz := cs_len z
    have hz := R.len
    have nt : (cutF b to td te ts v).lookup ("cut_in" : Str) = none := cf_no (by decide +kernel) (by decide +kernel) (by decide +kernel) (by decide +kernel) (by decide +kernel) (by decide +kernel)
    have ok : overB kvs z = true := over_text B.av R.ov R.len
    refine ⟨_, rfl, c, CU, cx, _, _, rfl, h1, T.clU, T.u_own_book, cf_book, _, rfl, b, kvs, z, rfl, B, by omega, ok, fun H1 s1 => ?_⟩
    have R1 := R.same s1
    have g1 := s1 _ _ h1
    
    refine ⟨_, rfl, c, cx, _, rfl, g1, nt, _, rfl, c, kvs, z, ys, rfl, R1, fun p H2 hp e2 s2 => ?_⟩
    have s12 := s1.trans s2
    exact ⟨p, _, rfl, .inl ⟨SqL.of e2, fun t ht => k t _ (s12.free ht) upd_same (s12.trans (same_new ht))⟩⟩
theorem sc_Cutter___call__ : FnScope ["self", "text"] ["self", "text"] (defScope s_Cutter___call__) := ⟨rfl, rfl, rfl, by decide +kernel, rfl, by decide +kernel, by decide +kernel⟩
theorem ok_Cutter___call__ {f : Addr} {fd : FuncData} (F : Fun K "__call__" "Cutter.__call__" s_Cutter___call__ f fd) (T : Txt K mg C CU) (c_Cutter_cut : C8.Met P w K mg base 5 CU "cut" (spCutT C CU) []) : FnOk P w K mg base CX0 6 f fd ["self", "text"] (spCutT C CU) := by
  refine F.ok sc_Cutter___call__ (fun vs H Q E h => ?_) (fun cdv A outer s H vs Q E hr h => ?_)
  · obtain ⟨c, kvs, z, ys, rfl, _⟩ := h
    rfl
  · have hu := hu_of hr
    obtain ⟨c, kvs, z, ys, rfl, R, k⟩ := h
    refine ⟨_, (pss_one (ps_ret (C8.pe_mt c_Cutter_cut hr (by decide) (pv 0) (pa_cons (pv 1) pa_nil)))), ?_⟩
    obtain ⟨ord, v, W, E, A, run⟩ := id R.ex
    obtain ⟨b, cx, to, td, te, ts, T', E', ns, h1, B, hto, htd, hte, hts, eT, eE, S, _⟩ := id A.ex
    have lz := cs_len z
    have hz := R.len
    have nt : (cutF b to td te ts v).lookup ("cut" : Str) = none := cf_no (by decide +kernel) (by decide +kernel) (by decide +kernel) (by decide +kernel) (by decide +kernel) (by decide +kernel)
    
    exact ⟨_, rfl, c, cx, _, rfl, h1, nt, _, rfl, c, kvs, z, ys, rfl, R, k⟩
theorem sc_Cutter_price : FnScope ["self", "text"] ["self", "text"] (defScope s_Cutter_price) := ⟨rfl, rfl, rfl, by decide +kernel, rfl, by decide +kernel, by decide +kernel⟩
theorem ok_Cutter_price {f : Addr} {fd : FuncData} (F : Fun K "price" "Cutter.price" s_Cutter_price f fd) (T : Txt K mg C CU) (c_Cutter_price_in : C8.Met P w K mg base 4 CU "price_in" (spPriceC C CU) []) (c_require_text : HasO P w K mg base CX0 4 "require_text" ["book", "value"] (spReqText C)) : FnOk P w K mg base CX0 5 f fd ["self", "text"] (spPriceC C CU) := by
  refine F.ok sc_Cutter_price (fun vs H Q E h => ?_) (fun cdv A outer s H vs Q E hr h => ?_)
  · obtain ⟨c, kvs, z, ys, rfl, _⟩ := h
    rfl
  · have hu := hu_of hr
    obtain ⟨c, kvs, z, ys, rfl, R, k⟩ := h
    refine ⟨_, (pss_cons (ps_expr (pe_hasO c_require_text (hr.mono (by decide)) pass0 (pa_cons (g_fld K (pv 0)) (pa_cons (pv 1) pa_nil))))
      (pss_one (ps_ret (C8.pe_mt c_Cutter_price_in hr (by decide) (pv 0) (pa_cons (pv 1) pa_nil))))), ?_⟩
    obtain ⟨ord, v, W, E, A, run⟩ := id R.ex
    obtain ⟨b, cx, to, td, te, ts, T', E', ns, h1, B, hto, htd, hte, hts, eT, eE, S, _⟩ := id A.ex
    have lz := cs_len z
    have hz := R.len
    have nt : (cutF b to td te ts v).lookup ("price_in" : Str) = none := cf_no (by decide +kernel) (by decide +kernel) (by decide +kernel) (by decide +kernel) (by decide +kernel) (by decide +kernel)
    have ok : overB kvs z = true := over_text B.av R.ov R.len
    refine ⟨_, rfl, c, CU, cx, _, _, rfl, h1, T.clU, T.u_own_book, cf_book, _, rfl, b, kvs, z, rfl, B, by omega, ok, fun H1 s1 => ?_⟩
    have R1 := R.same s1
    have g1 := s1 _ _ h1
    
    exact ⟨_, rfl, c, cx, _, rfl, g1, nt, _, rfl, c, kvs, z, ys, rfl, R1, fun H2 s2 => k _ (s1.trans s2)⟩
theorem sc_require_cutter : FnScope ["value"] ["value"] (defScope s_require_cutter) := ⟨rfl, rfl, rfl, by decide +kernel, rfl, by decide +kernel, by decide +kernel⟩
theorem ok_require_cutter {f : Addr} {fd : FuncData} (F : Fun K "require_cutter" "require_cutter" s_require_cutter f fd) (T : Txt K mg C CU) : FnOk P w K mg base CX0 1 f fd ["value"] (spReqCutE CU) := by
  refine F.ok sc_require_cutter (fun vs H Q E h => ?_) (fun cdv A outer s H vs Q E hr h => ?_)
  · obtain ⟨c, dx, fs, rfl, _⟩ := h
    rfl
  · have hu := hu_of hr
    obtain ⟨c, dx, fs, rfl, hc, k⟩ := h
    refine ⟨_, (pss_one (ps_if (pt_not (pt_val (pe_callB (C8.call_isC T.icU) (by rfl) T.b_isinstance (by decide +kernel) (pa_cons (pv 0) (pa_cons (pe_glob (v := .ref CU) rfl T.gU rfl) pa_nil))))) (pss_one ps_never) pss_nil)), ?_⟩
    exact ⟨_, rfl, c, dx, fs, rfl, hc, true, rfl, k⟩
theorem sc_boundaries_in : FnScope ["cutter", "text", "found", "piece"] ["cutter", "text"] (defScope s_boundaries_in) := ⟨rfl, rfl, rfl, by decide +kernel, rfl, by decide +kernel, by decide +kernel⟩
theorem ok_boundaries_in {f : Addr} {fd : FuncData} (F : Fun K "boundaries_in" "boundaries_in" s_boundaries_in f fd) (T : Txt K mg C CU) (c_Cutter_cut_in : C8.Met P w K mg base 3 CU "cut_in" (spCutIn C CU) []) : FnOk P w K mg base CX0 4 f fd ["cutter", "text"] (spBnd C CU) := by
  refine F.ok sc_boundaries_in (fun vs H Q E h => ?_) (fun cdv A outer s H vs Q E hr h => ?_)
  · obtain ⟨c, kvs, z, ys, rfl, _⟩ := h
    rfl
  · have hu := hu_of hr
    obtain ⟨c, kvs, z, ys, rfl, R, k⟩ := h
    refine ⟨_, (pss_cons (ps_set (i := 2) sc_boundaries_in.nd rfl (Or.inl rfl) (pe_lst (pa_cons pe_int pa_nil)))
      (pss_cons (ps_for PassesOwn.never rfl (g_list K (C8.pe_mt c_Cutter_cut_in hr (by decide) (pv 0) (pa_cons (pv 1) pa_nil))) (pg_name (i := 3) sc_boundaries_in.nd rfl (Or.inl rfl)) (pss_one (ps_expr (g_bm K PySem.F.plainAttrs_list PySem.F.slot_list_append PySem.F.type_list_append mt_append (pv 2) (pa_cons (pe_op op_add (pe_ix (g_ix_list K) (pv 2) (pe_un un_neg pe_int) (fun _ _ => rfl)) (pe_callB call_len_str (by rfl) T.b_len (by decide +kernel) (pa_cons (pv 3) pa_nil))) pa_nil)))))
      (pss_one (ps_ret (pv 2))))), ?_⟩
    obtain ⟨ord, v, W, Y, A, run⟩ := id R.ex
    obtain ⟨b, cx, to, td, te, ts, T', E', ns, h1, B, _⟩ := id A.ex
    have lz := cs_len z
    have hz := R.len
    have lr := run.len
    have fl := run.flat
    have nt : (cutF b to td te ts v).lookup ("cut_in" : Str) = none := cf_no (by decide +kernel) (by decide +kernel) (by decide +kernel) (by decide +kernel) (by decide +kernel) (by decide +kernel)
    
    refine ⟨by show 1 ≤ sizeLine; decide, fun fo hfo => ?_⟩
    have sf := same_new (o := .lst [.int 0]) hfo
    have F0 : (upd H fo (.lst [V.int 0])) fo = some (.lst (((bndI ys).take 1).map V.int)) := by rw [bnd_one]; exact upd_same
    generalize (upd H fo (.lst [V.int 0])) = H0 at sf F0 ⊢
    refine ⟨_, rfl, c, cx, _, rfl, sf _ _ h1, nt, _, rfl, c, kvs, z, ys, rfl, R.same sf, fun p H1 hp e1 s1 => ?_⟩
    have F1 := s1 _ _ F0
    have s01 := sf.trans s1
    have nf : fo ≠ p := ne_of_none F0 hp
    refine ⟨p, rfl, ⟨_, SqL.of e1⟩, for_list (K := K) (xs := ys.map V.str) (fun i σ H' => ∃ x3, σ = [some (.ref c), some (.str z), some (.ref fo), x3] ∧ H' p = some (.lst (ys.map V.str)) ∧ H' fo = some (.lst (((bndI ys).take (i + 1)).map V.int)) ∧ Same H H') ⟨_, rfl, e1, F1, s01⟩ (fun i σ H' _ q => by obtain ⟨_, _, q, _⟩ := q; exact SqL.of q) ?_ ?_⟩
    · rintro i x σ H2 hx ⟨x3, rfl, p2, f2, s2⟩
      obtain ⟨y, hy, rfl⟩ : ∃ y, ys[i]? = some y ∧ x = V.str y := by
        rw [List.getElem?_map] at hx
        cases q : ys[i]? with
        | none => rw [q] at hx; cases hx
        | some n' => rw [q] at hx; exact ⟨n', rfl, (Option.some.inj hx).symm⟩
      have hi : i < ys.length := (List.getElem?_eq_some_iff.mp hy).1
      have ly := cs_len y
      have le1 := off_le fl (i + 1)
      have oe := off_succ hy
      have tk : (bndI ys).take (i + 1) = (bndI ys).take i ++ [(off ys i : Int)] := by rw [List.take_succ, bndI_at (by omega)]; rfl
      have tk2 : (bndI ys).take (i + 1 + 1) = (bndI ys).take (i + 1) ++ [(off ys (i + 1) : Int)] := by rw [List.take_succ, bndI_at (by omega)]; rfl
      refine ⟨_, rfl, .inl ⟨rfl, _, SqL.of f2⟩, _, rfl, _, rfl, fo, _, _, .int (off ys i : Int), rfl, rfl, SqL.of f2, by rw [tk, List.map_append]; exact atI_last, _, rfl, y, rfl, fits_sz (by omega), _, _, rfl, rfl, ?_⟩
      refine ⟨fo, _, _, rfl, rfl, f2, by rw [List.length_map, List.length_take, bndI_len]; exact small1000' (by omega), ?_⟩
      refine ⟨_, rfl, (upd_ne nf.symm).trans p2, ?_, same_mut s2 hfo⟩
      rw [upd_same, tk2, List.map_append]
      have : (off ys i : Int) + (y.length : Int) = (off ys (i + 1) : Int) := by omega
      rw [← this]
      rfl
    · rintro σ H2 ⟨x3, rfl, p2, f2, s2⟩
      rw [List.length_map, List.take_of_length_le (by rw [bndI_len]; exact Nat.le_refl _)] at f2
      exact ⟨_, rfl, k fo H2 hfo f2 s2⟩
theorem sc_boundaries : FnScope ["cutter", "text"] ["cutter", "text"] (defScope s_boundaries) := ⟨rfl, rfl, rfl, by decide +kernel, rfl, by decide +kernel, by decide +kernel⟩
theorem ok_boundaries {f : Addr} {fd : FuncData} (F : Fun K "boundaries" "boundaries" s_boundaries f fd) (T : Txt K mg C CU) (c_require_cutter : HasO P w K mg base CX0 1 "require_cutter" ["value"] (spReqCutE CU)) (c_require_text : HasO P w K mg base CX0 4 "require_text" ["book", "value"] (spReqText C)) (c_boundaries_in : HasO P w K mg base CX0 4 "boundaries_in" ["cutter", "text"] (spBnd C CU)) : FnOk P w K mg base CX0 6 f fd ["cutter", "text"] (spBndT C CU) := by
  refine F.ok sc_boundaries (fun vs H Q E h => ?_) (fun cdv A outer s H vs Q E hr h => ?_)
  · obtain ⟨c, kvs, z, ys, rfl, _⟩ := h
    rfl
  · have hu := hu_of hr
    obtain ⟨c, kvs, z, ys, rfl, R, k⟩ := h
    refine ⟨_, (pss_cons (ps_expr (pe_hasO c_require_cutter (hr.mono (by decide)) pass0 (pa_cons (pv 0) pa_nil)))
      (pss_cons (ps_expr (pe_hasO c_require_text (hr.mono (by decide)) pass0 (pa_cons (g_fld K (pv 0)) (pa_cons (pv 1) pa_nil))))
      (pss_one (ps_ret (pe_callTy (g_tuple_of K) (by rfl) T.b_tuple (by decide +kernel) (pa_cons (pe_hasO c_boundaries_in (hr.mono (by decide)) pass0 (pa_cons (pv 0) (pa_cons (pv 1) pa_nil))) pa_nil)))))), ?_⟩
    obtain ⟨ord, v, W, Y, A, run⟩ := id R.ex
    obtain ⟨b, cx, to, td, te, ts, T', E', ns, h1, B, _⟩ := id A.ex
    have lz := cs_len z
    have hz := R.len
    have lr := run.len
    have fl := run.flat
    
    have ok : overB kvs z = true := over_text B.av R.ov R.len
    refine ⟨_, rfl, c, cx, _, rfl, h1, ?_⟩
    refine ⟨_, rfl, c, CU, cx, _, _, rfl, h1, T.clU, T.u_own_book, cf_book, _, rfl, b, kvs, z, rfl, B, by omega, ok, fun H1 s1 => ?_⟩
    refine ⟨_, rfl, _, rfl, c, kvs, z, ys, rfl, R.same s1, fun p H2 hp e2 s2 => ?_⟩
    have s12 := s1.trans s2
    exact ⟨p, _, rfl, .inl ⟨SqL.of e2, fun t ht => k t _ (s12.free ht) upd_same (s12.trans (same_new ht))⟩⟩
theorem sc_shared_start : FnScope ["one", "other", "count", "first", "second"] ["one", "other"] (defScope s_shared_start) := ⟨rfl, rfl, rfl, by decide +kernel, rfl, by decide +kernel, by decide +kernel⟩
theorem ok_shared_start {f : Addr} {fd : FuncData} (F : Fun K "shared_start" "shared_start" s_shared_start f fd) (T : Txt K mg C CU) : FnOk P w K mg base CX0 1 f fd ["one", "other"] (spShare K) := by
  refine F.ok sc_shared_start (fun vs H Q E h => ?_) (fun cdv A outer s H vs Q E hr h => ?_)
  · obtain ⟨a, b, ys, zs, rfl, _⟩ := h
    rfl
  · have hu := hu_of hr
    obtain ⟨a, b, ys, zs, rfl, ha, hb, ly, lz, k⟩ := h
    refine ⟨_, (pss_cons (ps_set (i := 2) sc_shared_start.nd rfl (Or.inl rfl) pe_int)
      (pss_cons (ps_for PassesOwn.never rfl (pi_zip (by rfl) T.b_zip (pa_cons (pv 0) (pa_cons (pv 1) pa_nil))) (g_tup K (n := 2) rfl (pgs_cons (pg_name (i := 3) sc_shared_start.nd rfl (Or.inl rfl)) (pgs_cons (pg_name (i := 4) sc_shared_start.nd rfl (Or.inl rfl)) pgs_nil))) (pss_cons (ps_if (pt_cmpR op_ne (pv 3) (pv 4) (nomark _)) (pss_one ps_break) pss_nil)
      (pss_one (ps_aug (i := 2) sc_shared_start.nd rfl (Or.inl rfl) pe_int ip_add))))
      (pss_one (ps_ret (pv 2))))), ?_⟩
    refine ⟨_, rfl, _, rfl, a, b, _, _, rfl, ha, hb, for_it (walk_zip (K := K) (a := a) (b := b) (xs := ys.map V.str) (ys := zs.map V.str) rfl) (Pv := fun i σ H' => ∃ x3 x4, σ = [some (.ref a), some (.ref b), some (.int (i : Int)), x3, x4] ∧ Same H H' ∧ ys.take i = zs.take i) ⟨_, _, rfl, Same.refl _, rfl⟩ (fun i σ H' _ q => by
      obtain ⟨_, _, _, s, _⟩ := q
      exact ⟨s.seq ha, s.seq hb⟩) ?_ ?_⟩
    · rintro i x σ H1 H2 hi ⟨x3, x4, rfl, s1, tk⟩ ⟨T1, k1, v1, rfl, hT, rfl, ek, ev⟩
      rw [List.length_map, List.length_map] at hi
      have hy : ys[i]? = some ys[i] := List.getElem?_eq_getElem (by omega)
      have hz : zs[i]? = some zs[i] := List.getElem?_eq_getElem (by omega)
      generalize ys[i] = y at hy
      generalize zs[i] = z at hz
      have ek : (ys.map V.str)[i]? = some k1 := ek
      have ev : (zs.map V.str)[i]? = some v1 := ev
      rw [List.getElem?_map, hy] at ek
      rw [List.getElem?_map, hz] at ev
      cases ek
      cases ev
      have sT := same_new hT (o := .tup [V.str y, V.str z])
      refine ⟨T1, _, rfl, SqT.of upd_same, rfl, _, _, rfl, _, _, rfl, rfl, ?_⟩
      refine ⟨_, rfl, _, rfl, rfl, _, rfl, ?_⟩
      by_cases e : y = z
      · subst e
        refine itF (by rw [decide_eq_true rfl]; rfl) ?_
        refine ⟨_, rfl, _, _, rfl, rfl, some (.str y), some (.str y), ?_, s1.trans sT, ?_⟩
        · rfl
        · rw [List.take_succ, List.take_succ, tk, hy, hz]
      · refine itT (by rw [decide_eq_false (fun q => e (V.str.inj q))]; rfl) ?_
        refine ⟨_, rfl, ?_⟩
        rw [show (i : Int) = (shareL ys zs : Int) from congrArg Int.ofNat (share_stop tk (by omega) (by omega) (.inr ⟨y, z, hy, hz, e⟩)).symm]
        exact k _ (s1.trans sT)
    · rintro σ H1 ⟨x3, x4, rfl, s1, tk⟩
      refine ⟨_, rfl, ?_⟩
      rw [List.length_map, List.length_map] at tk ⊢
      rw [show ((min ys.length zs.length : Nat) : Int) = (shareL ys zs : Int) from congrArg Int.ofNat (share_stop tk (Nat.min_le_left _ _) (Nat.min_le_right _ _) (.inl rfl)).symm]
      exact k _ s1
theorem sc_common_in : FnScope ["cutter", "old", "new", "rest", "there", "at"] ["cutter", "old", "new", "rest"] (defScope s_common_in) := ⟨rfl, rfl, rfl, by decide +kernel, rfl, by decide +kernel, by decide +kernel⟩
theorem ok_common_in {f : Addr} {fd : FuncData} (F : Fun K "common_in" "common_in" s_common_in f fd) (T : Txt K mg C CU) (c_boundaries_in : HasO P w K mg base CX0 4 "boundaries_in" ["cutter", "text"] (spBnd C CU)) : FnOk P w K mg base CX0 5 f fd ["cutter", "old", "new", "rest"] (spCom C CU) := by
  refine F.ok sc_common_in (fun vs H Q E h => ?_) (fun cdv A outer s H vs Q E hr h => ?_)
  · obtain ⟨c, kvs, o, n, r, ys, zs, rfl, _⟩ := h
    rfl
  · have hu := hu_of hr
    obtain ⟨c, kvs, o, n, r, ys, zs, rfl, A, k⟩ := h
    refine ⟨_, (pss_cons (ps_set (i := 4) sc_common_in.nd rfl (Or.inr rfl) (pe_dc (own := [("at", 5)]) rfl sc_common_in.nd (g_list K (pe_hasO c_boundaries_in (hr.mono (by decide)) pass0 (pa_cons (pv 0) (pa_cons (pe_op op_add_str (pv 1) (pv 3)) pa_nil)))) (blkOk_by (own := [("at", 5)]) (N := ["cutter", "old", "new", "rest", "there", "at"]) (sc := defScope s_common_in) (by decide +kernel)) (fun _ _ _ _ _ => (pg_name (i := 5) sc_common_in.nd rfl (Or.inl rfl))) (fun _ _ _ _ _ => pts_nil) (fun _ _ _ _ _ => (pe_op op_sub (pv 5) (pe_callB call_len_str (by rfl) T.b_len (by decide +kernel) (pa_cons (pv 1) pa_nil)))) (fun _ _ _ _ _ => pe_bl)))
      (pss_one (ps_ret (pe_ix (g_ix_list K) (pe_lc (own := [("at", 5)]) rfl sc_common_in.nd (g_list K (pe_hasO c_boundaries_in (hr.mono (by decide)) pass0 (pa_cons (pv 0) (pa_cons (pe_op op_add_str (pv 2) (pv 3)) pa_nil)))) (blkOk_by (own := [("at", 5)]) (N := ["cutter", "old", "new", "rest", "there", "at"]) (sc := defScope s_common_in) (by decide +kernel)) (fun _ _ _ _ _ => (pg_name (i := 5) sc_common_in.nd rfl (Or.inl rfl))) (fun _ _ _ _ _ => (pts_one (PW.pt (pw_and (pt_cmpR op_ge (pv 5) (pe_callB call_len_str (by rfl) T.b_len (by decide +kernel) (pa_cons (pv 2) pa_nil)) (nomark _)) (pw_and1 (pt_cmp (pc_din hu (pe_op op_sub (pv 5) (pe_callB call_len_str (by rfl) T.b_len (by decide +kernel) (pa_cons (pv 2) pa_nil))) (pv 4)))))))) (fun _ _ _ _ _ => (pe_op op_sub (pv 5) (pe_callB call_len_str (by rfl) T.b_len (by decide +kernel) (pa_cons (pv 2) pa_nil))))) pe_int (fun _ _ => rfl))))), ?_⟩
    have lo := A.lo
    have ln := A.ln
    have l1 := A.one.len
    have l2 := A.two.len
    have a1 : (o ++ r).length = o.length + r.length := str_app_len _ _
    have a2 : (n ++ r).length = n.length + r.length := str_app_len _ _
    obtain ⟨o1, v1, W1, Y1, A1, run1⟩ := A.one.ex
    obtain ⟨o2, v2, W2, Y2, A2, run2⟩ := A.two.ex
    have lr1 := run1.len
    have lr2 := run2.len
    have lc1 := cs_len (o ++ r)
    have lc2 := cs_len (n ++ r)
    refine ⟨_, rfl, _, rfl, _, rfl, o, r, rfl, rfl, fits_sz (by omega), c, kvs, _, ys, rfl, A.one, fun p H1 hp e1 s1 => ?_⟩
    refine ⟨p, rfl, ⟨_, SqL.of e1⟩, fun D hD => ?_⟩
    refine dcs (bndI ys) (walk_listF (K := K) V.int (bndI ys)) (fun x => (Sum.inl (x - (o.length : Int)), .bl true)) (nd_map (f := fun x : Int => (Sum.inl (x - (o.length : Int)) : Key)) (fun x y h => by injection h with h; omega) (bnd_nodup (nempty_run run1))) hD (by rw [bndI_len]; omega) (fun H' s => SqL.of (s _ _ e1)) ?_ ?_
    · rintro i x v H3 H4 hi s3 ⟨rfl, x', ex, rfl⟩ N M hN
      have e3 : x = x' := Option.some.inj (hi.symm.trans ex)
      subst e3
      exact ⟨wipe_set, _, rfl, _, rfl, o, rfl, fits_sz (by omega), _, _, rfl, rfl, hN _ (Same.refl _)⟩
    intro H2 s2 e2
    have s12 := s1.trans s2
    refine ⟨_, rfl, _, rfl, _, rfl, n, r, rfl, rfl, fits_sz (by omega), c, kvs, _, zs, rfl, A.two.same s12, fun p2 H3 hp2 e3 s3 => ?_⟩
    have d3 : H3 D = some (.dK (thereK (o.length : Int) ys)) := s3 _ _ e2
    refine ⟨p2, rfl, ⟨_, SqL.of e3⟩, fun D2 hD2 => ?_⟩
    refine lcs (bndI zs) (walk_listF (K := K) V.int (bndI zs)) (fun x => if (n.length : Int) ≤ x ∧ x - (n.length : Int) + (o.length : Int) ∈ bndI ys then some (.int (x - (n.length : Int))) else none) hD2 (by rw [bndI_len]; omega) (fun H' s => SqL.of (s _ _ e3)) ?_ ?_
    · rintro j x v Ha Hb hj sa ⟨rfl, x', ex, rfl⟩ N M hN hM
      have e5 : x = x' := Option.some.inj (hj.symm.trans ex)
      subst e5
      refine ⟨wipe_set, _, rfl, _, rfl, n, rfl, fits_sz (by omega), _, _, rfl, rfl, _, rfl, ?_⟩
      refine itB (fun g => ?_) (fun g => ?_)
      · have g := of_decide_eq_true g
        refine ⟨_, rfl, _, rfl, n, rfl, fits_sz (by omega), _, _, rfl, rfl, _, rfl, D, _, rfl, .inl ⟨_, Sum.inl (x - (n.length : Int)), .inl (sa _ _ d3), rfl, rfl⟩, _, congrArg V.bl there_is, ?_⟩
        refine itB (fun g2 => ?_) (fun g2 => ?_)
        · have g2 := of_decide_eq_true g2
          exact ⟨_, rfl, _, rfl, n, rfl, fits_sz (by omega), _, _, rfl, rfl, hN _ _ (if_pos ⟨g, g2⟩) (Same.refl _)⟩
        · have g2 := of_decide_eq_false g2
          exact hM _ (if_neg fun q => g2 q.2) (Same.refl _)
      · have g := of_decide_eq_false g
        exact hM _ (if_neg fun q => g q.1) (Same.refl _)
    intro H4 s4 e4
    obtain ⟨q, rest, eq, b1, b2, b3, b4⟩ := com_first (a := o.length) (b := n.length) (r := r) run1 run2 (by omega) (by omega)
    rw [eq] at e4
    have s14 := (s12.trans s3).trans s4
    exact ⟨D2, _, _, .int (q : Int), rfl, rfl, SqL.of e4, at_of (j := 0) rfl rfl, k q _ b1 b2 b3 b4 s14⟩
theorem sc_common_boundary : FnScope ["cutter", "old", "new", "rest", "text"] ["cutter", "old", "new", "rest"] (defScope s_common_boundary) := ⟨rfl, rfl, rfl, by decide +kernel, rfl, by decide +kernel, by decide +kernel⟩
theorem ok_common_boundary {f : Addr} {fd : FuncData} (F : Fun K "common_boundary" "common_boundary" s_common_boundary f fd) (T : Txt K mg C CU) (c_require_cutter : HasO P w K mg base CX0 1 "require_cutter" ["value"] (spReqCutE CU)) (c_require_text : HasO P w K mg base CX0 4 "require_text" ["book", "value"] (spReqText C)) (c_common_in : HasO P w K mg base CX0 5 "common_in" ["cutter", "old", "new", "rest"] (spCom C CU)) : FnOk P w K mg base CX0 6 f fd ["cutter", "old", "new", "rest"] (spCom C CU) := by
  refine F.ok sc_common_boundary (fun vs H Q E h => ?_) (fun cdv A outer s H vs Q E hr h => ?_)
  · obtain ⟨c, kvs, o, n, r, ys, zs, rfl, _⟩ := h
    rfl
  · have hu := hu_of hr
    obtain ⟨c, kvs, o, n, r, ys, zs, rfl, A, k⟩ := h
    refine ⟨_, (pss_cons (ps_expr (pe_hasO c_require_cutter (hr.mono (by decide)) pass0 (pa_cons (pv 0) pa_nil)))
      (pss_cons (ps_for PassesOwn.never rfl (g_tuple K (pe_tup (pa_cons (pv 1) (pa_cons (pv 2) (pa_cons (pv 3) pa_nil))))) (pg_name (i := 4) sc_common_boundary.nd rfl (Or.inl rfl)) (pss_one (ps_expr (pe_hasO c_require_text (hr.mono (by decide)) pass0 (pa_cons (g_fld K (pv 0)) (pa_cons (pv 4) pa_nil))))))
      (pss_one (ps_ret (pe_hasO c_common_in (hr.mono (by decide)) pass0 (pa_cons (pv 0) (pa_cons (pv 1) (pa_cons (pv 2) (pa_cons (pv 3) pa_nil))))))))), ?_⟩
    obtain ⟨o1, v1, W1, Y1, A1, run1⟩ := A.one.ex
    obtain ⟨b, cx, to, td, te, ts, T', E', ns, h1, B, _⟩ := id A1.ex
    have ok : ∀ z ∈ [o, n, r], overB kvs z = true ∧ z.length ≤ 8000 := fun z hz => by
      simp only [List.mem_cons, List.not_mem_nil, or_false] at hz
      rcases hz with rfl | rfl | rfl
      · exact ⟨over_text B.av A.oo A.lo, A.lo⟩
      · exact ⟨over_text B.av A.on A.ln, A.ln⟩
      · exact ⟨over_text B.av A.or_ A.lr, A.lr⟩
    refine ⟨_, rfl, c, cx, _, rfl, h1, ?_⟩
    refine ⟨_, rfl, _, rfl, _, rfl, by show 3 ≤ sizeLine; decide, fun tp htp => ?_⟩
    have s0 := same_new htp (o := .tup [V.str o, .str n, .str r])
    have f0 : (upd H tp (.tup [V.str o, .str n, .str r] : HO)) tp = some (.tup [V.str o, .str n, .str r] : HO) := upd_same
    generalize (upd H tp (.tup [V.str o, .str n, .str r] : HO)) = H0 at s0 f0 ⊢
    refine ⟨tp, rfl, ⟨_, SqT.of f0⟩, for_tup (K := K) (xs := [o, n, r].map V.str) (fun i σ H' => ∃ x4, σ = [some (.ref c), some (.str o), some (.str n), some (.str r), x4] ∧ Same H0 H') ⟨_, rfl, Same.refl _⟩ (fun i σ H' _ q => by obtain ⟨_, _, q⟩ := q; exact SqT.of (q _ _ f0)) ?_ ?_⟩
    · rintro i x σ H2 hx ⟨x4, rfl, s2⟩
      obtain ⟨z, hz, rfl⟩ : ∃ z, [o, n, r][i]? = some z ∧ x = V.str z := by
        rw [List.getElem?_map] at hx
        cases q : [o, n, r][i]? with
        | none => rw [q] at hx; cases hx
        | some n' => rw [q] at hx; exact ⟨n', rfl, (Option.some.inj hx).symm⟩
      obtain ⟨okz, lz⟩ := ok z (List.mem_of_getElem? hz)
      have s02 := s0.trans s2
      refine ⟨_, rfl, c, CU, cx, _, _, rfl, (s02 _ _ h1), T.clU, T.u_own_book, cf_book, _, rfl, b, kvs, z, rfl, B.same s02, by omega, okz, fun H3 s3 => ?_⟩
      exact ⟨_, rfl, s2.trans s3⟩
    · rintro σ H2 ⟨x4, rfl, s2⟩
      have s02 := s0.trans s2
      exact ⟨_, rfl, _, rfl, _, rfl, _, rfl, c, kvs, o, n, r, ys, zs, rfl, A.same s02, fun m H3 b1 b2 b3 b4 s3 => k m _ b1 b2 b3 b4 (s02.trans s3)⟩
theorem sc_cuts_compared : FnScope ["cutter", "old", "new", "one", "other", "index", "ended"] ["cutter", "old", "new"] (defScope s_cuts_compared) := ⟨rfl, rfl, rfl, by decide +kernel, rfl, by decide +kernel, by decide +kernel⟩
theorem ok_cuts_compared {f : Addr} {fd : FuncData} (F : Fun K "cuts_compared" "cuts_compared" s_cuts_compared f fd) (T : Txt K mg C CU) (c_Cutter_cut_in : C8.Met P w K mg base 3 CU "cut_in" (spCutIn C CU) []) (c_shared_start : HasO P w K mg base CX0 1 "shared_start" ["one", "other"] (spShare K)) : FnOk P w K mg base CX0 4 f fd ["cutter", "old", "new"] (spCmp C CU) := by
  refine F.ok sc_cuts_compared (fun vs H Q E h => ?_) (fun cdv A outer s H vs Q E hr h => ?_)
  · obtain ⟨c, kvs, o, n, ys, zs, rfl, _⟩ := h
    rfl
  · have hu := hu_of hr
    obtain ⟨c, kvs, o, n, ys, zs, rfl, R, R2, k⟩ := h
    refine ⟨_, (pss_cons (ps_par (i := 3) (j := 4) (by rfl) sc_cuts_compared.nd rfl rfl (by decide) rfl rfl (pa_cons (C8.pe_mt c_Cutter_cut_in hr (by decide) (pv 0) (pa_cons (pv 1) pa_nil)) (pa_cons (C8.pe_mt c_Cutter_cut_in hr (by decide) (pv 0) (pa_cons (pv 2) pa_nil)) pa_nil)) (by rfl))
      (pss_cons (ps_set (i := 5) sc_cuts_compared.nd rfl (Or.inl rfl) (pe_hasO c_shared_start (hr.mono (by decide)) pass0 (pa_cons (pv 3) (pa_cons (pv 4) pa_nil))))
      (pss_cons (ps_par (i := 3) (j := 4) (by rfl) sc_cuts_compared.nd rfl rfl (by decide) rfl rfl (pa_cons (pe_slice (g_sl_list K) (pv 3) (po_some (pv 5)) po_none) (pa_cons (pe_slice (g_sl_list K) (pv 4) (po_some (pv 5)) po_none) pa_nil)) (by rfl))
      (pss_cons (ps_set (i := 6) sc_cuts_compared.nd rfl (Or.inl rfl) (pe_hasO c_shared_start (hr.mono (by decide)) pass0 (pa_cons (pe_revL (pv 3)) (pa_cons (pe_revL (pv 4)) pa_nil))))
      (pss_one (ps_ret (pe_tup (pa_cons (pv 5) (pa_cons (pe_callTy (g_tuple_of K) (by rfl) T.b_tuple (by decide +kernel) (pa_cons (pe_slice (g_sl_list K) (pv 3) po_none (po_some (pe_op op_sub (pe_callB (g_len_seq K) (by rfl) T.b_len (by decide +kernel) (pa_cons (pv 3) pa_nil)) (pv 6)))) pa_nil)) (pa_cons (pe_callTy (g_tuple_of K) (by rfl) T.b_tuple (by decide +kernel) (pa_cons (pe_slice (g_sl_list K) (pv 4) po_none (po_some (pe_op op_sub (pe_callB (g_len_seq K) (by rfl) T.b_len (by decide +kernel) (pa_cons (pv 4) pa_nil)) (pv 6)))) pa_nil)) pa_nil)))))))))), ?_⟩
    obtain ⟨ord, v, W, Y, A, run⟩ := id R.ex
    obtain ⟨ord2, v2, W2, Y2, A2, run2⟩ := id R2.ex
    obtain ⟨b, cx, to, td, te, ts, T', E', ns, h1, B, _⟩ := id A.ex
    have nt : (cutF b to td te ts v).lookup ("cut_in" : Str) = none := cf_no (by decide +kernel) (by decide +kernel) (by decide +kernel) (by decide +kernel) (by decide +kernel) (by decide +kernel)
    
    have ly := run.len
    have lz := run2.len
    have lo := R.len
    have ln := R2.len
    have co := cs_len o
    have cn := cs_len n
    refine ⟨_, rfl, c, cx, _, rfl, h1, nt, _, rfl, c, kvs, o, ys, rfl, R, fun p H1 hp e1 s1 => ?_⟩
    refine ⟨_, rfl, c, cx, _, rfl, s1 _ _ h1, nt, _, rfl, c, kvs, n, zs, rfl, R2.same s1, fun q H2 hq e2 s2 => ?_⟩
    refine ⟨_, _, rfl, ?_⟩
    have e1' := s2 _ _ e1
    have sl := share_le (xs := ys) (ys := zs)
    refine ⟨_, rfl, _, rfl, p, q, ys, zs, rfl, SqL.of e1', SqL.of e2, by omega, by omega, fun H3 s3 => ?_⟩
    refine ⟨_, rfl, _, rfl, _, rfl, p, _, rfl, SqL.of (s3 _ _ e1'), fun p3 hp3 => ?_⟩
    rw [cutV_fromE (by rw [List.length_map]; exact sl.1), ← List.map_drop]
    generalize hG_ : upd H3 p3 _ = H4
    have s4 : Same H3 H4 := by rw [← hG_]; exact same_new hp3
    have f4 := (congrFun hG_ p3).symm.trans upd_same
    clear hG_
    refine ⟨_, rfl, _, rfl, _, rfl, q, _, rfl, SqL.of ((s3.trans s4) _ _ e2), fun q3 hq3 => ?_⟩
    rw [cutV_fromE (by rw [List.length_map]; exact sl.2), ← List.map_drop]
    generalize hG_ : upd H4 q3 _ = H5
    have s5 : Same H4 H5 := by rw [← hG_]; exact same_new hq3
    have g5 := (congrFun hG_ q3).symm.trans upd_same
    clear hG_
    have f5 := s5 _ _ f4
    refine ⟨_, _, rfl, ?_⟩
    refine ⟨_, rfl, p3, _, rfl, SqL.of f5, fun r1 hr1 => ?_⟩
    rw [← List.map_reverse]
    generalize hG_ : upd H5 r1 _ = H6
    have s6 : Same H5 H6 := by rw [← hG_]; exact same_new hr1
    have f6 := (congrFun hG_ r1).symm.trans upd_same
    clear hG_
    refine ⟨_, rfl, q3, _, rfl, SqL.of (s6 _ _ g5), fun r2 hr2 => ?_⟩
    rw [← List.map_reverse]
    generalize hG_ : upd H6 r2 _ = H7
    have s7 : Same H6 H7 := by rw [← hG_]; exact same_new hr2
    have f7 := (congrFun hG_ r2).symm.trans upd_same
    clear hG_
    have le1 : (ys.drop (shareL ys zs)).length ≤ 8000 := by rw [List.length_drop]; omega
    have le2 : (zs.drop (shareL ys zs)).length ≤ 8000 := by rw [List.length_drop]; omega
    have se := share_le (xs := (ys.drop (shareL ys zs)).reverse) (ys := (zs.drop (shareL ys zs)).reverse)
    rw [List.length_reverse, List.length_reverse] at se
    refine ⟨r1, r2, _, _, rfl, SqL.of (s7 _ _ f6), SqL.of f7, by rw [List.length_reverse]; exact le1, by rw [List.length_reverse]; exact le2, fun H8 s8 => ?_⟩
    have s58 := (s6.trans s7).trans s8
    have f8 := s58 _ _ f5
    have g8 := s58 _ _ g5
    have ge : goneL ys zs = (ys.drop (shareL ys zs)).take ((ys.drop (shareL ys zs)).length - cmpE ys zs) := rfl
    have ce : cameL ys zs = (zs.drop (shareL ys zs)).take ((zs.drop (shareL ys zs)).length - cmpE ys zs) := rfl
    have he : cmpE ys zs = shareL (ys.drop (shareL ys zs)).reverse (zs.drop (shareL ys zs)).reverse := rfl
    rw [← he] at se ⊢
    generalize cmpE ys zs = e at se ge ce ⊢
    refine ⟨_, rfl, _, rfl, _, rfl, p3, _, rfl, .inl (SqL.of f8), _, rfl, _, _, rfl, rfl, _, rfl, p3, _, rfl, SqL.of f8, fun u hu => ?_⟩
    rw [show (((ys.drop (shareL ys zs)).map V.str).length : Int) - (e : Int) = (((ys.drop (shareL ys zs)).length - e : Nat) : Int) by rw [List.length_map]; omega, cutV_to (by rw [List.length_map]; exact Nat.sub_le _ _), ← List.map_take, ← ge]
    generalize hG_ : upd H8 u _ = H9
    have s9 : Same H8 H9 := by rw [← hG_]; exact same_new hu
    have f9 := (congrFun hG_ u).symm.trans upd_same
    clear hG_
    refine ⟨u, _, rfl, .inl ⟨SqL.of f9, fun t1 ht1 => ?_⟩⟩
    generalize hG_ : upd H9 t1 _ = H10
    have s10 : Same H9 H10 := by rw [← hG_]; exact same_new ht1
    have f10 := (congrFun hG_ t1).symm.trans upd_same
    clear hG_
    have g10 := s10 _ _ (s9 _ _ g8)
    refine ⟨_, rfl, _, rfl, q3, _, rfl, .inl (SqL.of g10), _, rfl, _, _, rfl, rfl, _, rfl, q3, _, rfl, SqL.of g10, fun u2 hu2 => ?_⟩
    rw [show (((zs.drop (shareL ys zs)).map V.str).length : Int) - (e : Int) = (((zs.drop (shareL ys zs)).length - e : Nat) : Int) by rw [List.length_map]; omega, cutV_to (by rw [List.length_map]; exact Nat.sub_le _ _), ← List.map_take, ← ce]
    generalize hG_ : upd H10 u2 _ = H11
    have s11 : Same H10 H11 := by rw [← hG_]; exact same_new hu2
    have f11 := (congrFun hG_ u2).symm.trans upd_same
    clear hG_
    refine ⟨u2, _, rfl, .inl ⟨SqL.of f11, fun t2 ht2 => ?_⟩⟩
    generalize hG_ : upd H11 t2 _ = H12
    have s12 : Same H11 H12 := by rw [← hG_]; exact same_new ht2
    have f12 := (congrFun hG_ t2).symm.trans upd_same
    clear hG_
    refine ⟨by show 3 ≤ sizeLine; decide, fun t ht => ?_⟩
    have sA := (((((((((s1.trans s2).trans s3).trans s4).trans s5).trans s58).trans s9).trans s10).trans s11).trans s12)
    exact k t _ (sA.free ht) ⟨t1, t2, upd_same, same_new ht _ _ (s12 _ _ (s11 _ _ f10)), same_new ht _ _ f12⟩ (sA.trans (same_new ht))
theorem sc_recut : FnScope ["cutter", "text", "start", "stop", "signs"] ["cutter", "text", "start", "stop", "signs"] (defScope s_recut) := ⟨rfl, rfl, rfl, by decide +kernel, rfl, by decide +kernel, by decide +kernel⟩
theorem ok_recut {f : Addr} {fd : FuncData} (F : Fun K "recut" "recut" s_recut f fd) (T : Txt K mg C CU) (c_require_cutter : HasO P w K mg base CX0 1 "require_cutter" ["value"] (spReqCutE CU)) (c_require_text : HasO P w K mg base CX0 4 "require_text" ["book", "value"] (spReqText C)) (c_is_integer_within : HasO P w K mg base CX0 2 "is_integer_within" ["value", "least", "most"] (spWithin K)) (c_cuts_compared : HasO P w K mg base CX0 4 "cuts_compared" ["cutter", "old", "new"] (spCmp C CU)) : FnOk P w K mg base CX0 7 f fd ["cutter", "text", "start", "stop", "signs"] (spRecut C CU) := by
  refine F.ok sc_recut (fun vs H Q E h => ?_) (fun cdv A outer s H vs Q E hr h => ?_)
  · obtain ⟨c, kvs, z, g, n, a, b, ys, zs, rfl, _⟩ := h
    rfl
  · have hu := hu_of hr
    obtain ⟨c, kvs, z, g, n, sa, sb, ys, zs, rfl, ab, bz, og, lg, en, R, R2, k⟩ := h
    refine ⟨_, (pss_cons (ps_expr (pe_hasO c_require_cutter (hr.mono (by decide)) pass0 (pa_cons (pv 0) pa_nil)))
      (pss_cons (ps_expr (pe_hasO c_require_text (hr.mono (by decide)) pass0 (pa_cons (g_fld K (pv 0)) (pa_cons (pv 1) pa_nil))))
      (pss_cons (ps_if (pt_not (pt_val (pe_hasO c_is_integer_within (hr.mono (by decide)) pass0 (pa_cons (pv 2) (pa_cons pe_int (pa_cons (pe_callB call_len_str (by rfl) T.b_len (by decide +kernel) (pa_cons (pv 1) pa_nil)) pa_nil)))))) (pss_one ps_never) pss_nil)
      (pss_cons (ps_if (pt_not (pt_val (pe_hasO c_is_integer_within (hr.mono (by decide)) pass0 (pa_cons (pv 3) (pa_cons (pv 2) (pa_cons (pe_callB call_len_str (by rfl) T.b_len (by decide +kernel) (pa_cons (pv 1) pa_nil)) pa_nil)))))) (pss_one ps_never) pss_nil)
      (pss_cons (ps_expr (pe_hasO c_require_text (hr.mono (by decide)) pass0 (pa_cons (g_fld K (pv 0)) (pa_cons (pv 4) pa_nil))))
      (pss_cons (ps_if (pt_cmpR op_gt (pe_op op_add (pe_op op_sub (pe_callB call_len_str (by rfl) T.b_len (by decide +kernel) (pa_cons (pv 1) pa_nil)) (pe_op op_sub (pv 3) (pv 2))) (pe_callB call_len_str (by rfl) T.b_len (by decide +kernel) (pa_cons (pv 4) pa_nil))) (pe_glob (v := .int 8000) rfl T.g_MAX_SIGNS.choose_spec ⟨_, rfl⟩) (nomark _)) (pss_one ps_never) pss_nil)
      (pss_one (ps_ret (pe_hasO c_cuts_compared (hr.mono (by decide)) pass0 (pa_cons (pv 0) (pa_cons (pv 1) (pa_cons (pe_op op_add_str (pe_op op_add_str (pe_slice sl_str (pv 1) po_none (po_some (pv 2))) (pv 4)) (pe_slice sl_str (pv 1) (po_some (pv 3)) po_none)) pa_nil)))))))))))), ?_⟩
    obtain ⟨ord, v, W, Y, A, run⟩ := id R.ex
    obtain ⟨b, cx, to, td, te, ts, T', E', ns, h1, B, _⟩ := id A.ex
    have lz := R.len
    have ln := R2.len
    have cz := cs_len z
    have cg := cs_len g
    have cn := cs_len n
    have len := congrArg List.length en
    rw [List.length_append, List.length_append, List.length_take, List.length_drop] at len
    have ok : overB kvs z = true := over_text B.av R.ov R.len
    have okg : overB kvs g = true := over_text B.av og lg
    have within : ∀ {x lo hi : Int}, lo ≤ x → x ≤ hi → x.natAbs ≤ 8000 → inRange (.int x) lo hi = true := fun h1 h2 h3 => by
      show (decide (_ < 10 ^ 60) && (decide _ && decide _)) = true
      rw [decide_eq_true (Nat.lt_of_le_of_lt h3 (by decide +kernel)), decide_eq_true h1, decide_eq_true h2]
      rfl
    refine ⟨_, rfl, c, cx, _, rfl, h1, ?_⟩
    refine ⟨_, rfl, c, CU, cx, _, _, rfl, h1, T.clU, T.u_own_book, cf_book, _, rfl, b, kvs, z, rfl, B, by omega, ok, fun H1 s1 => ?_⟩
    refine ⟨_, rfl, _, rfl, z, rfl, fits_sz (by omega), .int (sa : Int), 0, (z.length : Int), rfl, tyd_int _, fun H2 s2 => ⟨true, congrArg V.bl (within (by omega) (by omega) (by omega)), itF rfl ?_⟩⟩
    refine ⟨_, rfl, _, rfl, _, rfl, z, rfl, fits_sz (by omega), .int (sb : Int), (sa : Int), (z.length : Int), rfl, tyd_int _, fun H3 s3 => ⟨true, congrArg V.bl (within (by omega) (by omega) (by omega)), itF rfl ?_⟩⟩
    have s13 := (s1.trans s2).trans s3
    refine ⟨_, rfl, c, CU, cx, _, _, rfl, (s13 _ _ h1), T.clU, T.u_own_book, cf_book, _, rfl, b, kvs, g, rfl, B.same s13, by omega, okg, fun H4 s4 => ?_⟩
    have s14 := s13.trans s4
    refine ⟨_, rfl, z, rfl, fits_sz (by omega), _, rfl, _, rfl, _, _, rfl, rfl, _, _, rfl, rfl, _, rfl, g, rfl, fits_sz (by omega), _, _, rfl, rfl, _, _, rfl, rfl, _, rfl, ?_⟩
    refine itF (decide_eq_false (by omega)) ?_
    have c1 : cs (cutS z none (some (sa : Int))) = (cs z).take sa := cs_cutTo (by omega)
    have c2 : cs (cutS z (some (sb : Int)) none) = (cs z).drop sb := cs_cutFrom (by omega)
    have w1 : (cutS z none (some (sa : Int))).length ≤ 8000 := by rw [← cs_len, c1, List.length_take]; omega
    have w2 : (cutS z (some (sb : Int)) none).length ≤ 8000 := by rw [← cs_len, c2, List.length_drop]; omega
    have w3 : (cutS z none (some (sa : Int)) ++ g).length = (cutS z none (some (sa : Int))).length + g.length := str_app_len _ _
    have e3 : (cutS z none (some (sa : Int)) ++ g) ++ cutS z (some (sb : Int)) none = n := str_ext (by rw [cs_app, cs_app, c1, c2, en])
    refine ⟨_, rfl, _, rfl, _, rfl, _, rfl, _, rfl, z, rfl, fits_sz (by omega), _, rfl, _, g, rfl, rfl, fits_sz (by omega), _, rfl, _, rfl, _, rfl, z, rfl, fits_sz (by omega), _, _, rfl, rfl, fits_sz (by omega), ?_⟩
    rw [e3]
    exact ⟨c, kvs, z, n, ys, zs, rfl, R.same s14, R2.same s14, fun p H5 hp ct s5 => k p _ (s14.free hp) ct (s14.trans s5)⟩
theorem sc__law_reel : FnScope ["script", "spot", "cell", "great", "blend"] ["script", "spot"] (defScope s__law_reel) := ⟨rfl, rfl, rfl, by decide +kernel, rfl, by decide +kernel, by decide +kernel⟩
theorem ok__law_reel {f : Addr} {fd : FuncData} (F : Fun K "_law_reel" "_law_reel" s__law_reel f fd) (T : Txt K mg C CU) : FnOk P w K mg base CX0 1 f fd ["script", "spot"] (spDice K) := by
  refine F.ok sc__law_reel (fun vs H Q E h => ?_) (fun cdv A outer s H vs Q E hr h => ?_)
  · obtain ⟨a, ns, s, rfl, _⟩ := h
    rfl
  · have hu := hu_of hr
    obtain ⟨a, ns, s, rfl, hS, hn, hs0, hs1, k⟩ := h
    refine ⟨_, (pss_cons (ps_set (i := 2) sc__law_reel.nd rfl (Or.inl rfl) (pe_ifExp (pt_cmpR op_lt (pv 1) (pe_callB (g_len_seq K) (by rfl) T.b_len (by decide +kernel) (pa_cons (pv 0) pa_nil)) (nomark _)) (pe_ix (g_ix_list K) (pv 0) (pv 1) (fun _ _ => rfl)) (pe_op op_add (pe_op op_mulW pe_int (pv 1)) pe_int)))
      (pss_cons (ps_set (i := 3) sc__law_reel.nd rfl (Or.inl rfl) (pe_op op_mod (pe_callTy call_int1 (by rfl) T.b_int (by decide +kernel) (pa_cons (pe_callB call_abs (by rfl) T.b_abs (by decide +kernel) (pa_cons (pv 2) pa_nil)) pa_nil)) (pe_op op_powW (pe_op op_powW pe_int pe_int) pe_int)))
      (pss_cons (ps_set (i := 4) sc__law_reel.nd rfl (Or.inl rfl) (pe_op op_add (pe_op op_add (pe_op op_add (pe_op op_mulW (pv 3) pe_int) (pe_op op_mulW pe_int (pv 1))) (pe_op op_mulW pe_int (pe_callTy call_int1 (by rfl) T.b_int (by decide +kernel) (pa_cons (pe_cmpR op_lt (pv 2) pe_int (nomark _)) pa_nil)))) pe_int))
      (pss_one (ps_ret (pe_lst (pa_cons (pe_callB (call_max2 rfl) (by rfl) T.b_max (by decide +kernel) (pa_cons pe_int (pa_cons (pe_op op_sub (pv 3) (pe_op op_powW pe_int pe_int)) pa_nil))) (pa_cons (pe_op op_mod (pe_callTy call_int1 (by rfl) T.b_int (by decide +kernel) (pa_cons (pv 4) pa_nil)) pe_int) (pa_cons pe_int pa_nil))))))))), ?_⟩
    refine tif_int (c := decide (s < ((ns.map V.int).length : Int))) (fun _ => True) (fun N hN => ?_) (fun e N hN => ?_) (fun e N hN => ?_) (fun cell _ => ?_)
    · exact ⟨_, rfl, _, rfl, _, _, rfl, .inl hS, _, _, rfl, rfl, _, rfl, hN⟩
    · have e1 : s.toNat < ns.length := by
        have := of_decide_eq_true e
        rw [List.length_map] at this
        omega
      refine ⟨_, rfl, _, rfl, _, _, _, _, rfl, rfl, hS, at_of (j := s.toNat) (by omega) (by rw [List.getElem?_map, List.getElem?_eq_getElem e1]; rfl), ?_⟩
      exact hN _ trivial
    · refine ⟨_, rfl, _, _, rfl, rfl, wide_mul (a := 8) (b := 8) (by decide) (by omega) (by decide) (by decide) (by decide), _, _, rfl, rfl, ?_⟩
      exact hN _ trivial
    · refine ⟨_, rfl, _, rfl, .inl ⟨_, rfl, _, _, rfl, rfl, ⟨by decide, by decide +kernel⟩, _, _, rfl, rfl, ⟨by decide, by decide +kernel⟩, _, _, rfl, rfl, (show (0 : Int) < ((10 : Int) ^ (58 : Int).toNat) ^ (10 : Int).toNat by decide +kernel), ?_⟩⟩
      have wb := big_mod (x := if cell < 0 then -cell else cell) (m := ((10 : Int) ^ (58 : Int).toNat) ^ (10 : Int).toNat) (by decide +kernel) (by decide +kernel)
      dsimp only [gName, tRet, tLst, tCons]
      generalize (if cell < 0 then -cell else cell) % ((10 : Int) ^ (58 : Int).toNat) ^ (10 : Int).toNat = great at wb ⊢
      obtain ⟨w0, w1⟩ := wb
      refine ⟨_, rfl, _, _, rfl, rfl, wide_mul (a := 2420) (b := 40) w1 (by decide) (by decide) (by decide) (by decide), _, rfl, _, _, rfl, rfl, wide_mul (a := 20) (b := 8) (by decide) (by omega) (by decide) (by decide) (by decide), _, _, rfl, rfl, _, rfl, _, _, rfl, rfl, .inr ⟨_, rfl, _, _, rfl, rfl, wide_mul (a := 8) (b := 8) (by decide) (by split <;> decide) (by decide) (by decide) (by decide), _, _, rfl, rfl, _, _, rfl, rfl, ?_⟩⟩
      dsimp only [gName, tRet, tLst, tCons]
      generalize great * 1000081 + 5741 * s + 31 * (if decide (cell < 0) = true then (1 : Int) else 0) + 7 = blend
      refine ⟨_, rfl, _, _, rfl, rfl, ⟨by decide, by decide +kernel⟩, _, _, rfl, rfl, _, _, rfl, _, rfl, .inl ⟨_, rfl, _, _, rfl, rfl, (show (0 : Int) < 2305843009213693973 by decide), ?_⟩⟩
      refine ⟨(by show 3 ≤ sizeLine; decide), fun p hp => ?_⟩
      obtain ⟨m0, m1⟩ := big_mod (x := blend) (m := 2305843009213693973) (by decide) (by decide +kernel)
      exact k p _ hp (same_new hp) ⟨_, _, _, upd_same, big_cut w0 w1 (by decide +kernel), big_of m0 m1, Int.le_refl _, by omega⟩
theorem sc__law_spin : FnScope ["reel", "total", "found", "one", "two"] ["reel", "total"] (defScope s__law_spin) := ⟨rfl, rfl, rfl, by decide +kernel, rfl, by decide +kernel, by decide +kernel⟩
theorem ok__law_spin {f : Addr} {fd : FuncData} (F : Fun K "_law_spin" "_law_spin" s__law_spin f fd) (T : Txt K mg C CU) : FnOk P w K mg base CX0 1 f fd ["reel", "total"] (spRoll) := by
  refine F.ok sc__law_spin (fun vs H Q E h => ?_) (fun cdv A outer s H vs Q E hr h => ?_)
  · obtain ⟨l, u, n, rfl, _⟩ := h
    rfl
  · have hu := hu_of hr
    obtain ⟨l, u, n, rfl, hu0, hu1, ⟨d0, d1, d2, hD, b0, b1, p2, q2⟩, k⟩ := h
    refine ⟨_, (pss_cons (ps_if (pt_cmpR op_gt (pe_ix (g_ix_list K) (pv 0) pe_int (fun _ _ => rfl)) pe_int (nomark _)) (pss_cons (ps_set (i := 2) sc__law_spin.nd rfl (Or.inl rfl) (pe_op op_mod (pe_callTy call_int1 (by rfl) T.b_int (by decide +kernel) (pa_cons (pe_ix (g_ix_list K) (pv 0) pe_int (fun _ _ => rfl)) pa_nil)) (pv 1)))
      (pss_cons (ps_asg (pe_op op_fdivW (pe_ix (g_ix_list K) (pv 0) pe_int (fun _ _ => rfl)) (pv 1)) (pg_sub (pv 0) pe_int set_list))
      (pss_one (ps_ret (pv 2))))) pss_nil)
      (pss_cons (ps_asg (pe_op op_add (pe_ix (g_ix_list K) (pv 0) pe_int (fun _ _ => rfl)) pe_int) (pg_sub (pv 0) pe_int set_list))
      (pss_cons (ps_set (i := 3) sc__law_spin.nd rfl (Or.inl rfl) (pe_op op_mod (pe_callTy call_int1 (by rfl) T.b_int (by decide +kernel) (pa_cons (pe_op op_add (pe_ix (g_ix_list K) (pv 0) pe_int (fun _ _ => rfl)) (pe_op op_mulW pe_int (pe_ix (g_ix_list K) (pv 0) pe_int (fun _ _ => rfl)))) pa_nil)) pe_int))
      (pss_cons (ps_set (i := 4) sc__law_spin.nd rfl (Or.inl rfl) (pe_op op_add (pe_op op_mulW (pe_op op_mod (pe_callTy call_int1 (by rfl) T.b_int (by decide +kernel) (pa_cons (pe_op op_mulW (pv 3) (pv 3)) pa_nil)) pe_int) (pv 3)) (pe_op op_mulW pe_int (pe_ix (g_ix_list K) (pv 0) pe_int (fun _ _ => rfl)))))
      (pss_one (ps_ret (pe_op op_mod (pe_callTy call_int1 (by rfl) T.b_int (by decide +kernel) (pa_cons (pe_op op_fdivW (pe_op op_mod (pe_callTy call_int1 (by rfl) T.b_int (by decide +kernel) (pa_cons (pe_op op_add (pv 4) (pe_ix (g_ix_list K) (pv 0) pe_int (fun _ _ => rfl))) pa_nil)) pe_int) pe_int) pa_nil)) (pv 1)))))))), ?_⟩
    refine ⟨_, rfl, _, _, _, _, rfl, rfl, SqL.of hD, rfl, _, _, rfl, rfl, _, rfl, ?_⟩
    have u0 : 0 < u := by omega
    refine itB (fun e => ?_) (fun e => ?_)
    · refine ⟨_, rfl, _, _, _, _, rfl, rfl, SqL.of hD, rfl, .inl ⟨_, rfl, _, rfl, _, _, rfl, rfl, u0, ?_⟩⟩
      refine ⟨_, rfl, _, _, _, _, rfl, rfl, SqL.of hD, rfl, _, rfl, _, _, rfl, rfl, wide_div (b := 64) u0 (by omega) (by decide) (by decide), ?_⟩
      refine ⟨_, rfl, _, _, _, _, rfl, rfl, hD, rfl, ?_⟩
      refine ⟨_, rfl, ?_⟩
      exact k _ _ (Int.emod_nonneg _ (by omega)) (Int.emod_lt_of_pos _ u0) Kp.upd ⟨_, _, _, upd_same, big_div b0 hu0, b1, p2, by omega⟩
    · refine ⟨_, rfl, _, _, _, _, rfl, rfl, SqL.of hD, rfl, _, _, rfl, rfl, _, rfl, _, _, _, _, rfl, rfl, hD, rfl, ?_⟩
      have hD2 : upd H l (.lst [.int d0, .int d1, .int (d2 + 1)]) l = some (.lst [.int d0, .int d1, .int (d2 + 1)]) := upd_same
      refine ⟨_, rfl, _, _, _, _, rfl, rfl, SqL.of hD2, rfl, _, rfl, _, _, _, _, rfl, rfl, SqL.of hD2, rfl, _, _, rfl, rfl, wide_mul (a := 40) (b := 64) (by decide) (by omega) (by decide) (by decide) (by decide), _, _, rfl, rfl, .inl ⟨_, rfl, _, _, rfl, rfl, (show (0 : Int) < 2305843009213693951 by decide), ?_⟩⟩
      have o1 := Int.emod_nonneg (d1 + 982451653 * (d2 + 1)) (by decide : (2305843009213693951 : Int) ≠ 0)
      have o2 := Int.emod_lt_of_pos (d1 + 982451653 * (d2 + 1)) (by decide : (0 : Int) < 2305843009213693951)
      dsimp only
      generalize (d1 + 982451653 * (d2 + 1)) % 2305843009213693951 = one' at o1 o2 ⊢
      refine ⟨_, rfl, _, rfl, _, _, rfl, rfl, wide_mul (a := 64) (b := 64) (by omega) (by omega) (by decide) (by decide) (by decide), ?_⟩
      refine .inl ⟨_, rfl, _, _, rfl, rfl, (show (0 : Int) < 1152921504606846899 by decide), ?_⟩
      have t1 := Int.emod_nonneg (one' * one') (by decide : (1152921504606846899 : Int) ≠ 0)
      have t2 := Int.emod_lt_of_pos (one' * one') (by decide : (0 : Int) < 1152921504606846899)
      dsimp only
      generalize (one' * one') % 1152921504606846899 = two' at t1 t2 ⊢
      refine ⟨_, rfl, _, _, rfl, rfl, wide_mul (a := 64) (b := 64) (by omega) (by omega) (by decide) (by decide) (by decide), ?_⟩
      refine ⟨_, rfl, _, _, _, _, rfl, rfl, SqL.of hD2, rfl, _, _, rfl, rfl, wide_mul (a := 20) (b := 64) (by decide) (by omega) (by decide) (by decide) (by decide), _, _, rfl, rfl, ?_⟩
      generalize two' * one' + 6971 * (d2 + 1) = two
      refine ⟨_, rfl, _, rfl, _, _, _, _, rfl, rfl, SqL.of hD2, rfl, _, _, rfl, rfl, .inl ⟨_, rfl, ?_⟩⟩
      refine ⟨_, _, rfl, rfl, (show (0 : Int) < 4398046511119 by decide), ?_⟩
      refine ⟨_, _, rfl, rfl, wide_div (b := 64) (by decide) (by decide) (by decide) (by decide), .inl ⟨_, rfl, _, rfl, _, _, rfl, rfl, u0, ?_⟩⟩
      exact k _ _ (Int.emod_nonneg _ (by omega)) (Int.emod_lt_of_pos _ u0) Kp.upd ⟨_, _, _, hD2, b0, b1, by omega, by omega⟩
theorem sc__law_pick : FnScope ["reel", "items"] ["reel", "items"] (defScope s__law_pick) := ⟨rfl, rfl, rfl, by decide +kernel, rfl, by decide +kernel, by decide +kernel⟩
theorem ok__law_pick {f : Addr} {fd : FuncData} (F : Fun K "_law_pick" "_law_pick" s__law_pick f fd) (T : Txt K mg C CU) (c__law_spin : HasO P w K mg base CX0 1 "_law_spin" ["reel", "total"] (spRoll)) : FnOk P w K mg base CX0 2 f fd ["reel", "items"] (spPick K) := by
  refine F.ok sc__law_pick (fun vs H Q E h => ?_) (fun cdv A outer s H vs Q E hr h => ?_)
  · obtain ⟨l, x, ys, n, rfl, _⟩ := h
    rfl
  · have hu := hu_of hr
    obtain ⟨l, x, ys, n, rfl, S, ne, hl, D, k⟩ := h
    have hpos : 0 < ys.length := List.length_pos_iff.mpr ne
    refine ⟨_, (pss_one (ps_ret (pe_ix (g_ix_seq K) (pv 1) (pe_hasO c__law_spin (hr.mono (by decide)) pass0 (pa_cons (pv 0) (pa_cons (pe_callB (g_len K) (by rfl) T.b_len (by decide +kernel) (pa_cons (pv 1) pa_nil)) pa_nil))) (fun _ _ => rfl)))), ?_⟩
    have hlen : LenV K x H ys.length := by
      cases S with
      | lst _ h => exact .inl ⟨_, h, rfl⟩
      | tup _ h => exact .inr ⟨_, h, rfl⟩
      | str h e => exact ⟨fits_sz (by omega), by rw [e, signsV_len]⟩
    refine ⟨_, rfl, _, rfl, _, rfl, _, _, rfl, hlen, l, _, n, rfl, by omega, by omega, D, fun r H' r0 r1 kp D' => ?_⟩
    have hr1 : r.toNat < ys.length := by omega
    have hat : ys[r.toNat]? = some ys[r.toNat] := List.getElem?_eq_getElem hr1
    have hmem : ys[r.toNat] ∈ ys := List.getElem_mem hr1
    cases S with
    | lst n h => exact .inl ⟨_, _, _, _, rfl, rfl, kp.seq n h, at_of (j := r.toNat) (by omega) hat, k _ _ hmem kp D'⟩
    | tup n h => exact .inr (.inl ⟨_, _, _, _, rfl, rfl, kp.tup n h, at_of (j := r.toNat) (by omega) hat, k _ _ hmem kp D'⟩)
    | @str z _ h e =>
      subst e
      have hc : ∃ c, (cs z)[r.toNat]? = some c := ⟨_, List.getElem?_eq_getElem (by rw [cs_len, ← signsV_len]; exact hr1)⟩
      obtain ⟨c, hc⟩ := hc
      have e2 : atI (cs z) r = some c := by
        have : r = ((r.toNat : Nat) : Int) := by omega
        rw [this]
        exact atI_nat hc
      refine .inr (.inr ⟨_, _, _, rfl, rfl, fits_sz (by omega), e2, ?_⟩)
      refine k _ _ ?_ kp D'
      unfold signsV
      exact List.mem_map.mpr ⟨c, List.mem_of_getElem? hc, rfl⟩
theorem sc__law_some : FnScope ["reel", "items", "lots", "left", "found", "turn"] ["reel", "items", "lots"] (defScope s__law_some) := ⟨rfl, rfl, rfl, by decide +kernel, rfl, by decide +kernel, by decide +kernel⟩
theorem ok__law_some {f : Addr} {fd : FuncData} (F : Fun K "_law_some" "_law_some" s__law_some f fd) (T : Txt K mg C CU) (c__law_spin : HasO P w K mg base CX0 1 "_law_spin" ["reel", "total"] (spRoll)) : FnOk P w K mg base CX0 2 f fd ["reel", "items", "lots"] (spSome K) := by
  refine F.ok sc__law_some (fun vs H Q E h => ?_) (fun cdv A outer s H vs Q E hr h => ?_)
  · obtain ⟨l, x, ys, m, n, rfl, _⟩ := h
    rfl
  · have hu := hu_of hr
    obtain ⟨l, x, ys, m, n, rfl, S, hl, hm, D, k⟩ := h
    refine ⟨_, (pss_cons (ps_par (i := 3) (j := 4) (by rfl) sc__law_some.nd rfl rfl (by decide) rfl rfl (pa_cons (pe_callTy (g_list_any K rfl) (by rfl) T.b_list (by decide +kernel) (pa_cons (pv 1) pa_nil)) (pa_cons (pe_lst pa_nil) pa_nil)) (by rfl))
      (pss_cons (ps_for PassesOwn.never rfl (pi_range1 (by rfl) T.b_range (pa_cons (pe_callB (call_min2 rfl) (by rfl) T.b_min (by decide +kernel) (pa_cons (pv 2) (pa_cons (pe_callB (g_len_seq K) (by rfl) T.b_len (by decide +kernel) (pa_cons (pv 3) pa_nil)) pa_nil))) pa_nil)) (pg_name (i := 5) sc__law_some.nd rfl (Or.inl rfl)) (pss_one (ps_expr (g_bm K PySem.F.plainAttrs_list PySem.F.slot_list_append PySem.F.type_list_append mt_append (pv 4) (pa_cons (g_bm K PySem.F.plainAttrs_list PySem.F.slot_list_pop PySem.F.type_list_pop mt_popAt (pv 3) (pa_cons (pe_hasO c__law_spin (hr.mono (by decide)) pass0 (pa_cons (pv 0) (pa_cons (pe_callB (g_len_seq K) (by rfl) T.b_len (by decide +kernel) (pa_cons (pv 3) pa_nil)) pa_nil))) pa_nil)) pa_nil)))))
      (pss_one (ps_ret (pv 4))))), ?_⟩
    have hL : ∀ (Q : VK), (∀ p, H p = none → Q (.ref p) (upd H p (.lst ys))) → rListAny K [x] H Q := by
      intro Q q
      cases S with
      | lst _ h => exact .inr ⟨_, _, rfl, .inl h, q⟩
      | tup _ h => exact .inr ⟨_, _, rfl, .inr h, q⟩
      | str h e =>
        subst e
        exact .inl ⟨_, rfl, fits_sz (by omega), q⟩
    refine ⟨_, rfl, hL _ fun lf hlf => ?_⟩
    refine ⟨by show 0 ≤ sizeLine; decide, fun fo hfo => ?_⟩
    have nlf : lf ≠ l := D.ne hlf
    have nfo : fo ≠ l := (D.new hlf).ne hfo
    have nff : lf ≠ fo := ne_of_none upd_same hfo
    have hfo0 : H fo = none := (same_new hlf).free hfo
    refine ⟨_, _, rfl, ?_⟩
    have hlen : (if (ys.length : Int) < (m : Int) then (ys.length : Int) else (m : Int)) = ((min m ys.length : Nat) : Int) := by split <;> omega
    refine ⟨_, rfl, _, rfl, lf, _, rfl, .inl (SqL.of (by rw [upd_ne nff]; exact upd_same)), _, _, rfl, _, congrArg (fun i => [V.int i]) hlen, by omega, by omega, ?_⟩
    rw [Int.toNat_natCast]
    refine for_range (lo := 0) (n := min m ys.length) (fun i σ H' => ∃ t zs rest, σ = [some (.ref l), some x, some (.int (m : Int)), some (.ref lf), some (.ref fo), t] ∧ (zs ++ rest).Perm ys ∧ zs.length = i ∧ H' lf = some (.lst rest) ∧ H' fo = some (.lst zs) ∧ Kp l H H' ∧ Dice H' l (n + (m - i)))
      ⟨_, [], ys, rfl, List.Perm.refl _, rfl, by rw [upd_ne nff]; exact upd_same, upd_same, ((Kp.refl _ _).new hlf).new hfo, (D.new hlf).new hfo⟩ ?_ ?_
    · rintro i σ H1 hi ⟨t, zs, rest, rfl, pm, zl, e1, e2, kp, D1⟩
      have lrest : rest.length + i = ys.length := by
        have := pm.length_eq
        rw [List.length_append, zl] at this
        omega
      refine ⟨_, rfl, .inl ⟨rfl, _, SqL.of e2⟩, _, rfl, .inl ⟨rfl, _, SqL.of e1⟩, _, rfl, _, rfl, lf, _, rfl, .inl (SqL.of e1), l, _, n + (m - (i + 1)), rfl, by omega, by omega, D1.le (by omega), fun r H2 r0 r1 kp2 D2 => ?_⟩
      obtain ⟨y, hy⟩ : ∃ y, rest[r.toNat]? = some y := ⟨_, List.getElem?_eq_getElem (by omega)⟩
      have e1' := kp2 _ _ e1 nlf
      have e2' := kp2 _ _ e2 nfo
      refine ⟨lf, rest, r, r.toNat, y, rfl, rfl, e1', by omega, by omega, ix_pos r0 (by omega), hy, ?_⟩
      refine ⟨fo, zs, y, rfl, rfl, by rw [upd_ne nff.symm]; exact e2', small1000' (by omega), ?_⟩
      refine ⟨_, zs ++ [y], rest.eraseIdx r.toNat, rfl, ?_, ?_, ?_, upd_same, ?_, ?_⟩
      · have h := erase_perm hy
        rw [List.append_assoc]
        exact (h.append_left zs).trans pm
      · rw [List.length_append, zl]
        rfl
      · rw [upd_ne nff]
        exact upd_same
      · exact ((kp.trans kp2).mut hlf).mut hfo0
      · exact (D2.upd nlf).upd nfo
    · rintro σ H1 ⟨t, zs, rest, rfl, pm, zl, e1, e2, kp, D1⟩
      exact ⟨_, rfl, k fo zs rest H1 hfo0 pm zl e2 kp (D1.le (by omega))⟩
theorem sc__law_text : FnScope ["reel", "signs", "lots", "at"] ["reel", "signs", "lots"] (defScope s__law_text) := ⟨rfl, rfl, rfl, by decide +kernel, rfl, by decide +kernel, by decide +kernel⟩
theorem ok__law_text {f : Addr} {fd : FuncData} (F : Fun K "_law_text" "_law_text" s__law_text f fd) (T : Txt K mg C CU) (c__law_pick : HasO P w K mg base CX0 2 "_law_pick" ["reel", "items"] (spPick K)) : FnOk P w K mg base CX0 3 f fd ["reel", "signs", "lots"] (spLetters K) := by
  refine F.ok sc__law_text (fun vs H Q E h => ?_) (fun cdv A outer s H vs Q E hr h => ?_)
  · obtain ⟨l, x, cl, m, n, rfl, _⟩ := h
    rfl
  · have hu := hu_of hr
    obtain ⟨l, x, cl, m, n, rfl, S, ne, hl, hm, D, k⟩ := h
    refine ⟨_, (pss_one (ps_ret (g_join K pe_str (pe_lc (own := [("at", 3)]) rfl sc__law_text.nd (pi_range1 (by rfl) T.b_range (pa_cons (pv 2) pa_nil)) (blkOk_by (own := [("at", 3)]) (N := ["reel", "signs", "lots", "at"]) (sc := defScope s__law_text) (by decide +kernel)) (fun _ _ _ _ _ => (pg_name (i := 3) sc__law_text.nd rfl (Or.inl rfl))) (fun _ _ _ _ _ => pts_nil) (fun _ _ _ _ _ => (pe_hasO c__law_pick (hr.mono (by decide)) pass0 (pa_cons (pv 0) (pa_cons (pv 1) pa_nil)))))))), ?_⟩
    refine ⟨⟨_, rfl⟩, _, rfl, _, rfl, by omega, by omega, fun p hp => ?_⟩
    have npl : p ≠ l := D.ne hp
    refine lc_range (fun i H' => ∃ zs : List Nat, zs.length = i ∧ (∀ c ∈ zs, c ∈ cl) ∧ H' p = some (.lst (zs.map chV)) ∧ Kp l H H' ∧ Dice H' l (n + (m - i)) ∧ i ≤ m)
      ⟨[], rfl, fun _ z => (List.not_mem_nil z).elim, upd_same, (Kp.refl _ _).new hp, D.upd npl, Nat.zero_le _⟩ ?_ ?_
    · rintro i H' hi ⟨zs, e1, e2, e3, kp, D', hi2⟩
      have e6 : Int.toNat (m : Int) = m := by omega
      rw [e6] at hi
      refine ⟨rfl, _, rfl, _, rfl, l, x, cl.map chV, n + (m - (i + 1)), rfl, S.kp kp, by simpa using ne, by simpa using hl, D'.le (by omega), fun y H2 hy kp2 D2 => ?_⟩
      obtain ⟨c, hc, rfl⟩ := List.mem_map.mp hy
      refine ⟨_, kp2 _ _ e3 npl, by rw [List.length_map]; exact Nat.lt_of_le_of_lt (by omega : zs.length ≤ 10000) (by decide), zs ++ [c], ?_, ?_, ?_, ?_, ?_, by omega⟩
      · rw [List.length_append, e1]
        rfl
      · intro d hd
        rcases List.mem_append.mp hd with hd | hd
        · exact e2 d hd
        · rw [List.mem_singleton.mp hd]
          exact hc
      · rw [upd_same, List.map_append]
        rfl
      · exact (kp.trans kp2).mut hp
      · exact D2.upd npl
    · rintro H' ⟨zs, e1, e2, e3, kp, D', hi2⟩
      have e6 : Int.toNat (m : Int) = m := by omega
      rw [e6] at e1 D'
      refine ⟨_, p, zs.map ch, rfl, rfl, .inl (SqL.of (by rw [e3, List.map_map]; rfl)), ?_, ?_⟩
      · rw [sum_ch, List.length_map]
        show zs.length + zs.length * 0 ≤ _
        omega
      · rw [join_ch]
        exact k zs H' e1 e2 kp (D'.le (by omega))
theorem sc__law_signs : FnScope ["reel", "lots"] ["reel", "lots"] (defScope s__law_signs) := ⟨rfl, rfl, rfl, by decide +kernel, rfl, by decide +kernel, by decide +kernel⟩
theorem ok__law_signs {f : Addr} {fd : FuncData} (F : Fun K "_law_signs" "_law_signs" s__law_signs f fd) (T : Txt K mg C CU) (c__law_some : HasO P w K mg base CX0 2 "_law_some" ["reel", "items", "lots"] (spSome K)) : FnOk P w K mg base CX0 3 f fd ["reel", "lots"] (spSignsE) := by
  refine F.ok sc__law_signs (fun vs H Q E h => ?_) (fun cdv A outer s H vs Q E hr h => ?_)
  · obtain ⟨l, m, n, rfl, _⟩ := h
    rfl
  · have hu := hu_of hr
    obtain ⟨l, m, n, rfl, hm, D, k⟩ := h
    refine ⟨_, (pss_one (ps_ret (pe_callB (g_sortedS K) (by rfl) T.b_sorted (by decide +kernel) (pa_cons (pe_hasO c__law_some (hr.mono (by decide)) pass0 (pa_cons (pv 0) (pa_cons pe_str (pa_cons (pv 1) pa_nil)))) pa_nil)))), ?_⟩
    refine ⟨_, rfl, _, rfl, l, .str (Str.ofString "abcdefghijklmnopqrstuvwxyz"), signsV (Str.ofString "abcdefghijklmnopqrstuvwxyz"), m, n, rfl, .str (by decide +kernel) rfl, by decide +kernel, by omega, D, fun p zs rest H1 hp pm zl e1 k1 D1 => ?_⟩
    have np : p ≠ l := D.ne hp
    obtain ⟨sg, rfl, sgl⟩ : ∃ sg : List Nat, zs = sg.map chV ∧ ∀ c ∈ sg, lett c = true := by
      refine lift_map fun v hv => ?_
      obtain ⟨c, hc, rfl⟩ := List.mem_map.mp (pm.mem_iff.mp (List.mem_append_left rest hv))
      exact ⟨c, rfl, List.all_eq_true.mp (show (Str.ofString "abcdefghijklmnopqrstuvwxyz").cps.toList.all lett = true by decide +kernel) c hc⟩
    have l26 : (signsV (Str.ofString "abcdefghijklmnopqrstuvwxyz")).length = 26 := by decide +kernel
    rw [List.length_map, l26] at zl
    refine ⟨p, sg.map ch, rfl, SqL.of (by rw [e1, chs_strs]), by rw [List.length_map]; omega, fun ys q pq so hq => ?_⟩
    obtain ⟨sh, rfl, shl⟩ := lift_ch (P := fun c => lett c = true) (ys := ys) fun y hy => by
      obtain ⟨c, hc, rfl⟩ := List.mem_map.mp (pq.mem_iff.mp hy)
      exact ⟨c, rfl, sgl c hc⟩
    have ln := pq.length_eq
    rw [List.length_map, List.length_map] at ln
    exact k q sh _ (kp_free k1 (D1.ne hq) hq) (by rw [upd_same, chs_strs]) (by omega) shl (k1.new hq) (D1.new hq)
theorem sc__law_prices : FnScope ["reel", "signs", "lots", "size", "top", "found", "turn", "piece", "sign"] ["reel", "signs", "lots", "size", "top"] (defScope s__law_prices) := ⟨rfl, rfl, rfl, by decide +kernel, rfl, by decide +kernel, by decide +kernel⟩
theorem ok__law_prices {f : Addr} {fd : FuncData} (F : Fun K "_law_prices" "_law_prices" s__law_prices f fd) (T : Txt K mg C CU) (c__law_spin : HasO P w K mg base CX0 1 "_law_spin" ["reel", "total"] (spRoll)) (c__law_text : HasO P w K mg base CX0 3 "_law_text" ["reel", "signs", "lots"] (spLetters K)) : FnOk P w K mg base CX0 4 f fd ["reel", "signs", "lots", "size", "top"] (spPricesE K) := by
  refine F.ok sc__law_prices (fun vs H Q E h => ?_) (fun cdv A outer s H vs Q E hr h => ?_)
  · obtain ⟨l, sa, sg, lo, sz, top, n, rfl, _⟩ := h
    rfl
  · have hu := hu_of hr
    obtain ⟨l, sa, sg, lo, sz, top, n, rfl, nsa, hs, n1, n4, hl, lo6, sz2, sz5, top1, top99, D, k⟩ := h
    refine ⟨_, (pss_cons (ps_set (i := 5) sc__law_prices.nd rfl (Or.inl rfl) (pe_callTy (g_dictP K rfl) (by rfl) T.b_dict (by decide +kernel) (pa_cons (pe_lc (own := [("sign", 8)]) rfl sc__law_prices.nd (g_list K (pv 1)) (blkOk_by (own := [("sign", 8)]) (N := ["reel", "signs", "lots", "size", "top", "found", "turn", "piece", "sign"]) (sc := defScope s__law_prices) (by decide +kernel)) (fun _ _ _ _ _ => (pg_name (i := 8) sc__law_prices.nd rfl (Or.inl rfl))) (fun _ _ _ _ _ => pts_nil) (fun _ _ _ _ _ => (pe_tup (pa_cons (pv 8) (pa_cons (pe_op op_add pe_int (pe_hasO c__law_spin (hr.mono (by decide)) pass0 (pa_cons (pv 0) (pa_cons (pv 4) pa_nil)))) pa_nil))))) pa_nil)))
      (pss_cons (ps_for PassesOwn.never rfl (pi_range1 (by rfl) T.b_range (pa_cons (pv 2) pa_nil)) (pg_name (i := 6) sc__law_prices.nd rfl (Or.inl rfl)) (pss_cons (ps_set (i := 7) sc__law_prices.nd rfl (Or.inl rfl) (pe_hasO c__law_text (hr.mono (by decide)) pass0 (pa_cons (pv 0) (pa_cons (pv 1) (pa_cons (pe_op op_add pe_int (pe_hasO c__law_spin (hr.mono (by decide)) pass0 (pa_cons (pv 0) (pa_cons (pe_op op_sub (pv 3) pe_int) pa_nil)))) pa_nil)))))
      (pss_one (ps_asg (pe_op op_add pe_int (pe_hasO c__law_spin (hr.mono (by decide)) pass0 (pa_cons (pv 0) (pa_cons (pv 4) pa_nil)))) (pg_sub (pv 5) (pv 7) (set_dict hu))))))
      (pss_one (ps_ret (pv 5))))), ?_⟩
    have nsg : sg ≠ [] := fun e => by
      rw [e] at n1
      simp at n1
    -- the single signs
    refine ⟨_, rfl, sa, rfl, ⟨_, hs⟩, fun L hL => ?_⟩
    have nL : L ≠ l := D.ne hL
    refine lc_it (walk_listF (K := K) chV sg) (fun j H' => ∃ prs : List (Addr × (Key × V)), prs.length = j ∧ H' L = some (.lst (prs.map fun p => V.ref p.1)) ∧ (∀ p ∈ prs, p.1 ≠ l ∧ p.1 ≠ L ∧ H' p.1 = some (.tup [kV p.2.1, p.2.2]) ∧ PairOk sg p.2) ∧ prs.map (fun p => p.2.1) = (sg.take j).map (fun c => (Sum.inr (ch c) : Key)) ∧ Kp l H H' ∧ Dice H' l (n + (100 - j)))
      ⟨[], rfl, upd_same, fun _ h => (List.not_mem_nil h).elim, rfl, (Kp.refl _ _).new hL, (D.new hL).le (by omega)⟩ (fun j H' _ q => by obtain ⟨_, _, _, _, _, q, _⟩ := q; exact q.seq nsa hs) ?_ ?_
    · rintro j x H1 H2 hj ⟨prs, prl, L1, pr1, pk, k1, D1⟩ ⟨rfl, c, hc, rfl⟩
      refine ⟨wipe_set, _, rfl, _, rfl, _, rfl, l, (top : Int), n + (100 - (j + 1)), rfl, by omega, by omega, D1.le (by omega), fun y H3 y0 y1 k3 D3 => ⟨_, _, rfl, rfl, ?_⟩⟩
      refine ⟨(by show 2 ≤ sizeLine; decide), fun tT hT => ?_⟩
      have nT : tT ≠ l := D3.ne hT
      have nTL : tT ≠ L := (ne_of_none (k3 _ _ L1 nL) hT).symm
      refine ⟨_, same_new hT _ _ (k3 _ _ L1 nL), by rw [List.length_map]; exact small1000' (by omega), prs ++ [(tT, (Sum.inr (ch c), .int (1 + y)))], by rw [List.length_append, prl]; rfl, by rw [upd_same, List.map_append]; rfl, fun p hp => ?_, ?_, ?_, ?_⟩
      · rcases List.mem_append.mp hp with h | h
        · obtain ⟨q1, q2, q3, q4⟩ := pr1 p h
          exact ⟨q1, q2, by rw [upd_ne q2]; exact same_new hT _ _ (k3 _ _ q3 q1), q4⟩
        · rw [List.mem_singleton.mp h]
          exact ⟨nT, nTL, by rw [upd_ne nTL]; exact upd_same, ch c, 1 + y, rfl, by simp [cs], fun d hd => by simp [cs] at hd; rw [hd]; exact List.mem_of_getElem? hc, by omega, by omega⟩
      · rw [List.map_append, pk, List.take_add_one, hc, List.map_append]
        rfl
      · exact ((k1.trans k3).new hT).mut hL
      · exact (D3.new hT).upd nL
    rintro H1 ⟨prs, prl, L1, pr1, pk, k1, D1⟩
    rw [List.take_length] at pk
    refine ⟨L, prs.map (·.1), prs.map (·.2), rfl, SqL.of (by rw [L1, List.map_map]; rfl), paired_of (F := fun (p : Addr) (kv : Key × V) => SqT K H1 p [kV kv.1, kv.2]) (ps := prs) (fun p hp => SqT.of (pr1 p hp).2.2.1), fun pd hpd => ?_⟩
    obtain ⟨P0, l0⟩ := PrOk.merge (sg := sg) (more := prs.map (·.2)) PrOk.nil fun kv hkv => by
      obtain ⟨p, hp, rfl⟩ := List.mem_map.mp hkv
      exact (pr1 p hp).2.2.2
    have has0 : ∀ c ∈ sg, (valV (mergeK [] (prs.map (·.2))) (Sum.inr (ch c) : Key)).isSome = true := fun c hc => merge_has (Or.inl (by
      rw [List.map_map]
      show (Sum.inr (ch c) : Key) ∈ prs.map fun p => p.2.1
      rw [pk]
      exact List.mem_map.mpr ⟨c, hc, rfl⟩))
    have npd : pd ≠ l := D1.ne hpd
    have hpd0 : H pd = none := kp_free k1 npd hpd
    rw [List.length_map, prl] at l0
    have l0' : (mergeK [] (prs.map (·.2))).length ≤ 4 := Nat.le_trans l0 (by show 0 + sg.length ≤ 4; omega)
    have D1' := (D1.new (o := .dK (mergeK [] (prs.map (·.2)))) hpd)
    have k1' := k1.new (o := .dK (mergeK [] (prs.map (·.2)))) hpd
    have e1' : (upd H1 pd (.dK (mergeK [] (prs.map (·.2))))) pd = some (.dK (mergeK [] (prs.map (·.2)))) := upd_same
    generalize mergeK [] (prs.map (·.2)) = kv0 at P0 has0 l0' D1' k1' e1' ⊢
    generalize (upd H1 pd (.dK kv0)) = H2 at D1' k1' e1' ⊢
    -- longer pieces
    refine ⟨_, rfl, (lo : Int), rfl, by omega, by omega, for_range (lo := 0) (n := (lo : Int).toNat) (fun i σ H' => ∃ x6 x7 x8, σ = [some (.ref l), some (.ref sa), some (.int (lo : Int)), some (.int (sz : Int)), some (.int (top : Int)), some (.ref pd), x6, x7, x8] ∧ ∃ kv, H' pd = some (.dK kv) ∧ PrOk sg kv ∧ kv.length ≤ 4 + i ∧ (∀ c ∈ sg, (valV kv (Sum.inr (ch c) : Key)).isSome = true) ∧ Kp l H H' ∧ Dice H' l (n + (95 - 7 * i)))
      ⟨_, _, _, rfl, kv0, e1', P0, l0', has0, k1', D1'.le (by omega)⟩ ?_ ?_⟩
    · rintro i σ H4 hi ⟨x6, x7, x8, rfl, kv, e4, P4, n4', g4, k4, D4⟩
      have ir : i < 6 := by omega
      refine ⟨_, rfl, _, rfl, _, rfl, _, rfl, _, _, rfl, rfl, l, ((sz : Int) - 1), n + (95 - 7 * i - 1), rfl, by omega, by omega, D4.le (by omega), fun r2 H6 r20 r21 k6 D6 => ⟨_, _, rfl, rfl, ?_⟩⟩
      refine ⟨l, .ref sa, sg, (2 + r2).toNat, n + (95 - 7 * (i + 1) + 1), by rw [Int.toNat_of_nonneg (by omega)]; rfl, .lst nsa ((k4.trans k6).seq nsa hs), nsg, by omega, by omega, D6.le (by omega), fun zs H7 zl zc k7 D7 => ?_⟩
      have e7 := k7 _ _ (k6 _ _ e4 npd) npd
      refine ⟨_, rfl, _, rfl, l, (top : Int), n + (95 - 7 * (i + 1)), rfl, by omega, by omega, D7.le (by omega), fun j H8 j0 j1 k8 D8 => ⟨_, _, rfl, rfl, ?_⟩⟩
      have e8 := k8 _ _ e7 npd
      refine ⟨_, rfl, _, rfl, pd, _, rfl, .inl ⟨kv, Sum.inr (sOf zs), e8, rfl, small1000' (by omega), rfl⟩, ?_⟩
      refine ⟨_, _, _, rfl, _, upd_same, P4.put (z := sOf zs) (by rw [cs_sOf]; omega) (by rw [cs_sOf]; exact zc) ⟨by omega, by omega⟩, ?_, fun c hc => ?_, (((k4.trans k6).trans k7).trans k8).mut hpd0, D8.upd npd⟩
      · exact Nat.le_trans put_len (by omega)
      · rw [valV_put]
        split
        · rfl
        · exact g4 c hc
    · rintro σ H4 ⟨x6, x7, x8, rfl, kv, e4, P4, n4', g4, k4, D4⟩
      obtain ⟨av, sgns⟩ := P4.right g4 hl n4 n1 (by omega)
      exact ⟨_, rfl, k pd kv H4 hpd0 npd e4 av P4.nd sgns k4 (D4.le (by omega))⟩
theorem sc__law_plan : FnScope ["reel", "prices", "top", "signs", "span", "order", "plan", "name", "size", "lots", "turn", "text", "starting", "piece"] ["reel", "prices", "top"] (defScope s__law_plan) := ⟨rfl, rfl, rfl, by decide +kernel, rfl, by decide +kernel, by decide +kernel⟩
theorem ok__law_plan {f : Addr} {fd : FuncData} (F : Fun K "_law_plan" "_law_plan" s__law_plan f fd) (T : Txt K mg C CU) {c : Addr} (hc : fd.code = .ref c) (TB : LamX.TabB base mg c PT) (c__law_spin : HasO P w K mg base CX0 1 "_law_spin" ["reel", "total"] (spRoll)) (c__law_some : HasO P w K mg base CX0 2 "_law_some" ["reel", "items", "lots"] (spSome K)) (c__law_text : HasO P w K mg base CX0 3 "_law_text" ["reel", "signs", "lots"] (spLetters K)) (c__law_pick : HasO P w K mg base CX0 2 "_law_pick" ["reel", "items"] (spPick K)) : FnG P w K mg base CX0 6 f fd ["reel", "prices", "top"] (spPlan [(PT, (("_law_plan.<locals>.<lambda>" : String) : Str))]) := by
  refine fn_gC F hc sc__law_plan (fun vs H Q E h => ?_) (fun A outer s H vs Q E hg hr h => ?_)
  · obtain ⟨l, d, kvs, m, n, rfl, _⟩ := h
    rfl
  · have hu := hu_of hr
    have hT : ∀ p ∈ [(PT, (("_law_plan.<locals>.<lambda>" : String) : Str))], p.1 = PT → p.2 = (("_law_plan.<locals>.<lambda>" : String) : Str) := fun p hp _ => by rw [List.mem_singleton.mp hp]
    obtain ⟨l, d, kvs, m, n, rfl, tabs, ndl, hd, av, nd, m1, m20, D, k⟩ := h
    refine ⟨_, (pss_cons (ps_setLc (i := 3) (own := [("piece", 13)]) rfl sc__law_plan.nd rfl rfl (sw_true rfl rfl rfl (by decide +kernel)) (g_list K (pe_callB (call_sortedD rfl) (by rfl) T.b_sorted (by decide +kernel) (pa_cons (pv 1) pa_nil))) (blkOk_by (own := [("piece", 13)]) (N := ["reel", "prices", "top", "signs", "span", "order", "plan", "name", "size", "lots", "turn", "text", "starting", "piece"]) (sc := defScope s__law_plan) (by decide +kernel)) (fun _ _ _ _ _ => (pg_name (i := 13) sc__law_plan.nd rfl (Or.inl rfl))) (fun _ _ _ _ _ => (pts_one (pt_cmpR op_eq (pe_callB call_len_str (by rfl) T.b_len (by decide +kernel) (pa_cons (pv 13) pa_nil)) pe_int (nomark _)))) (fun _ _ _ _ _ => (pv 13)))
      (pss_cons (ps_set (i := 4) sc__law_plan.nd rfl (Or.inl rfl) (pe_op op_add pe_int (pe_hasO c__law_spin (hr.mono (by decide)) pass0 (pa_cons (pv 0) (pa_cons (pv 2) pa_nil)))))
      (pss_cons (ps_set (i := 5) sc__law_plan.nd rfl (Or.inl rfl) (pe_hasO c__law_some (hr.mono (by decide)) pass0 (pa_cons (pv 0) (pa_cons (pe_callB (call_sortedD rfl) (by rfl) T.b_sorted (by decide +kernel) (pa_cons (pv 1) pa_nil)) (pa_cons (pe_callB call_lenF (by rfl) T.b_len (by decide +kernel) (pa_cons (pv 1) pa_nil)) pa_nil)))))
      (C8.pss_cut (ps_if (pt_cmpR op_eq (pe_hasO c__law_spin (hr.mono (by decide)) pass0 (pa_cons (pv 0) (pa_cons pe_int pa_nil))) pe_int (nomark _)) (pss_one (ps_set (i := 5) sc__law_plan.nd rfl (Or.inl rfl) (pe_sortLam (k := 0) (hr.mono (by decide)) (by rfl) T.b_sorted T.b_len TB rfl (List.mem_cons_self) hT rfl (pa_cons (pv 5) pa_nil) rfl rfl rfl (by decide +kernel) (by decide +kernel) rfl rfl rfl (fun _ _ _ _ _ => rfl)))) pss_nil)
      (pss_cons (ps_set (i := 6) sc__law_plan.nd rfl (Or.inl rfl) (pe_disp (pps_cons pe_str (pv 1) (pps_cons pe_str (pe_callTy (g_tuple_of K) (by rfl) T.b_tuple (by decide +kernel) (pa_cons (pv 5) pa_nil)) (pps_cons pe_str (pv 4) (pps_cons pe_str pe_dnewK (pps_cons pe_str pe_dnewK pps_nil))))) (by rfl) (by rfl) (fun z => by cases z) (by decide)))
      (pss_cons (ps_for PassesOwn.never rfl (g_list K (pe_lst (pa_cons (pe_tup (pa_cons pe_str (pa_cons (pv 4) pa_nil))) (pa_cons (pe_tup (pa_cons pe_str (pa_cons (pe_op op_sub (pv 4) pe_int) pa_nil))) pa_nil)))) (g_tup K (n := 2) rfl (pgs_cons (pg_name (i := 7) sc__law_plan.nd rfl (Or.inl rfl)) (pgs_cons (pg_name (i := 8) sc__law_plan.nd rfl (Or.inl rfl)) pgs_nil))) (pss_cons (ps_set (i := 9) sc__law_plan.nd rfl (Or.inl rfl) (pe_op op_sub (pe_hasO c__law_spin (hr.mono (by decide)) pass0 (pa_cons (pv 0) (pa_cons pe_int pa_nil))) pe_int))
      (pss_one (ps_for PassesOwn.never rfl (pi_range1 (by rfl) T.b_range (pa_cons (pe_ifExp (pt_cmpR op_gt (pv 8) pe_int (nomark _)) (pv 9) pe_int) pa_nil)) (pg_name (i := 10) sc__law_plan.nd rfl (Or.inl rfl)) (pss_cons (ps_set (i := 11) sc__law_plan.nd rfl (Or.inr rfl) (pe_hasO c__law_text (hr.mono (by decide)) pass0 (pa_cons (pv 0) (pa_cons (pv 3) (pa_cons (pe_op op_add pe_int (pe_hasO c__law_spin (hr.mono (by decide)) pass0 (pa_cons (pv 0) (pa_cons (pv 8) pa_nil)))) pa_nil)))))
      (pss_cons (ps_setLc (i := 12) (own := [("piece", 13)]) rfl sc__law_plan.nd rfl rfl (sw_true rfl rfl rfl (by decide +kernel)) (g_list K (pe_callB (call_sortedD rfl) (by rfl) T.b_sorted (by decide +kernel) (pa_cons (pv 1) pa_nil))) (blkOk_by (own := [("piece", 13)]) (N := ["reel", "prices", "top", "signs", "span", "order", "plan", "name", "size", "lots", "turn", "text", "starting", "piece"]) (sc := defScope s__law_plan) (by decide +kernel)) (fun _ _ _ _ _ => (pg_name (i := 13) sc__law_plan.nd rfl (Or.inl rfl))) (fun _ _ _ _ _ => (pts_one (pt_cmpR op_eq (pe_slice sl_str (pv 11) po_none (po_some (pe_callB call_len_str (by rfl) T.b_len (by decide +kernel) (pa_cons (pv 13) pa_nil)))) (pv 13) (nomark _)))) (fun _ _ _ _ _ => (pv 13)))
      (pss_one (ps_asg (pe_hasO c__law_pick (hr.mono (by decide)) pass0 (pa_cons (pv 0) (pa_cons (pv 12) pa_nil))) (pg_sub (pe_dget hu (pv 6) (pv 7) (fun _ _ => rfl)) (pv 11) (set_dict hu))))))))))
      (pss_one (ps_ret (pv 6))))))))), ?_⟩
    obtain ⟨⟨n1, n12⟩, al, _, _⟩ := ap_parts av
    have tar := tar_of av nd
    have good := tar.good
    have kl := keyStrs_len kvs
    refine ⟨_, rfl, d, kvs, keyStrs kvs, rfl, .inl hd, keys_of al, by omega, fun ys p pz sz hp => ?_⟩
    have s1 := same_new hp (o := .lst (ys.map V.str))
    have f1 : (upd H p (.lst (ys.map V.str) : HO)) p = some (.lst (ys.map V.str) : HO) := upd_same
    generalize (upd H p (.lst (ys.map V.str) : HO)) = H1 at s1 f1 ⊢
    have D1 := D.same s1
    have npl : p ≠ l := D.ne hp
    have ly := pz.length_eq
    have len5 : ∀ {ys : List Str}, ys.Perm (keyStrs kvs) → ∀ y ∈ ys, y.length ≤ 5 := fun pz y hy => by
      obtain ⟨_, h5, _⟩ := keyStrs_piece al y (pz.mem_iff.mp hy)
      have := cs_len y
      omega
    refine ⟨p, rfl, ⟨_, SqL.of f1⟩, fun S hS => ?_⟩
    refine lcs ys (walk_listF (K := K) V.str ys) (fun y => if decide ((y.length : Int) = 1) = true then some (V.str y) else none) hS (by omega) (fun H' s => SqL.of (s _ _ f1)) ?_ ?_
    · rintro j y x Ha Hb hj sa ⟨rfl, y', ey, rfl⟩ N M hN hM
      have e3 : y = y' := Option.some.inj (hj.symm.trans ey)
      subst e3
      have lenp := len5 pz y (List.mem_of_getElem? hj)
      refine ⟨wipe_set, _, rfl, y, rfl, fits_sz (by omega), rfl, _, congrArg V.bl v_int_eq, ?_⟩
      refine itB (fun g => ?_) (fun g => ?_)
      · exact ⟨_, rfl, hN _ _ (if_pos g) (Same.refl _)⟩
      · exact hM _ (if_neg (by rw [g]; exact Bool.false_ne_true)) (Same.refl _)
    intro H2 s2 e2
    rw [fm_ifs] at e2
    obtain ⟨sg, esg, sgo, sg12, nsg⟩ := alph av nd pz
    rw [esg, ← chs_strs] at e2
    have nS : S ≠ l := D1.ne hS
    have D2 := D1.same s2
    have s12 := s1.trans s2
    refine ⟨_, rfl, _, rfl, l, (m : Int), n + 399, rfl, by omega, by omega, D2.le (by omega), fun r H3 r0 r1 k3 D3 => ⟨_, _, rfl, rfl, ?_⟩⟩
    obtain ⟨sp0, esp, sp1, sp6⟩ : ∃ sp0 : Nat, 1 + r = (sp0 : Int) ∧ 1 ≤ sp0 ∧ sp0 ≤ m := ⟨(1 + r).toNat, by omega, by omega, by omega⟩
    rw [show (fun i j : Int => V.int (i + j)) 1 r = V.int (sp0 : Int) from congrArg V.int esp]
    have K3 : Kp l H H3 := (Kp.of s12).trans k3
    have e3 := k3 _ _ e2 nS
    refine ⟨_, rfl, _, rfl, d, kvs, keyStrs kvs, rfl, .inl (K3 _ _ hd ndl), keys_of al, by omega, fun ys3 p3 pz3 sz3 hp3 => ?_⟩
    have s4 := same_new hp3 (o := .lst (ys3.map V.str))
    have f4 : (upd H3 p3 (.lst (ys3.map V.str) : HO)) p3 = some (.lst (ys3.map V.str) : HO) := upd_same
    generalize (upd H3 p3 (.lst (ys3.map V.str) : HO)) = H4 at s4 f4 ⊢
    have ly3 := pz3.length_eq
    have D4 := D3.same s4
    have np3 : p3 ≠ l := D3.ne hp3
    refine ⟨_, rfl, d, kvs, rfl, .inl (s4 _ _ (K3 _ _ hd ndl)), ?_⟩
    refine ⟨l, .ref p3, ys3.map V.str, kvs.length, n + 380, rfl, .lst np3 (SqL.of f4), by rw [List.length_map]; omega, by omega, D4.le (by omega), fun o zs rest H5 ho pm zl e5 k5 D5 => ?_⟩
    obtain ⟨ord, rfl, _⟩ : ∃ ord : List Str, zs = ord.map V.str ∧ ∀ y ∈ ord, True := lift_map fun v hv => by
      obtain ⟨y, hy, rfl⟩ := List.mem_map.mp (pm.mem_iff.mp (List.mem_append_left rest hv))
      exact ⟨y, rfl, trivial⟩
    clear ‹∀ y ∈ ord, True›
    have pml := pm.length_eq
    rw [List.length_map, List.length_map] at zl
    rw [List.length_append, List.length_map, List.length_map] at pml
    have er : rest = [] := List.length_eq_zero_iff.mp (by omega)
    subst er
    rw [List.append_nil] at pm
    have pmo : ord.Perm (keyStrs kvs) := (perm_str pm).trans pz3
    have nol : o ≠ l := D4.ne ho
    have K5 : Kp l H H5 := (K3.trans (.of s4)).trans k5
    have eS5 := k5 _ _ (s4 _ _ e3) nS
    have T5 := Tabs.kp tabs D K5
    have U5 := K5.u
    clear K5 k5 e3 K3 s4 f4 D4 np3 ly3 D3 k3 esp hp3 sz3 pz3 D2 s12 s2 e2 s1 f1 D1 sz ho pm
    refine ⟨fun σ' H' => ∃ (o : Addr) (ord : List Str), σ' = [some (.ref l), some (.ref d), some (.int (m : Int)), some (.ref S), some (.int (sp0 : Int)), some (.ref o), none, none, none, none, none, none, none, none] ∧ ord.Perm (keyStrs kvs) ∧ H' o = some (.lst (ord.map V.str)) ∧ o ≠ l ∧ H' S = some (.lst (sg.map chV)) ∧ KpU l H H' ∧ Tabs [(PT, (("_law_plan.<locals>.<lambda>" : String) : Str))] H' ∧ Dice H' l (n + 379), ?_, ?_⟩
    · refine ⟨_, rfl, l, 2, n + 379, rfl, by decide, by decide, D5.le (by omega), fun r3 H6 r30 r31 k6 D6 => ⟨rfl, _, rfl, ?_⟩⟩
      have U6 := U5.trans k6.u
      have T6 := Tabs.kp T5 D5 k6
      have e6 := k6 _ _ e5 nol
      have eS6 := k6 _ _ eS5 nS
      rw [v_int_eq]
      refine itB (fun g => ?_) (fun g => ?_)
      · refine ⟨_, rfl, T6, o, ord, rfl, SqL.of e6, fun z hz => fits_sz (by have := len5 pmo z hz; omega), fun H7 eN T7 p2 hp2 => ?_⟩
        have s8 := same_new hp2 (o := .lst ((byKey negLen ord).map V.str))
        exact ⟨p2, _, rfl, (byKey_perm _ _).trans pmo, upd_same, (D6.en eN).ne hp2, s8 _ _ ((ExtN.u (l := l) eN) _ _ eS6 (by simp) nS), U6.trans ((ExtN.u eN).trans (Kp.of s8).u), Tabs.same T7 s8, (D6.en eN).same s8⟩
      · exact ⟨o, ord, rfl, pmo, e6, nol, eS6, U6, T6, D6⟩
    clear U5 T5 eS5 D5 e5 nol pmo
    clear o ord zl pml H5
    rintro σ' H5 ⟨o, ord, rfl, pmo, e5, nol, eS5, U5, T5, D5⟩
    have d5 := U5 _ _ hd (by simp) ndl
    refine fun pf hpf => ⟨_, rfl, _, rfl, o, _, rfl, .inl ⟨SqL.of (same_new hpf _ _ e5), fun to hto => ?_⟩⟩
    refine ⟨_, rfl, fun td htd te hte => ⟨?_, planKV d to (sp0 : Int) td te, rfl, by show 5 ≤ 15; decide, ?_⟩⟩
    · exact (same_new hte) _ _ ((same_new htd) _ _ ((same_new hto) _ _ upd_same))
    rw [show mergeK [] (planKV d to (sp0 : Int) td te) = planKV d to (sp0 : Int) td te by
      have h := merge_nd (more := planKV d to (sp0 : Int) td te) (kvs := []) (by rw [List.nil_append]; show ([Sum.inr ("prices" : Str), Sum.inr ("order" : Str), Sum.inr ("view" : Str), Sum.inr ("table" : Str), Sum.inr ("ends" : Str)] : List Key).Nodup; decide +kernel)
      rwa [List.nil_append] at h]
    have a1 := same_new (o := .dK []) hpf
    have a2 := same_new (o := .tup (ord.map V.str)) hto
    have a3 := same_new (o := .dK []) htd
    have a4 := same_new (o := .dK []) hte
    have npt : pf ≠ td := ne_of_none (a2 _ _ upd_same) htd
    have npe : pf ≠ te := ne_of_none (a3 _ _ (a2 _ _ upd_same)) hte
    have npo : pf ≠ to := ne_of_none upd_same hto
    have not' : to ≠ td := ne_of_none upd_same htd
    have noe : to ≠ te := ne_of_none (a3 _ _ upd_same) hte
    have nte : td ≠ te := ne_of_none upd_same hte
    have s6 := same_mut (o := .dK (planKV d to (sp0 : Int) td te)) (((a1.trans a2).trans a3).trans a4) hpf
    have pf6 := upd_same (H := upd (upd (upd (upd H5 pf (.dK [])) to (.tup (ord.map V.str))) td (.dK [])) te (.dK [])) (a := pf) (o := .dK (planKV d to (sp0 : Int) td te))
    have to6 := (upd_ne (H := upd (upd (upd (upd H5 pf (.dK [])) to (.tup (ord.map V.str))) td (.dK [])) te (.dK [])) (o := .dK (planKV d to (sp0 : Int) td te)) npo.symm).trans (a4 _ _ (a3 _ _ upd_same))
    have td6 := (upd_ne (H := upd (upd (upd (upd H5 pf (.dK [])) to (.tup (ord.map V.str))) td (.dK [])) te (.dK [])) (o := .dK (planKV d to (sp0 : Int) td te)) npt.symm).trans (a4 _ _ upd_same)
    have te6 := (upd_ne (H := upd (upd (upd (upd H5 pf (.dK [])) to (.tup (ord.map V.str))) td (.dK [])) te (.dK [])) (o := .dK (planKV d to (sp0 : Int) td te)) npe.symm).trans upd_same
    have hpf0 : H5 pf = none := hpf
    have hto0 : H5 to = none := a1.free hto
    have htd0 : H5 td = none := (a1.trans a2).free htd
    have hte0 : H5 te = none := ((a1.trans a2).trans a3).free hte
    clear a1 a2 a3 a4
    generalize (upd (upd (upd (upd (upd H5 pf (.dK [])) to (.tup (ord.map V.str))) td (.dK [])) te (.dK [])) pf (.dK (planKV d to (sp0 : Int) td te))) = H6 at s6 pf6 to6 td6 te6 ⊢
    have npl : pf ≠ l := D5.ne hpf0
    have ntl : td ≠ l := D5.ne htd0
    have nel : te ≠ l := D5.ne hte0
    have ntol : to ≠ l := D5.ne hto0
    refine ⟨_, rfl, by show 2 ≤ sizeLine; decide, fun tA htA => ?_⟩
    have s7 := same_new htA (o := .tup [V.str "table", .int (sp0 : Int)])
    have fA : (upd H6 tA (.tup [V.str "table", .int (sp0 : Int)] : HO)) tA = some (.tup [V.str "table", .int (sp0 : Int)] : HO) := upd_same
    generalize (upd H6 tA (.tup [V.str "table", .int (sp0 : Int)] : HO)) = H7 at s7 fA ⊢
    refine ⟨_, rfl, _, _, rfl, rfl, by show 2 ≤ sizeLine; decide, fun tB htB => ?_⟩
    have s8 := same_new htB (o := .tup [V.str "ends", .int ((sp0 : Int) - 1)])
    have fB : (upd H7 tB (.tup [V.str "ends", .int ((sp0 : Int) - 1)] : HO)) tB = some (.tup [V.str "ends", .int ((sp0 : Int) - 1)] : HO) := upd_same
    generalize (upd H7 tB (.tup [V.str "ends", .int ((sp0 : Int) - 1)] : HO)) = H8 at s8 fB ⊢
    refine ⟨by show 2 ≤ sizeLine; decide, fun L hL => ?_⟩
    have s9 := same_new hL (o := .lst [V.ref tA, .ref tB])
    have fL : (upd H8 L (.lst [V.ref tA, .ref tB] : HO)) L = some (.lst [V.ref tA, .ref tB] : HO) := upd_same
    generalize (upd H8 L (.lst [V.ref tA, .ref tB] : HO)) = H9 at s9 fL ⊢
    have fL9 := fL
    have s69 := (s7.trans s8).trans s9
    have s59 := s6.trans s69
    have nAl : tA ≠ l := ((D5.same s6)).ne htA
    have nBl : tB ≠ l := ((D5.same s6).same s7).ne htB
    have nLl : L ≠ l := (((D5.same s6).same s7).same s8).ne hL
    have nAt : tA ≠ td := (ne_of_none td6 htA).symm
    have nAe : tA ≠ te := (ne_of_none te6 htA).symm
    have nBt : tB ≠ td := (ne_of_none (s7 _ _ td6) htB).symm
    have nBe : tB ≠ te := (ne_of_none (s7 _ _ te6) htB).symm
    have nLt : L ≠ td := (ne_of_none ((s7.trans s8) _ _ td6) hL).symm
    have nLe : L ≠ te := (ne_of_none ((s7.trans s8) _ _ te6) hL).symm
    have fA9 := s9 _ _ (s8 _ _ fA)
    have fB9 := s9 _ _ fB
    have pf9 := s69 _ _ pf6
    have to9 := s69 _ _ to6
    have d9 := s59 _ _ d5
    have S9 := s59 _ _ eS5
    have ndt : d ≠ td := ne_of_none d5 htd0
    have nde : d ≠ te := ne_of_none d5 hte0
    have nSt : S ≠ td := ne_of_none eS5 htd0
    have nSe : S ≠ te := ne_of_none eS5 hte0
    have frame : ∀ {G : Hp}, QK l td te H9 G → Kp l H5 G := fun q x u e n => q x u (s59 _ _ e) n (ne_of_none e htd0) (ne_of_none e hte0)
    have DW0 : DW (tfD kvs) H9 td te (sp0 : Int) [] [] 0 := ⟨s69 _ _ td6, s69 _ _ te6, .nil, .nil, Nat.le_refl _, Nat.le_refl _⟩
    have D9 := D5.same s59
    clear s7 s8 s9 htA htB hL fA fB fL s69 s6 pf6 to6 td6 te6 hpf hto htd hte
    clear H6 H7 H8
    refine ⟨L, rfl, ⟨_, SqL.of fL9⟩, for_list (K := K) (xs := [V.ref tA, .ref tB]) (fun i σ H' => ∃ x7 x8 x9 x10 x11 x12 W E, σ = [some (.ref l), some (.ref d), some (.int (m : Int)), some (.ref S), some (.int (sp0 : Int)), some (.ref o), some (.ref pf), x7, x8, x9, x10, x11, x12, none] ∧ QK l td te H9 H' ∧ DW (tfD kvs) H' td te (sp0 : Int) W E (3 * i) ∧ Dice H' l (n + 150 * (2 - i))) ⟨_, _, _, _, _, _, _, _, rfl, fun _ _ e _ _ _ => e, DW0, D9.le (by omega)⟩ (fun i σ H' _ q => by
      obtain ⟨_, _, _, _, _, _, _, _, _, q, _⟩ := q
      exact SqL.of (q _ _ fL9 nLl nLt nLe)) ?_ ?_⟩
    · rintro i x σ G hx ⟨x7, x8, x9, x10, x11, x12, W, E, rfl, q0, dw0, D0⟩
      have hi : i < 2 := (List.getElem?_eq_some_iff.mp hx).1
      obtain ⟨tX, rfl, fX⟩ : ∃ tX, x = V.ref tX ∧ G tX = some (.tup [V.str (two i ("table" : Str) ("ends" : Str)), .int ((sp0 : Int) - (i : Int))]) := by
        rcases (by omega : i = 0 ∨ i = 1) with e | e
        · subst e
          refine ⟨tA, (Option.some.inj hx).symm, ?_⟩
          rw [q0 _ _ fA9 nAl nAt nAe, show (sp0 : Int) - ((0 : Nat) : Int) = (sp0 : Int) by omega]
          rfl
        · subst e
          refine ⟨tB, (Option.some.inj hx).symm, ?_⟩
          rw [q0 _ _ fB9 nBl nBt nBe]
          rfl
      have hpl : valV (planKV d to (sp0 : Int) td te) (Sum.inr (two i ("table" : Str) ("ends" : Str))) = some (.ref (two i td te)) := pl_two
      have ntw : two i td te ≠ l := by
        unfold two
        split
        · exact ntl
        · exact nel
      generalize (two i ("table" : Str) ("ends" : Str)) = nm at fX hpl
      have D0 : Dice G l (n + 150 * (2 - (i + 1)) + 150) := D0.le (by omega)
      generalize n + 150 * (2 - (i + 1)) = rest at D0 ⊢
      refine ⟨tX, _, rfl, SqT.of fX, rfl, _, _, rfl, _, _, rfl, rfl, ?_⟩
      refine ⟨_, rfl, l, 9, rest + 140, rfl, by decide, by decide, D0.le (by omega), fun r1 G1 r10 r11 k1 D1 => ⟨_, _, rfl, rfl, ?_⟩⟩
      have q1 := q0.kp k1
      have dw1 := dw0.kp k1 ntl nel
      clear q0 dw0 k1 D0 fX hx
      refine ⟨_, rfl, _, _, rfl, rfl, _, rfl, ?_⟩
      refine itB (fun g => ?_) (fun g => ?_)
      case' refine_2 => exact ⟨0, rfl, by decide, by decide, for_range (lo := 0) (n := 0) (fun i' σ H' => σ = [some (.ref l), some (.ref d), some (.int (m : Int)), some (.ref S), some (.int (sp0 : Int)), some (.ref o), some (.ref pf), some (.str nm), some (.int ((sp0 : Int) - (i : Int))), some (.int (r1 - 5)), x10, x11, x12, none] ∧ H' = G1) ⟨rfl, rfl⟩ (fun i' σ H' hi => absurd hi (Nat.not_lt_zero _)) (by
        rintro σ H' ⟨rfl, rfl⟩
        exact ⟨_, _, _, _, _, _, W, E, rfl, q1, dw1.mono (by omega), D1.le (by omega)⟩)⟩
      have g := of_decide_eq_true g
      refine ⟨_, rfl, (r1 - 5), rfl, by omega, by omega, for_range (lo := 0) (n := (r1 - 5).toNat) (fun t σ H' => ∃ x10 x11 x12 W E, σ = [some (.ref l), some (.ref d), some (.int (m : Int)), some (.ref S), some (.int (sp0 : Int)), some (.ref o), some (.ref pf), some (.str nm), some (.int ((sp0 : Int) - (i : Int))), some (.int (r1 - 5)), x10, x11, x12, none] ∧ QK l td te H9 H' ∧ DW (tfD kvs) H' td te (sp0 : Int) W E (3 * i + t) ∧ Dice H' l (rest + 30 * (3 - t))) ⟨_, _, _, W, E, rfl, q1, dw1, D1.le (by omega)⟩ ?_ ?_⟩
      · clear q1 dw1 D1 G1
        rintro t σ G1 ht ⟨x10, x11, x12, W, E, rfl, q1, dw1, D1⟩
        have ht3 : t < 3 := by omega
        have D1 : Dice G1 l (rest + 30 * (3 - (t + 1)) + 30) := D1.le (by omega)
        generalize rest + 30 * (3 - (t + 1)) = rst at D1 ⊢
        refine ⟨_, rfl, _, rfl, _, rfl, _, rfl, l, (sp0 : Int) - (i : Int), rst + 29, rfl, by omega, by omega, D1.le (by omega), fun r G2 r0 r1' k2 D2 => ⟨_, _, rfl, rfl, ?_⟩⟩
        refine ⟨l, .ref S, sg, (1 + r).toNat, rst + 2, by rw [Int.toNat_of_nonneg (by omega)]; rfl, .lst nS (SqL.of ((q1.kp k2) _ _ S9 nS nSt nSe)), nsg, by omega, by omega, D2.le (by omega), fun zs G3 zl zc k3 D3 => ?_⟩
        have q3 := (q1.kp k2).kp k3
        have dw3 := (dw1.kp k2 ntl nel).kp k3 ntl nel
        have ovz : Over (tfD kvs) zs := fun c hc => (sgo c).mp (zc c hc) c List.mem_cons_self
        have zl1 : 1 ≤ zs.length ∧ (zs.length : Int) ≤ (sp0 : Int) - (i : Int) := by omega
        clear k2 k3 q1 dw1 D1 D2 zc zl r0 r1'
        have ez : cs (sOf zs) = zs := cs_sOf zs
        have lz : (sOf zs).length = zs.length := sOf_len zs
        generalize sOf zs = z at ez lz
        refine ⟨_, rfl, d, kvs, keyStrs kvs, rfl, .inl (q3 _ _ d9 ndl ndt nde), keys_of al, by omega, fun ys9 p9 pz9 sz9 hp9 => ?_⟩
        have s4 := same_new hp9 (o := .lst (ys9.map V.str))
        have f4 : (upd G3 p9 (.lst (ys9.map V.str) : HO)) p9 = some (.lst (ys9.map V.str) : HO) := upd_same
        generalize (upd G3 p9 (.lst (ys9.map V.str) : HO)) = G4 at s4 f4 ⊢
        have ly9 := pz9.length_eq
        refine ⟨p9, rfl, ⟨_, SqL.of f4⟩, fun D_ hD_ => ?_⟩
        refine lcs ys9 (walk_listF (K := K) V.str ys9) (fun y => if Txt.startswith z y = true then some (V.str y) else none) hD_ (by omega) (fun H' s => SqL.of (s _ _ f4)) ?_ ?_
        · rintro j y x Ha Hb hj sa ⟨rfl, y', ey, rfl⟩ N M hN hM
          have e3 : y = y' := Option.some.inj (hj.symm.trans ey)
          subst e3
          have lenp := len5 pz9 y (List.mem_of_getElem? hj)
          refine ⟨wipe_set, _, rfl, _, rfl, y, rfl, fits_sz (by omega), _, rfl, z, rfl, fits_sz (by omega), _, rfl, rfl, _, congrArg V.bl start_cut, ?_⟩
          refine itB (fun g => ?_) (fun g => ?_)
          · exact ⟨_, rfl, hN _ _ (if_pos g) (Same.refl _)⟩
          · exact hM _ (if_neg (by rw [g]; exact Bool.false_ne_true)) (Same.refl _)
        intro G5 s5 e5'
        rw [fm_ifs] at e5'
        have s35 : Same G3 G5 := s4.trans s5
        have hds : ∀ y ∈ ys9.filter (fun y => Txt.startswith z y), (∃ p, tfD kvs y = some p) ∧ ∃ r, cs z = cs y ++ r := fun y hy => by
          obtain ⟨h1, h2⟩ := List.mem_filter.mp hy
          exact ⟨(tf_key al).mp (pz9.mem_iff.mp h1), starts_iff.mp h2⟩
        have hne : ys9.filter (fun y => Txt.startswith z y) ≠ [] := fun e => by
          obtain ⟨c0, r0, ec⟩ : ∃ c0 r0, zs = c0 :: r0 := by
            cases hc : zs with
            | nil => rw [hc] at zl1; simp at zl1
            | cons c0 r0 => exact ⟨c0, r0, rfl⟩
          have hm : ch c0 ∈ ys9.filter (fun y => Txt.startswith z y) := List.mem_filter.mpr ⟨pz9.mem_iff.mpr ((tf_key al).mpr (ovz c0 (by rw [ec]; exact List.mem_cons_self))), starts_iff.mpr ⟨r0, by rw [ez, ec]; rfl⟩⟩
          rw [e] at hm
          exact (List.not_mem_nil hm).elim
        have lfl9 := List.length_filter_le (fun y => Txt.startswith z y) ys9
        have nD9 : D_ ≠ l := (D3.same s4).ne hD_
        have q5 := q3.kp (.of s35)
        have dw5 := dw3.kp (.of s35) ntl nel
        refine ⟨_, rfl, _, rfl, l, .ref D_, (ys9.filter (fun y => Txt.startswith z y)).map V.str, rst, rfl, .lst nD9 (SqL.of e5'), by simpa using hne, by rw [List.length_map]; omega, (D3.same s35).le (by omega), fun u G6 hu k6 D6 => ?_⟩
        obtain ⟨y1, hy1, rfl⟩ := List.mem_map.mp hu
        obtain ⟨hp1, r1_, hr1⟩ := hds y1 hy1
        have q6 := q5.kp k6
        have dw6 := dw5.kp k6 ntl nel
        obtain ⟨ta6, tl6⟩ := dw6.at (i := i)
        refine ⟨_, rfl, _, rfl, pf, _, rfl, .inl ⟨_, Sum.inr nm, .inl (q6 _ _ pf9 npl npt npe), rfl, hpl.symm⟩, _, rfl, two i td te, _, rfl, .inl ⟨two i W E, Sum.inr z, ta6, rfl, small1000' (by omega), rfl⟩, ?_⟩
        obtain ⟨W', E', dw7⟩ := dw6.put (i := i) (z := z) (y := y1) nte hi (by omega) ⟨by rw [ez]; omega, by rw [ez]; omega, by rw [ez]; exact ovz, hp1, r1_, hr1⟩
        exact ⟨_, _, _, W', E', rfl, q6.upd, dw7.mono (by omega), D6.upd ntw⟩
      · rintro σ G2 ⟨x10, x11, x12, W, E, rfl, q2, dw2, D2⟩
        exact ⟨_, _, _, _, _, _, W, E, rfl, q2, dw2.mono (by omega), D2.le (by omega)⟩
    · rintro σ G ⟨x7, x8, x9, x10, x11, x12, W, E, rfl, q0, dw0, D0⟩
      have kG := frame q0
      exact ⟨_, rfl, k pf ord sp0 W E G ⟨dw0.wt, dw0.we, pmo, sp1, by omega, av, nd, d, to, td, te, q0 _ _ pf9 npl npt npe, q0 _ _ d9 ndl ndt nde, q0 _ _ to9 ntol not' noe, dw0.ht, dw0.he⟩ sp6 (U5.trans kG.u) (Tabs.kp T5 D5 kG) (D0.le (by omega))⟩
theorem sc__law_cutter : FnScope ["plan", "rows", "stops"] ["plan"] (defScope s__law_cutter) := ⟨rfl, rfl, rfl, by decide +kernel, rfl, by decide +kernel, by decide +kernel⟩
theorem ok__law_cutter {f : Addr} {fd : FuncData} (F : Fun K "_law_cutter" "_law_cutter" s__law_cutter f fd) (T : Txt K mg C CU) (c_Cutter : MakK P w K mg base 6 "Cutter" CU 2 ["view", "table", "ends"] (fun vs zs => vs ++ zs) (spCutInit C CU)) (c_Book : C8.Mak P w K mg base 5 "Book" C (spBook C K) []) : FnOk P w K mg base CX0 8 f fd ["plan"] (spPlanCut C CU) := by
  refine F.ok sc__law_cutter (fun vs H Q E h => ?_) (fun cdv A outer s H vs Q E hr h => ?_)
  · obtain ⟨pc, kvs, ord, v, W, Y, rfl, _⟩ := h
    rfl
  · have hu := hu_of hr
    obtain ⟨pc, kvs, ord, v, W, Y, rfl, A, k⟩ := h
    refine ⟨_, (pss_cons (ps_par (i := 1) (j := 2) (by rfl) sc__law_cutter.nd rfl rfl (by decide) rfl rfl (pa_cons (pe_callTy call_dictD (by rfl) T.b_dict (by decide +kernel) (pa_cons (pe_dget hu (pv 0) pe_str (fun _ _ => rfl)) pa_nil)) (pa_cons (pe_callTy call_dictD (by rfl) T.b_dict (by decide +kernel) (pa_cons (pe_dget hu (pv 0) pe_str (fun _ _ => rfl)) pa_nil)) pa_nil)) (by rfl))
      (pss_one (ps_ret (pe_mkK c_Cutter hr (by decide) (by rfl) (pa_cons (C8.pe_mk c_Book hr (by decide) (by rfl) (pa_cons (pe_callTy call_dictD (by rfl) T.b_dict (by decide +kernel) (pa_cons (pe_dget hu (pv 0) pe_str (fun _ _ => rfl)) pa_nil)) pa_nil)) (pa_cons (pe_dget hu (pv 0) pe_str (fun _ _ => rfl)) pa_nil)) (pk_cons (pe_dget hu (pv 0) pe_str (fun _ _ => rfl)) (pk_cons (pv 1) (pk_cons (pv 2) pk_nil))))))), ?_⟩
    obtain ⟨d, oa, td, te, h1, h2, h3, h4, h5⟩ := A.ex
    refine ⟨_, rfl, pc, .ref td, rfl, .inl ⟨_, Sum.inr _, .inl h1, rfl, pl_table.symm⟩, td, W, rfl, .inl h4, fun t1 ht1 => ?_⟩
    have s1 := same_new ht1 (o := .dK W)
    have f1 : (upd H t1 (.dK W : HO)) t1 = some (.dK W : HO) := upd_same
    generalize (upd H t1 (.dK W : HO)) = H1 at s1 f1 ⊢
    refine ⟨_, rfl, pc, .ref te, rfl, .inl ⟨_, Sum.inr _, .inl (s1 _ _ h1), rfl, pl_ends.symm⟩, te, Y, rfl, .inl (s1 _ _ h5), fun t2 ht2 => ?_⟩
    have s2 := same_new ht2 (o := .dK Y)
    have f2 : (upd H1 t2 (.dK Y : HO)) t2 = some (.dK Y : HO) := upd_same
    generalize (upd H1 t2 (.dK Y : HO)) = H2 at s2 f2 ⊢
    have s02 := s1.trans s2
    refine ⟨_, _, rfl, ?_⟩
    refine ⟨_, rfl, pc, .ref d, rfl, .inl ⟨_, Sum.inr _, .inl (s02 _ _ h1), rfl, pl_prices.symm⟩, d, kvs, rfl, .inl (s02 _ _ h2), fun t3 ht3 => ?_⟩
    have s3 := same_new ht3 (o := .dK kvs)
    have f3 : (upd H2 t3 (.dK kvs : HO)) t3 = some (.dK kvs : HO) := upd_same
    generalize (upd H2 t3 (.dK kvs : HO)) = H3 at s3 f3 ⊢
    refine fun x dx nx ndx nex => made_book nx ndx f3 A.av A.nd fun H4 s4 B => ⟨rfl, ?_⟩
    have s04 := (s02.trans s3).trans s4
    refine ⟨_, rfl, pc, .ref oa, rfl, .inl ⟨_, Sum.inr _, .inl (s04 _ _ h1), rfl, pl_order.symm⟩, ?_⟩
    refine ⟨_, rfl, pc, .int v, rfl, .inl ⟨_, Sum.inr _, .inl (s04 _ _ h1), rfl, pl_view.symm⟩, _, rfl, _, rfl, ?_⟩
    refine ⟨rfl, rfl, fun q qx hq hqx ndc => ?_⟩
    have hq' : (upd H4 qx (.own q)) q = none := by
      rw [upd_ne (Ne.symm ndc)]
      exact hq
    have s5 := (same_new hqx (o := .own q)).trans (same_new hq' (o := .ins CU qx []))
    have h3' := s04 _ _ h3
    have g1 := s4 _ _ (s3 _ _ (s2 _ _ f1))
    have g2 := s4 _ _ (s3 _ _ f2)
    exact ⟨q, qx, x, oa, t1, t2, kvs, ord, v, W, Y, rfl, upd_same, B.same s5, s5 _ _ h3', s5 _ _ g1, s5 _ _ g2, A.wt, A.we, A.op, by have := A.v1; omega, by have := A.v2; omega, fun H' CA kk => ⟨rfl, k q H' (s04.free hq) CA fun a o h => kk a o (s5 _ _ (s04 _ _ h)) (ne_of_none (s04 _ _ h) hq)⟩⟩
theorem sc__law_alphabet : FnScope ["plan", "piece"] ["plan"] (defScope s__law_alphabet) := ⟨rfl, rfl, rfl, by decide +kernel, rfl, by decide +kernel, by decide +kernel⟩
theorem ok__law_alphabet {f : Addr} {fd : FuncData} (F : Fun K "_law_alphabet" "_law_alphabet" s__law_alphabet f fd) (T : Txt K mg C CU) : FnOk P w K mg base CX0 4 f fd ["plan"] (spAlphabet) := by
  refine F.ok sc__law_alphabet (fun vs H Q E h => ?_) (fun cdv A outer s H vs Q E hr h => ?_)
  · obtain ⟨pc, kvs, ord, v, W, Y, rfl, _⟩ := h
    rfl
  · have hu := hu_of hr
    obtain ⟨pc, kvs, ord, v, W, Y, rfl, A, k⟩ := h
    refine ⟨_, (pss_one (ps_ret (pe_lc (own := [("piece", 1)]) rfl sc__law_alphabet.nd (g_list K (pe_callB (call_sortedD rfl) (by rfl) T.b_sorted (by decide +kernel) (pa_cons (pe_dget hu (pv 0) pe_str (fun _ _ => rfl)) pa_nil))) (blkOk_by (own := [("piece", 1)]) (N := ["plan", "piece"]) (sc := defScope s__law_alphabet) (by decide +kernel)) (fun _ _ _ _ _ => (pg_name (i := 1) sc__law_alphabet.nd rfl (Or.inl rfl))) (fun _ _ _ _ _ => (pts_one (pt_cmpR op_eq (pe_callB call_len_str (by rfl) T.b_len (by decide +kernel) (pa_cons (pv 1) pa_nil)) pe_int (nomark _)))) (fun _ _ _ _ _ => (pv 1))))), ?_⟩
    obtain ⟨d, oa, td, te, h1, h2, h3, h4, h5⟩ := A.ex
    obtain ⟨⟨n1, n12⟩, al, _, _⟩ := ap_parts A.av
    have kl := keyStrs_len kvs
    refine ⟨_, rfl, pc, .ref d, rfl, .inl ⟨_, Sum.inr _, .inl h1, rfl, pl_prices.symm⟩, d, kvs, keyStrs kvs, rfl, .inl h2, keys_of al, by omega, fun ys p pz sz hp => ?_⟩
    have s1 := same_new hp (o := .lst (ys.map V.str))
    have f1 : (upd H p (.lst (ys.map V.str) : HO)) p = some (.lst (ys.map V.str) : HO) := upd_same
    generalize (upd H p (.lst (ys.map V.str) : HO)) = H1 at s1 f1 ⊢
    have ly := pz.length_eq
    refine ⟨p, rfl, ⟨_, SqL.of f1⟩, fun S hS => ?_⟩
    refine lcs ys (walk_listF (K := K) V.str ys) (fun y => if decide ((y.length : Int) = 1) = true then some (V.str y) else none) hS (by omega) (fun H' s => SqL.of (s _ _ f1)) ?_ ?_
    · rintro j y x Ha Hb hj sa ⟨rfl, y', ey, rfl⟩ N M hN hM
      have e3 : y = y' := Option.some.inj (hj.symm.trans ey)
      subst e3
      have lenp : y.length ≤ 5 := by
        obtain ⟨_, h5, _⟩ := keyStrs_piece al y (pz.mem_iff.mp (List.mem_of_getElem? hj))
        have := cs_len y
        omega
      refine ⟨wipe_set, _, rfl, y, rfl, fits_sz (by omega), rfl, _, congrArg V.bl v_int_eq, ?_⟩
      refine itB (fun g => ?_) (fun g => ?_)
      · exact ⟨_, rfl, hN _ _ (if_pos g) (Same.refl _)⟩
      · exact hM _ (if_neg (by rw [g]; exact Bool.false_ne_true)) (Same.refl _)
    intro H2 s2 e2
    rw [fm_ifs] at e2
    obtain ⟨sg, esg, sgo, sg12, nsg⟩ := alph A.av A.nd pz
    rw [esg, ← chs_strs] at e2
    exact k S sg H2 (s1.free hS) e2 sg12 nsg sgo (s1.trans s2)
theorem sc__law_edit_plan : FnScope ["reel", "spans", "signs", "top", "size", "prices"] ["reel", "spans"] (defScope s__law_edit_plan) := ⟨rfl, rfl, rfl, by decide +kernel, rfl, by decide +kernel, by decide +kernel⟩
theorem ok__law_edit_plan {f : Addr} {fd : FuncData} (F : Fun K "_law_edit_plan" "_law_edit_plan" s__law_edit_plan f fd) (T : Txt K mg C CU) (c__law_signs : HasO P w K mg base CX0 3 "_law_signs" ["reel", "lots"] (spSignsE)) (c__law_spin : HasO P w K mg base CX0 1 "_law_spin" ["reel", "total"] (spRoll)) (c__law_pick : HasO P w K mg base CX0 2 "_law_pick" ["reel", "items"] (spPick K)) (c__law_prices : HasO P w K mg base CX0 4 "_law_prices" ["reel", "signs", "lots", "size", "top"] (spPricesE K)) (c__law_plan : Has P w K mg base CX0 6 "_law_plan" ["reel", "prices", "top"] (spPlan [(PT, (("_law_plan.<locals>.<lambda>" : String) : Str))])) : FnG P w K mg base CX0 7 f fd ["reel", "spans"] (spEditPlan [(PT, (("_law_plan.<locals>.<lambda>" : String) : Str))] K) := by
  refine fn_g0 F sc__law_edit_plan (fun vs H Q E h => ?_) (fun cdv A outer s H vs Q E hg hr h => ?_)
  · obtain ⟨l, sa, n, rfl, _⟩ := h
    rfl
  · have hu := hu_of hr
    obtain ⟨l, sa, n, rfl, tabs, nsa, hs, D, k⟩ := h
    refine ⟨_, (pss_cons (ps_set (i := 2) sc__law_edit_plan.nd rfl (Or.inl rfl) (pe_hasO c__law_signs (hr.mono (by decide)) pass0 (pa_cons (pv 0) (pa_cons (pe_op op_add pe_int (pe_hasO c__law_spin (hr.mono (by decide)) pass0 (pa_cons (pv 0) (pa_cons pe_int pa_nil)))) pa_nil))))
      (pss_cons (ps_par (i := 3) (j := 4) (by rfl) sc__law_edit_plan.nd rfl rfl (by decide) rfl rfl (pa_cons (pe_hasO c__law_pick (hr.mono (by decide)) pass0 (pa_cons (pv 0) (pa_cons (pe_lst (pa_cons pe_int (pa_cons pe_int (pa_cons pe_int pa_nil)))) pa_nil))) (pa_cons (pe_hasO c__law_pick (hr.mono (by decide)) pass0 (pa_cons (pv 0) (pa_cons (pe_lst (pa_cons pe_int (pa_cons pe_int (pa_cons pe_int pa_nil)))) pa_nil))) pa_nil)) (by rfl))
      (pss_cons (ps_set (i := 5) sc__law_edit_plan.nd rfl (Or.inl rfl) (pe_hasO c__law_prices (hr.mono (by decide)) pass0 (pa_cons (pv 0) (pa_cons (pv 2) (pa_cons (pe_hasO c__law_spin (hr.mono (by decide)) pass0 (pa_cons (pv 0) (pa_cons pe_int pa_nil))) (pa_cons (pv 4) (pa_cons (pv 3) pa_nil)))))))
      (pss_one (ps_ret (pe_has c__law_plan hg (hr.mono (by decide)) pass0 (pa_cons (pv 0) (pa_cons (pv 5) (pa_cons (pe_ix (g_ix_list K) (pv 1) (pe_callB (g_len_seq K) (by rfl) T.b_len (by decide +kernel) (pa_cons (pv 2) pa_nil)) (fun _ _ => rfl)) pa_nil))))))))), ?_⟩
    refine ⟨_, rfl, _, rfl, l, 4, n + 690, rfl, by decide, by decide, D.le (by omega), fun r H1 r0 r1 k1 D1 => ⟨_, _, rfl, rfl, ?_⟩⟩
    refine ⟨l, (1 + r).toNat, n + 680, by rw [Int.toNat_of_nonneg (by omega)]; rfl, by omega, D1.le (by omega), fun p sg H2 hp e2 lsg lett k2 D2 => ?_⟩
    have np : p ≠ l := D1.ne hp
    refine ⟨_, rfl, by show 3 ≤ sizeLine; decide, fun m1 w1 => ?_⟩
    have t1 := same_new w1 (o := .lst [V.int 1, .int 3, .int 99])
    have f1 : (upd H2 m1 (.lst [V.int 1, .int 3, .int 99] : HO)) m1 = some (.lst [V.int 1, .int 3, .int 99] : HO) := upd_same
    generalize (upd H2 m1 (.lst [V.int 1, .int 3, .int 99] : HO)) = J1 at t1 f1 ⊢
    have nm1 : m1 ≠ l := D2.ne w1
    have npick : ([V.int 1, .int 3, .int 99] : List V) ≠ [] := by simp
    refine ⟨l, .ref m1, _, n + 679, rfl, .lst nm1 (SqL.of f1), npick, by decide, (D2.same t1).le (by omega), fun u H3 hu k3 D3 => ?_⟩
    obtain ⟨top, rfl, tp1, tp99⟩ : ∃ top : Nat, u = .int (top : Int) ∧ 1 ≤ top ∧ top ≤ 99 := by
      simp only [List.mem_cons, List.not_mem_nil, or_false] at hu
      rcases hu with rfl | rfl | rfl
      · exact ⟨1, rfl, by decide, by decide⟩
      · exact ⟨3, rfl, by decide, by decide⟩
      · exact ⟨99, rfl, by decide, by decide⟩
    refine ⟨_, rfl, by show 3 ≤ sizeLine; decide, fun m2 w2 => ?_⟩
    have t3 := same_new w2 (o := .lst [V.int 2, .int 3, .int 5])
    have f3 : (upd H3 m2 (.lst [V.int 2, .int 3, .int 5] : HO)) m2 = some (.lst [V.int 2, .int 3, .int 5] : HO) := upd_same
    generalize (upd H3 m2 (.lst [V.int 2, .int 3, .int 5] : HO)) = J3 at t3 f3 ⊢
    have nm2 : m2 ≠ l := D3.ne w2
    refine ⟨l, .ref m2, _, n + 678, rfl, .lst nm2 (SqL.of f3), by simp, by decide, (D3.same t3).le (by omega), fun u H4 hu2 k4 D4 => ?_⟩
    obtain ⟨sz, rfl, sz2, sz5⟩ : ∃ sz : Nat, u = .int (sz : Int) ∧ 2 ≤ sz ∧ sz ≤ 5 := by
      simp only [List.mem_cons, List.not_mem_nil, or_false] at hu2
      rcases hu2 with rfl | rfl | rfl
      · exact ⟨2, rfl, by decide, by decide⟩
      · exact ⟨3, rfl, by decide, by decide⟩
      · exact ⟨5, rfl, by decide, by decide⟩
    have k24 : Kp l H2 H4 := (((Kp.of t1).trans k3).trans (.of t3)).trans k4
    have e4 := k24 _ _ e2 np
    have K4 := (k1.trans k2).trans k24
    refine ⟨_, _, rfl, ?_⟩
    refine ⟨_, rfl, _, rfl, _, rfl, l, 5, n + 670, rfl, by decide, by decide, D4.le (by omega), fun r5 H5 r50 r51 k5 D5 => ?_⟩
    obtain ⟨lo, rfl⟩ : ∃ lo : Nat, r5 = (lo : Int) := ⟨r5.toNat, by omega⟩
    refine ⟨_, rfl, _, rfl, l, p, sg, lo, sz, top, n + 500, rfl, np, SqL.of (k5 _ _ e4 np), by omega, by omega, lett, by omega, sz2, sz5, tp1, tp99, D5.le (by omega), fun pd kvs H6 hpd npd e6 av nd sgns k6 D6 => ?_⟩
    have K6 := (K4.trans k5).trans k6
    have e6' := k6 _ _ (k5 _ _ e4 np) np
    refine ⟨_, rfl, _, rfl, _, rfl, _, rfl, p, _, rfl, .inl (SqL.of e6'), ?_⟩
    have h9 : atI (([0, 9, 9, 9, 9] : List Int).map V.int) (((sg.map chV).length : Nat) : Int) = some (.int ((9 : Nat) : Int)) := by
      rw [List.length_map]
      rcases (by omega : sg.length = 1 ∨ sg.length = 2 ∨ sg.length = 3 ∨ sg.length = 4) with e | e | e | e <;> (rw [e]; rfl)
    refine ⟨sa, _, _, .int ((9 : Nat) : Int), rfl, rfl, K6.seq nsa hs, h9, ?_⟩
    exact ⟨l, pd, kvs, 9, n, rfl, Tabs.kp tabs D K6, npd, e6, av, nd, by decide, by decide, D6.le (by omega), fun q ord v W Y H7 PA v9 u7 t7 D7 => k q kvs ord v W Y H7 PA (K6.u.trans u7) t7 D7⟩
theorem sc__law_ends_right : FnScope ["cutter", "text", "told", "place", "found", "piece"] ["cutter", "text"] (defScope s__law_ends_right) := ⟨rfl, rfl, rfl, by decide +kernel, rfl, by decide +kernel, by decide +kernel⟩
theorem ok__law_ends_right {f : Addr} {fd : FuncData} (F : Fun K "_law_ends_right" "_law_ends_right" s__law_ends_right f fd) (T : Txt K mg C CU) (c_Cutter_cut : C8.Met P w K mg base 5 CU "cut" (spCutT C CU) []) (c_boundaries : HasO P w K mg base CX0 6 "boundaries" ["cutter", "text"] (spBndT C CU)) : FnG P w K mg base CX0 7 f fd ["cutter", "text"] (spEnds C CU) := by
  refine fn_g0 F sc__law_ends_right (fun vs H Q E h => ?_) (fun cdv A outer s H vs Q E hg hr h => ?_)
  · obtain ⟨c, kvs, z, ys, rfl, _⟩ := h
    rfl
  · have hu := hu_of hr
    obtain ⟨c, kvs, z, ys, rfl, R, lz5, k⟩ := h
    refine ⟨_, (pss_cons (ps_par3 (i := 2) (j := 3) (l := 4) (by rfl) sc__law_ends_right.nd rfl rfl rfl (by decide) (by decide) (by decide) rfl rfl rfl (pa_cons (C8.pe_mt c_Cutter_cut hr (by decide) (pv 0) (pa_cons (pv 1) pa_nil)) (pa_cons pe_int (pa_cons (pe_lst (pa_cons pe_int pa_nil)) pa_nil))) (by rfl))
      (pss_cons (ps_for PassesOwn.never rfl (g_tuple K (pv 2)) (pg_name (i := 5) sc__law_ends_right.nd rfl (Or.inl rfl)) (pss_cons (ps_set (i := 3) sc__law_ends_right.nd rfl (Or.inl rfl) (pe_op op_add (pv 3) (pe_callB call_len_str (by rfl) T.b_len (by decide +kernel) (pa_cons (pv 5) pa_nil))))
      (pss_one (ps_expr (g_bm K PySem.F.plainAttrs_list PySem.F.slot_list_append PySem.F.type_list_append mt_append (pv 4) (pa_cons (pv 3) pa_nil))))))
      (pss_one (ps_ret (pe_and (pe_cmpR op_eq (g_join K pe_str (pv 2)) (pv 1) (nomark _)) (pe_one (pe_cmpR op_eq (pe_callB (g_repr K hg hr.units) (by rfl) T.b_repr (by decide +kernel) (pa_cons (pe_hasO c_boundaries (hr.mono (by decide)) pass0 (pa_cons (pv 0) (pa_cons (pv 1) pa_nil))) pa_nil)) (pe_callB (g_repr K hg hr.units) (by rfl) T.b_repr (by decide +kernel) (pa_cons (pe_callTy (g_tuple_of K) (by rfl) T.b_tuple (by decide +kernel) (pa_cons (pv 4) pa_nil)) pa_nil)) (nomark _)))))))), ?_⟩
    obtain ⟨ord, v, W, Y, A, run⟩ := id R.ex
    obtain ⟨b, cx, to, td, te, ts, T', E', ns, h1, B, _⟩ := id A.ex
    have lz := cs_len z
    have hz := R.len
    have lr := run.len
    have fl := run.flat
    have nt : (cutF b to td te ts v).lookup ("cut" : Str) = none := cf_no (by decide +kernel) (by decide +kernel) (by decide +kernel) (by decide +kernel) (by decide +kernel) (by decide +kernel)
    
    refine ⟨_, rfl, c, cx, _, rfl, h1, nt, _, rfl, c, kvs, z, ys, rfl, R, fun p H1 hp e1 s1 => ?_⟩
    refine ⟨by show 1 ≤ sizeLine; decide, fun fo hfo => ⟨_, _, _, rfl, ?_⟩⟩
    have sf := same_new (o := .lst [.int 0]) hfo
    have F0 : (upd H1 fo (.lst [V.int 0])) fo = some (.lst (((bndI ys).take 1).map V.int)) := by rw [bnd_one]; exact upd_same
    generalize (upd H1 fo (.lst [V.int 0])) = H0 at sf F0 ⊢
    have e0 := sf _ _ e1
    have s01 := s1.trans sf
    have lsum := congrArg List.length fl
    rw [piecesS_len, cs_len] at lsum
    have ej : Txt.join "" ys = z := str_ext ((joinS_flat ys).trans fl)
    refine ⟨_, rfl, p, rfl, ⟨_, SqT.of e0⟩, for_tup (K := K) (xs := ys.map V.str) (fun i σ H' => ∃ x5, σ = [some (.ref c), some (.str z), some (.ref p), some (.int (off ys i : Int)), some (.ref fo), x5] ∧ H' p = some (.tup (ys.map V.str)) ∧ H' fo = some (.lst (((bndI ys).take (i + 1)).map V.int)) ∧ Same H H') ⟨_, rfl, e0, F0, s01⟩ (fun i σ H' _ q => by obtain ⟨_, _, q, _⟩ := q; exact SqT.of q) ?_ ?_⟩
    · rintro i x σ H2 hx ⟨x5, rfl, p2, f2, s2⟩
      obtain ⟨y, hy, rfl⟩ : ∃ y, ys[i]? = some y ∧ x = V.str y := by
        rw [List.getElem?_map] at hx
        cases q : ys[i]? with
        | none => rw [q] at hx; cases hx
        | some n' => rw [q] at hx; exact ⟨n', rfl, (Option.some.inj hx).symm⟩
      have hi : i < ys.length := (List.getElem?_eq_some_iff.mp hy).1
      have ly := cs_len y
      have le1 := off_le fl (i + 1)
      have oe := off_succ hy
      have nf : fo ≠ p := (ne_of_none e1 hfo).symm
      have tk2 : (bndI ys).take (i + 1 + 1) = (bndI ys).take (i + 1) ++ [(off ys (i + 1) : Int)] := by rw [List.take_succ, bndI_at (by omega)]; rfl
      refine ⟨_, rfl, _, rfl, y, rfl, fits_sz (by omega), _, _, rfl, rfl, ?_⟩
      refine ⟨_, rfl, .inl ⟨rfl, _, SqL.of f2⟩, _, rfl, fo, _, _, rfl, rfl, f2, by rw [List.length_map, List.length_take, bndI_len]; exact small1000' (by omega), ?_⟩
      have : (off ys i : Int) + (y.length : Int) = (off ys (i + 1) : Int) := by omega
      refine ⟨_, by rw [← this]; rfl, (upd_ne nf.symm).trans p2, ?_, same_mut s2 (s1.free hfo)⟩
      rw [upd_same, tk2, List.map_append, ← this]
      rfl
    · rintro σ H2 ⟨x5, rfl, p2, f2, s2⟩
      rw [List.length_map, List.take_of_length_le (by rw [bndI_len]; exact Nat.le_refl _)] at f2
      refine ⟨⟨_, rfl⟩, _, rfl, _, p, ys, rfl, rfl, .inr (SqT.of p2), ?_, ?_⟩
      · have e : (Str.ofString "").length = 0 := by decide +kernel
        rw [e]
        omega
      rw [ej]
      refine ⟨_, rfl, rfl, true, congrArg V.bl (decide_eq_true rfl), (if_pos rfl).mpr ?_⟩
      refine ⟨_, rfl, _, rfl, c, kvs, z, ys, rfl, R.same s2, fun p3 H3 hp3 e3 s3 => ?_⟩
      have small : ∀ k ∈ bndI ys, k.natAbs < 2 ^ 300 := fun k hk => by
        obtain ⟨i, hi, rfl⟩ := List.mem_map.mp hk
        have := off_le fl i
        exact Nat.lt_of_le_of_lt (show _ ≤ 8000 by omega) (by decide +kernel)
      dsimp only [tNil]
      refine repr_intsT e3 (by rw [bndI_len]; omega) small ?_
      refine ⟨_, rfl, fo, _, rfl, .inl ⟨SqL.of (s3 _ _ f2), fun p4 hp4 => ?_⟩⟩
      generalize hG_ : upd H3 p4 _ = H4
      have s4 : Same H3 H4 := by rw [← hG_]; exact same_new hp4
      have f4 := (congrFun hG_ p4).symm.trans upd_same
      clear hG_
      dsimp only [tNil]
      refine repr_intsT f4 (by rw [bndI_len]; omega) small ?_
      exact ⟨rfl, by rw [decide_eq_true rfl]; exact k _ ((s2.trans s3).trans s4)⟩
theorem sc__law_front_right : FnScope ["plan", "cutter", "one", "other", "many", "first", "second", "seen", "held", "spot", "at"] ["plan", "cutter", "one", "other", "many"] (defScope s__law_front_right) := ⟨rfl, rfl, rfl, by decide +kernel, rfl, by decide +kernel, by decide +kernel⟩
theorem ok__law_front_right {f : Addr} {fd : FuncData} (F : Fun K "_law_front_right" "_law_front_right" s__law_front_right f fd) (T : Txt K mg C CU) (c_boundaries : HasO P w K mg base CX0 6 "boundaries" ["cutter", "text"] (spBndT C CU)) : FnOk P w K mg base CX0 7 f fd ["plan", "cutter", "one", "other", "many"] (spFront C CU) := by
  refine F.ok sc__law_front_right (fun vs H Q E h => ?_) (fun cdv A outer s H vs Q E hr h => ?_)
  · obtain ⟨pc, c, kvs, ord, v, W, Y, z1, z2, n, ys, zs, rfl, _⟩ := h
    rfl
  · have hu := hu_of hr
    obtain ⟨pc, c, kvs, ord, v, W, Y, z1, z2, n, ys, zs, rfl, PA, A1, A2, n1, n2, en, k⟩ := h
    refine ⟨_, (pss_cons (ps_par (i := 5) (j := 6) (by rfl) sc__law_front_right.nd rfl rfl (by decide) rfl rfl (pa_cons (pe_hasO c_boundaries (hr.mono (by decide)) pass0 (pa_cons (pv 1) (pa_cons (pv 2) pa_nil))) (pa_cons (pe_hasO c_boundaries (hr.mono (by decide)) pass0 (pa_cons (pv 1) (pa_cons (pv 3) pa_nil))) pa_nil)) (by rfl))
      (pss_cons (ps_set (i := 7) sc__law_front_right.nd rfl (Or.inr rfl) (pe_op op_sub (pv 4) (pe_dget hu (pv 0) pe_str (fun _ _ => rfl))))
      (pss_cons (ps_setLc (i := 8) (own := [("at", 10)]) rfl sc__law_front_right.nd rfl rfl (sw_true rfl rfl rfl (by decide +kernel)) (g_tuple K (pv 5)) (blkOk_by (own := [("at", 10)]) (N := ["plan", "cutter", "one", "other", "many", "first", "second", "seen", "held", "spot", "at"]) (sc := defScope s__law_front_right) (by decide +kernel)) (fun _ _ _ _ _ => (pg_name (i := 10) sc__law_front_right.nd rfl (Or.inl rfl))) (fun _ _ _ _ _ => (pts_one (pt_cmpR op_le (pv 10) (pv 7) (nomark _)))) (fun _ _ _ _ _ => (pv 10)))
      (pss_cons (ps_if (pt_cmpR (g_neD K hr.units) (pe_lc (own := [("at", 10)]) rfl sc__law_front_right.nd (g_tuple K (pv 6)) (blkOk_by (own := [("at", 10)]) (N := ["plan", "cutter", "one", "other", "many", "first", "second", "seen", "held", "spot", "at"]) (sc := defScope s__law_front_right) (by decide +kernel)) (fun _ _ _ _ _ => (pg_name (i := 10) sc__law_front_right.nd rfl (Or.inl rfl))) (fun _ _ _ _ _ => (pts_one (pt_cmpR op_le (pv 10) (pv 7) (nomark _)))) (fun _ _ _ _ _ => (pv 10))) (pv 8) (nomark _)) (pss_one (ps_ret pe_bl)) pss_nil)
      (pss_cons (ps_set (i := 9) sc__law_front_right.nd rfl (Or.inl rfl) (pe_callB (g_len_seq K) (by rfl) T.b_len (by decide +kernel) (pa_cons (pv 8) pa_nil)))
      (pss_one (ps_ret (pe_or (pe_cmpR (g_eqD K hr.units) (pe_slice (g_sl_tup K) (pv 5) (po_some (pv 9)) (po_some (pe_op op_add (pv 9) pe_int))) (pe_slice (g_sl_tup K) (pv 6) (po_some (pv 9)) (po_some (pe_op op_add (pv 9) pe_int))) (nomark _)) (pe_or (pe_cmpR op_eq (pe_callB (g_len_seq K) (by rfl) T.b_len (by decide +kernel) (pa_cons (pv 5) pa_nil)) (pv 9) (nomark _)) (pe_one (pe_cmpR op_eq (pe_callB (g_len_seq K) (by rfl) T.b_len (by decide +kernel) (pa_cons (pv 6) pa_nil)) (pv 9) (nomark _)))))))))))), ?_⟩
    obtain ⟨d, oa, td, te, h1, h2, h3, h4, h5⟩ := PA.ex
    have R1 := A1.at
    have R2 := A2.at
    have ly := A1.run.len
    have lz := A2.run.len
    have c1 := cs_len z1
    have c2 := cs_len z2
    have l1 := A1.len
    have l2 := A2.len
    obtain ⟨q, q1, q2, q3, q4, q5⟩ := front_law PA.v1 A1.run A2.run en (by omega) (by omega)
    refine ⟨_, rfl, _, rfl, c, kvs, z1, ys, rfl, R1, fun p1 H1 hp1 e1 s1 => ?_⟩
    refine ⟨_, rfl, _, rfl, c, kvs, z2, zs, rfl, R2.same s1, fun p2 H2 hp2 e2 s2 => ⟨_, _, rfl, ?_⟩⟩
    have s02 := s1.trans s2
    refine ⟨_, rfl, _, rfl, pc, .int (v : Int), rfl, .inl ⟨_, Sum.inr _, .inl (s02 _ _ h1), rfl, pl_view.symm⟩, _, _, rfl, rfl, ?_⟩
    have e12 := s2 _ _ e1
    refine ⟨_, rfl, p1, rfl, ⟨_, SqT.of e12⟩, fun D hD => ?_⟩
    refine lcs (bndI ys) (walk_tupF (K := K) V.int (bndI ys)) (fun x => if decide (x ≤ (n : Int) - (v : Int)) = true then some (.int x) else none) hD (by rw [bndI_len]; omega) (fun H' s => SqT.of (s _ _ e12)) ?_ ?_
    · rintro j y x Ha Hb hj sa ⟨rfl, y', ey, rfl⟩ N M hN hM
      have e3 : y = y' := Option.some.inj (hj.symm.trans ey)
      subst e3
      refine ⟨wipe_set, _, rfl, _, rfl, _, _, rfl, rfl, _, rfl, ?_⟩
      refine itB (fun g => ?_) (fun g => ?_)
      · exact ⟨_, rfl, hN _ _ (if_pos g) (Same.refl _)⟩
      · exact hM _ (if_neg (by rw [g]; exact Bool.false_ne_true)) (Same.refl _)
    intro H3 s3 e3
    rw [fm_ifg, q1] at e3
    have e23 := s3 _ _ e2
    refine ⟨_, rfl, p2, rfl, ⟨_, SqT.of e23⟩, fun D2 hD2 => ?_⟩
    refine lcs (bndI zs) (walk_tupF (K := K) V.int (bndI zs)) (fun x => if decide (x ≤ (n : Int) - (v : Int)) = true then some (.int x) else none) hD2 (by rw [bndI_len]; omega) (fun H' s => SqT.of (s _ _ e23)) ?_ ?_
    · rintro j y x Ha Hb hj sa ⟨rfl, y', ey, rfl⟩ N M hN hM
      have e3 : y = y' := Option.some.inj (hj.symm.trans ey)
      subst e3
      refine ⟨wipe_set, _, rfl, _, rfl, _, _, rfl, rfl, _, rfl, ?_⟩
      refine itB (fun g => ?_) (fun g => ?_)
      · exact ⟨_, rfl, hN _ _ (if_pos g) (Same.refl _)⟩
      · exact hM _ (if_neg (by rw [g]; exact Bool.false_ne_true)) (Same.refl _)
    intro H4 s4 e4
    rw [fm_ifg, q2] at e4
    have s14 := (s02.trans s3).trans s4
    have e34 := s4 _ _ e3
    refine ⟨_, rfl, neD_same (.lst (SqL.of e4) (dpAll_ints _)) (.lst (SqL.of e34) (dpAll_ints _)) (shaped_lE _) ⟨false, rfl, itF rfl ?_⟩⟩
    have lq : ((bndI ys).take q).length = q := by rw [List.length_take, bndI_len]; omega
    refine ⟨_, rfl, D, _, rfl, .inl (SqL.of e34), ?_⟩
    rw [List.length_map, lq]
    have b1 : (bndI ys).length = ys.length + 1 := bndI_len
    have b2 : (bndI zs).length = zs.length + 1 := bndI_len
    refine ⟨_, rfl, _, rfl, _, rfl, _, rfl, _, _, rfl, rfl, _, rfl, ?_⟩
    refine rSlA_any (SqT.of (s4 _ _ (s3 _ _ e12))) fun pa Ha ha sa => ?_
    rw [cutV_win (by rw [List.length_map]; omega), ← List.map_take, ← List.map_drop] at ha
    refine ⟨_, rfl, _, rfl, _, rfl, _, rfl, _, _, rfl, rfl, _, rfl, ?_⟩
    refine rSlA_any (SqT.of (sa _ _ (s4 _ _ e23))) fun pb Hb hb sb => ?_
    rw [cutV_win (by rw [List.length_map]; omega), ← List.map_take, ← List.map_drop, ← q5] at hb
    refine eqD_sameE (.tup (sqt_s sb ha) (dpAll_ints _)) (.tup hb (dpAll_ints _)) (shaped_tI _) ⟨true, rfl, (if_pos rfl).mpr ?_⟩
    exact k _ ((s14.trans sa).trans sb)
theorem sc__law_behind_right : FnScope ["cutter", "old", "new", "rest", "place", "first", "second", "at"] ["cutter", "old", "new", "rest"] (defScope s__law_behind_right) := ⟨rfl, rfl, rfl, by decide +kernel, rfl, by decide +kernel, by decide +kernel⟩
theorem ok__law_behind_right {f : Addr} {fd : FuncData} (F : Fun K "_law_behind_right" "_law_behind_right" s__law_behind_right f fd) (T : Txt K mg C CU) (c_common_boundary : HasO P w K mg base CX0 6 "common_boundary" ["cutter", "old", "new", "rest"] (spCom C CU)) (c_boundaries : HasO P w K mg base CX0 6 "boundaries" ["cutter", "text"] (spBndT C CU)) : FnOk P w K mg base CX0 7 f fd ["cutter", "old", "new", "rest"] (spBehindR C CU) := by
  refine F.ok sc__law_behind_right (fun vs H Q E h => ?_) (fun cdv A outer s H vs Q E hr h => ?_)
  · obtain ⟨c, kvs, ord, v, W, Y, o, n, r, ys, zs, rfl, _⟩ := h
    rfl
  · have hu := hu_of hr
    obtain ⟨c, kvs, ord, v, W, Y, o, n, r, ys, zs, rfl, A1, A2, k⟩ := h
    refine ⟨_, (pss_cons (ps_set (i := 4) sc__law_behind_right.nd rfl (Or.inr rfl) (pe_hasO c_common_boundary (hr.mono (by decide)) pass0 (pa_cons (pv 0) (pa_cons (pv 1) (pa_cons (pv 2) (pa_cons (pv 3) pa_nil))))))
      (pss_cons (ps_setLc (i := 5) (own := [("at", 7)]) rfl sc__law_behind_right.nd rfl rfl (sw_true rfl rfl rfl (by decide +kernel)) (g_tuple K (pe_hasO c_boundaries (hr.mono (by decide)) pass0 (pa_cons (pv 0) (pa_cons (pe_op op_add_str (pv 1) (pv 3)) pa_nil)))) (blkOk_by (own := [("at", 7)]) (N := ["cutter", "old", "new", "rest", "place", "first", "second", "at"]) (sc := defScope s__law_behind_right) (by decide +kernel)) (fun _ _ _ _ _ => (pg_name (i := 7) sc__law_behind_right.nd rfl (Or.inl rfl))) (fun _ _ _ _ _ => pts_nil) (fun _ _ _ _ _ => (pe_op op_sub (pv 7) (pe_callB call_len_str (by rfl) T.b_len (by decide +kernel) (pa_cons (pv 1) pa_nil)))))
      (pss_cons (ps_set (i := 6) sc__law_behind_right.nd rfl (Or.inr rfl) (pe_lc (own := [("at", 7)]) rfl sc__law_behind_right.nd (g_tuple K (pe_hasO c_boundaries (hr.mono (by decide)) pass0 (pa_cons (pv 0) (pa_cons (pe_op op_add_str (pv 2) (pv 3)) pa_nil)))) (blkOk_by (own := [("at", 7)]) (N := ["cutter", "old", "new", "rest", "place", "first", "second", "at"]) (sc := defScope s__law_behind_right) (by decide +kernel)) (fun _ _ _ _ _ => (pg_name (i := 7) sc__law_behind_right.nd rfl (Or.inl rfl))) (fun _ _ _ _ _ => pts_nil) (fun _ _ _ _ _ => (pe_op op_sub (pv 7) (pe_callB call_len_str (by rfl) T.b_len (by decide +kernel) (pa_cons (pv 2) pa_nil))))))
      (pss_cons (ps_if (PW.pt (pw_or (pt_cmpR (g_notIn_seq K) (pv 4) (pv 5) (by rfl)) (pw_or (pt_cmpR (g_notIn_seq K) (pv 4) (pv 6) (by rfl)) (pw_or (pt_cmpR op_lt (pv 4) pe_int (nomark _)) (pw_or1 (pt_cmpR op_gt (pv 4) (pe_callB call_len_str (by rfl) T.b_len (by decide +kernel) (pa_cons (pv 3) pa_nil)) (nomark _))))))) (pss_one (ps_ret pe_bl)) pss_nil)
      (pss_cons (ps_if (pt_cmpR (g_neD K hr.units) (pe_lc (own := [("at", 7)]) rfl sc__law_behind_right.nd (g_list K (pv 5)) (blkOk_by (own := [("at", 7)]) (N := ["cutter", "old", "new", "rest", "place", "first", "second", "at"]) (sc := defScope s__law_behind_right) (by decide +kernel)) (fun _ _ _ _ _ => (pg_name (i := 7) sc__law_behind_right.nd rfl (Or.inl rfl))) (fun _ _ _ _ _ => (pts_one (PW.pt (pw_and (pt_cmpR op_ge (pv 7) pe_int (nomark _)) (pw_and (pt_cmpR op_lt (pv 7) (pv 4) (nomark _)) (pw_and1 (pt_cmpR (g_in_seq K) (pv 7) (pv 6) (by rfl)))))))) (fun _ _ _ _ _ => (pv 7))) (pe_lst pa_nil) (nomark _)) (pss_one (ps_ret pe_bl)) pss_nil)
      (pss_one (ps_ret (pe_cmpR (g_eqD K hr.units) (pe_lc (own := [("at", 7)]) rfl sc__law_behind_right.nd (g_list K (pv 5)) (blkOk_by (own := [("at", 7)]) (N := ["cutter", "old", "new", "rest", "place", "first", "second", "at"]) (sc := defScope s__law_behind_right) (by decide +kernel)) (fun _ _ _ _ _ => (pg_name (i := 7) sc__law_behind_right.nd rfl (Or.inl rfl))) (fun _ _ _ _ _ => (pts_one (pt_cmpR op_ge (pv 7) (pv 4) (nomark _)))) (fun _ _ _ _ _ => (pv 7))) (pe_lc (own := [("at", 7)]) rfl sc__law_behind_right.nd (g_list K (pv 6)) (blkOk_by (own := [("at", 7)]) (N := ["cutter", "old", "new", "rest", "place", "first", "second", "at"]) (sc := defScope s__law_behind_right) (by decide +kernel)) (fun _ _ _ _ _ => (pg_name (i := 7) sc__law_behind_right.nd rfl (Or.inl rfl))) (fun _ _ _ _ _ => (pts_one (pt_cmpR op_ge (pv 7) (pv 4) (nomark _)))) (fun _ _ _ _ _ => (pv 7))) (nomark _))))))))), ?_⟩
    have a1 : (o ++ r).length = o.length + r.length := str_app_len _ _
    have a2 : (n ++ r).length = n.length + r.length := str_app_len _ _
    have l1 := A1.len
    have l2 := A2.len
    have c1 := cs_len (o ++ r)
    have c2 := cs_len (n ++ r)
    have co := cs_len o
    have cn := cs_len n
    have lr1 := A1.run.len
    have lr2 := A2.run.len
    have o1 : Over (tfD kvs) (cs o ++ cs r) := by rw [← cs_app]; exact A1.ov
    have o2 : Over (tfD kvs) (cs n ++ cs r) := by rw [← cs_app]; exact A2.ov
    have A : ComAt C CU H c kvs o n r ys zs := ⟨A1.at, A2.at, by omega, by omega, by omega, fun x hx => o1 x (List.mem_append_left _ hx), fun x hx => o2 x (List.mem_append_left _ hx), fun x hx => o1 x (List.mem_append_right _ hx)⟩
    have run1 := A1.run
    have run2 := A2.run
    rw [cs_app] at run1 run2
    refine ⟨_, rfl, _, rfl, _, rfl, _, rfl, c, kvs, o, n, r, ys, zs, rfl, A, fun m H1 b1 b2 b3 b4 s1 => ?_⟩
    refine ⟨_, rfl, _, rfl, _, rfl, o, r, rfl, rfl, fits_sz (by omega), c, kvs, _, ys, rfl, A.one.same s1, fun p1 H2 hp1 e1 s2 => ?_⟩
    refine ⟨p1, rfl, ⟨_, SqT.of e1⟩, fun D hD => ?_⟩
    refine lcs (bndI ys) (walk_tupF (K := K) V.int (bndI ys)) (fun x => some (.int (x - (o.length : Int)))) hD (by rw [bndI_len]; omega) (fun H' s => SqT.of (s _ _ e1)) ?_ ?_
    · rintro j y x Ha Hb hj sa ⟨rfl, y', ey, rfl⟩ N M hN hM
      have e3 : y = y' := Option.some.inj (hj.symm.trans ey)
      subst e3
      exact ⟨wipe_set, _, rfl, _, rfl, o, rfl, fits_sz (by omega), _, _, rfl, rfl, hN _ _ rfl (Same.refl _)⟩
    intro H3 s3 e3
    rw [fm_some, show (fun x : Int => V.int (x - (o.length : Int))) = V.int ∘ fun x => x - (o.length : Int) from rfl, ← List.map_map] at e3
    have s13 := (s1.trans s2).trans s3
    refine ⟨_, rfl, _, rfl, _, rfl, n, r, rfl, rfl, fits_sz (by omega), c, kvs, _, zs, rfl, A.two.same s13, fun p2 H4 hp2 e4 s4 => ?_⟩
    refine ⟨p2, rfl, ⟨_, SqT.of e4⟩, fun D2 hD2 => ?_⟩
    refine lcs (bndI zs) (walk_tupF (K := K) V.int (bndI zs)) (fun x => some (.int (x - (n.length : Int)))) hD2 (by rw [bndI_len]; omega) (fun H' s => SqT.of (s _ _ e4)) ?_ ?_
    · rintro j y x Ha Hb hj sa ⟨rfl, y', ey, rfl⟩ N M hN hM
      have e3 : y = y' := Option.some.inj (hj.symm.trans ey)
      subst e3
      exact ⟨wipe_set, _, rfl, _, rfl, n, rfl, fits_sz (by omega), _, _, rfl, rfl, hN _ _ rfl (Same.refl _)⟩
    intro H5 s5 e5
    rw [fm_some, show (fun x : Int => V.int (x - (n.length : Int))) = V.int ∘ fun x => x - (n.length : Int) from rfl, ← List.map_map] at e5
    have s15 := (s13.trans s4).trans s5
    have e35 := s5 _ _ (s4 _ _ e3)
    have m1 : ∀ t : Int, t ∈ (bndI ys).map (fun x => x - (o.length : Int)) ↔ t + (o.length : Int) ∈ bndI ys := fun t => by
      rw [List.mem_map]
      exact ⟨fun ⟨x, hx, e⟩ => by rwa [show t + (o.length : Int) = x by omega], fun h => ⟨_, h, by omega⟩⟩
    have m2 : ∀ t : Int, t ∈ (bndI zs).map (fun x => x - (n.length : Int)) ↔ t + (n.length : Int) ∈ bndI zs := fun t => by
      rw [List.mem_map]
      exact ⟨fun ⟨x, hx, e⟩ => by rwa [show t + (n.length : Int) = x by omega], fun h => ⟨_, h, by omega⟩⟩
    obtain ⟨i, hi, ei⟩ := id b1
    obtain ⟨j, hj, ej⟩ := id b2
    have same := behind_same run1 run2 hi hj (by rw [cs_len]; exact ei) (by rw [cs_len]; exact ej)
    have bf1 := bnd_from (nempty_run run1) hi ei
    have bf2 := bnd_from (nempty_run run2) hj ej
    have lsame := congrArg List.length same
    rw [List.length_drop, List.length_drop] at lsame
    have bf : (((bndI ys).map fun x => x - (o.length : Int)).filter fun x => decide ((m : Int) ≤ x)) = (((bndI zs).map fun x => x - (n.length : Int)).filter fun x => decide ((m : Int) ≤ x)) := by
      rw [bf1, bf2, same, show ys.length - i = zs.length - j by omega]
    have i1 := (m1 m).mpr (by rw [show (m : Int) + (o.length : Int) = ((o.length + m : Nat) : Int) by omega]; exact bd_mem.mpr b1)
    have i2 := (m2 m).mpr (by rw [show (m : Int) + (n.length : Int) = ((n.length + m : Nat) : Int) by omega]; exact bd_mem.mpr b2)
    have less : ∀ t : Int, t ∈ (bndI ys).map (fun x => x - (o.length : Int)) → 0 ≤ t → t < (m : Int) → t ∈ (bndI zs).map (fun x => x - (n.length : Int)) → False := fun t h1 h2 h3 h4 => by
      have g1 := (m1 t).mp h1
      have g2 := (m2 t).mp h4
      obtain ⟨u, rfl⟩ : ∃ u : Nat, t = (u : Int) := ⟨t.toNat, by omega⟩
      have := b4 u (bd_mem.mp (by rwa [show ((o.length + u : Nat) : Int) = (u : Int) + (o.length : Int) by omega])) (bd_mem.mp (by rwa [show ((n.length + u : Nat) : Int) = (u : Int) + (n.length : Int) by omega]))
      omega
    have lf : ((bndI ys).map fun x => x - (o.length : Int)).length ≤ 501 := by rw [List.length_map, bndI_len]; omega
    have lg : ((bndI zs).map fun x => x - (n.length : Int)).length ≤ 501 := by rw [List.length_map, bndI_len]; omega
    clear same bf1 bf2 m1 m2 lsame
    generalize ((bndI ys).map fun x => x - (o.length : Int)) = fs at *
    generalize ((bndI zs).map fun x => x - (n.length : Int)) = gs at *
    refine ⟨_, rfl, _, rfl, D, _, rfl, .inl (SqL.of e35), rfl, flat_intE, _, rfl, ?_⟩
    refine itF (by rw [if_pos rfl, inV_intE, decide_eq_true i1]; rfl) ?_
    refine ⟨_, rfl, _, rfl, D2, _, rfl, .inl (SqL.of e5), rfl, flat_intE, _, rfl, ?_⟩
    refine itF (by rw [if_pos rfl, inV_intE, decide_eq_true i2]; rfl) ?_
    refine ⟨_, rfl, _, _, rfl, rfl, _, rfl, itF (decide_eq_false (by omega)) ?_⟩
    refine ⟨_, rfl, _, rfl, r, rfl, fits_sz (by omega), _, _, rfl, rfl, _, rfl, itF (decide_eq_false (by omega)) ?_⟩
    refine ⟨_, rfl, D, rfl, ⟨_, SqL.of e35⟩, fun D3 hD3 => ?_⟩
    refine lcs fs (walk_listF (K := K) V.int fs) (fun _ => none) hD3 (by omega) (fun H' s => SqL.of (s _ _ e35)) ?_ ?_
    · rintro j' y x Ha Hb hj sa ⟨rfl, y', ey, rfl⟩ N M hN hM
      have e3 : y = y' := Option.some.inj (hj.symm.trans ey)
      subst e3
      refine ⟨wipe_set, _, rfl, _, _, rfl, rfl, _, rfl, ?_⟩
      refine itB (fun g => ?_) (fun g => hM _ rfl (Same.refl _))
      refine ⟨_, rfl, _, rfl, _, _, rfl, rfl, _, rfl, ?_⟩
      refine itB (fun g2 => ?_) (fun g2 => hM _ rfl (Same.refl _))
      refine ⟨_, rfl, _, rfl, D2, _, rfl, .inl (SqL.of (sa _ _ e5)), rfl, flat_intE, _, rfl, ?_⟩
      refine itF ?_ (hM _ rfl (Same.refl _))
      rw [if_neg Bool.false_ne_true, inV_intE]
      exact decide_eq_false fun h => less y (List.mem_of_getElem? hj) (of_decide_eq_true g) (of_decide_eq_true g2) h
    intro H6 s6 e6
    have en : (fs.filterMap fun _ => (none : Option V)) = [] := by
      rw [List.filterMap_eq_nil_iff]
      intro _ _
      rfl
    rw [en] at e6
    refine ⟨by show 0 ≤ sizeLine; decide, fun E0' hE0 => ?_⟩
    have s7 := same_new hE0 (o := .lst [])
    have f7 : (upd H6 E0' (.lst [] : HO)) E0' = some (.lst [] : HO) := upd_same
    generalize (upd H6 E0' (.lst [] : HO)) = H7 at s7 f7 ⊢
    refine neD_same (d := .list (([] : List Int).map PyData.int)) (.lst (SqL.of (s7 _ _ e6)) .nil) (.lst (SqL.of f7) .nil) (shaped_lE []) ⟨false, rfl, itF rfl ?_⟩
    have s57 := s6.trans s7
    have e37 := s57 _ _ e35
    have e57 := s57 _ _ e5
    refine ⟨_, rfl, D, rfl, ⟨_, SqL.of e37⟩, fun D4 hD4 => ?_⟩
    refine lcs fs (walk_listF (K := K) V.int fs) (fun x => if decide ((m : Int) ≤ x) = true then some (.int x) else none) hD4 (by omega) (fun H' s => SqL.of (s _ _ e37)) ?_ ?_
    · rintro j' y x Ha Hb hj sa ⟨rfl, y', ey, rfl⟩ N M hN hM
      have e3 : y = y' := Option.some.inj (hj.symm.trans ey)
      subst e3
      refine ⟨wipe_set, _, rfl, _, rfl, _, _, rfl, rfl, _, rfl, ?_⟩
      refine itB (fun g => ?_) (fun g => ?_)
      · exact ⟨_, rfl, hN _ _ (if_pos g) (Same.refl _)⟩
      · exact hM _ (if_neg (by rw [g]; exact Bool.false_ne_true)) (Same.refl _)
    intro H8 s8 e8
    rw [fm_ifg] at e8
    have e58 := s8 _ _ e57
    refine ⟨_, rfl, D2, rfl, ⟨_, SqL.of e58⟩, fun D5 hD5 => ?_⟩
    refine lcs gs (walk_listF (K := K) V.int gs) (fun x => if decide ((m : Int) ≤ x) = true then some (.int x) else none) hD5 (by omega) (fun H' s => SqL.of (s _ _ e58)) ?_ ?_
    · rintro j' y x Ha Hb hj sa ⟨rfl, y', ey, rfl⟩ N M hN hM
      have e3 : y = y' := Option.some.inj (hj.symm.trans ey)
      subst e3
      refine ⟨wipe_set, _, rfl, _, rfl, _, _, rfl, rfl, _, rfl, ?_⟩
      refine itB (fun g => ?_) (fun g => ?_)
      · exact ⟨_, rfl, hN _ _ (if_pos g) (Same.refl _)⟩
      · exact hM _ (if_neg (by rw [g]; exact Bool.false_ne_true)) (Same.refl _)
    intro H9 s9 e9
    rw [fm_ifg, ← bf] at e9
    exact eqD_sameE (.lst (SqL.of (s9 _ _ e8)) (dpAll_ints _)) (.lst (SqL.of e9) (dpAll_ints _)) (shaped_lE _) (k _ (((s15.trans s57).trans s8).trans s9))
theorem sc__law_recut_right : FnScope ["cutter", "text", "start", "stop", "signs", "later", "index", "gone", "came", "one", "other", "rest"] ["cutter", "text", "start", "stop", "signs"] (defScope s__law_recut_right) := ⟨rfl, rfl, rfl, by decide +kernel, rfl, by decide +kernel, by decide +kernel⟩
theorem ok__law_recut_right {f : Addr} {fd : FuncData} (F : Fun K "_law_recut_right" "_law_recut_right" s__law_recut_right f fd) (T : Txt K mg C CU) (c_Cutter_cut : C8.Met P w K mg base 5 CU "cut" (spCutT C CU) []) (c_recut : HasO P w K mg base CX0 7 "recut" ["cutter", "text", "start", "stop", "signs"] (spRecut C CU)) : FnOk P w K mg base CX0 8 f fd ["cutter", "text", "start", "stop", "signs"] (spRecutR C CU) := by
  refine F.ok sc__law_recut_right (fun vs H Q E h => ?_) (fun cdv A outer s H vs Q E hr h => ?_)
  · obtain ⟨c, kvs, z, g, n, a, b, ys, zs, rfl, _⟩ := h
    rfl
  · have hu := hu_of hr
    obtain ⟨c, kvs, z, g, n, sa, sb, ys, zs, rfl, ab, bz, og, lg, lz5, en, R, R2, ln5, k⟩ := h
    refine ⟨_, (pss_cons (ps_set (i := 5) sc__law_recut_right.nd rfl (Or.inl rfl) (pe_op op_add_str (pe_op op_add_str (pe_slice sl_str (pv 1) po_none (po_some (pv 2))) (pv 4)) (pe_slice sl_str (pv 1) (po_some (pv 3)) po_none)))
      (pss_cons (ps_asg (pe_hasO c_recut (hr.mono (by decide)) pass0 (pa_cons (pv 0) (pa_cons (pv 1) (pa_cons (pv 2) (pa_cons (pv 3) (pa_cons (pv 4) pa_nil)))))) (g_tup K (n := 3) rfl (pgs_cons (pg_name (i := 6) sc__law_recut_right.nd rfl (Or.inl rfl)) (pgs_cons (pg_name (i := 7) sc__law_recut_right.nd rfl (Or.inl rfl)) (pgs_cons (pg_name (i := 8) sc__law_recut_right.nd rfl (Or.inl rfl)) pgs_nil)))))
      (pss_cons (ps_par (i := 9) (j := 10) (by rfl) sc__law_recut_right.nd rfl rfl (by decide) rfl rfl (pa_cons (C8.pe_mt c_Cutter_cut hr (by decide) (pv 0) (pa_cons (pv 1) pa_nil)) (pa_cons (C8.pe_mt c_Cutter_cut hr (by decide) (pv 0) (pa_cons (pv 5) pa_nil)) pa_nil)) (by rfl))
      (pss_cons (ps_set (i := 11) sc__law_recut_right.nd rfl (Or.inl rfl) (pe_slice (g_sl_tup K) (pv 9) (po_some (pe_op op_add (pv 6) (pe_callB (g_len_seq K) (by rfl) T.b_len (by decide +kernel) (pa_cons (pv 7) pa_nil)))) po_none))
      (pss_cons (ps_if (PW.pt (pw_or (pt_cmpR (g_neD K hr.units) (pe_op (g_catA K) (pe_op (g_catA K) (pe_slice (g_sl_tup K) (pv 9) po_none (po_some (pv 6))) (pv 7)) (pv 11)) (pv 9) (nomark _)) (pw_or1 (pt_cmpR (g_neD K hr.units) (pe_op (g_catA K) (pe_op (g_catA K) (pe_slice (g_sl_tup K) (pv 9) po_none (po_some (pv 6))) (pv 8)) (pv 11)) (pv 10) (nomark _))))) (pss_one (ps_ret pe_bl)) pss_nil)
      (pss_cons (ps_if (PW.pt (pw_and (pt_cmpR (g_neD K hr.units) (pv 7) (pe_tup pa_nil) (nomark _)) (pw_and1 (pt_cmpR (g_neD K hr.units) (pv 8) (pe_tup pa_nil) (nomark _))))) (pss_one (ps_ret (pe_and (pe_cmpR op_ne (pe_ix (g_ix_tup K) (pv 7) pe_int (fun _ _ => rfl)) (pe_ix (g_ix_tup K) (pv 8) pe_int (fun _ _ => rfl)) (nomark _)) (pe_one (pe_cmpR op_ne (pe_ix (g_ix_tup K) (pv 7) (pe_un un_neg pe_int) (fun _ _ => rfl)) (pe_ix (g_ix_tup K) (pv 8) (pe_un un_neg pe_int) (fun _ _ => rfl)) (nomark _)))))) pss_nil)
      (pss_one (ps_ret pe_bl)))))))), ?_⟩
    obtain ⟨ord, v, W, Y, A, run⟩ := id R.ex
    obtain ⟨ord2, v2, W2, Y2, A2, run2⟩ := id R2.ex
    obtain ⟨b, cx, to, td, te, ts, T', E', ns, h1, B, _⟩ := id A.ex
    obtain ⟨_, al, _, _⟩ := ap_parts B.av
    have nt : (cutF b to td te ts v).lookup ("cut" : Str) = none := cf_no (by decide +kernel) (by decide +kernel) (by decide +kernel) (by decide +kernel) (by decide +kernel) (by decide +kernel)
    
    have cz := cs_len z
    have cg := cs_len g
    have cn := cs_len n
    have lr1 := run.len
    have lr2 := run2.len
    have len := congrArg List.length en
    rw [List.length_append, List.length_append, List.length_take, List.length_drop] at len
    have c1 : cs (cutS z none (some (sa : Int))) = (cs z).take sa := cs_cutTo (by omega)
    have c2 : cs (cutS z (some (sb : Int)) none) = (cs z).drop sb := cs_cutFrom (by omega)
    have w1 : (cutS z none (some (sa : Int))).length ≤ 500 := by rw [← cs_len, c1, List.length_take]; omega
    have w2 : (cutS z (some (sb : Int)) none).length ≤ 500 := by rw [← cs_len, c2, List.length_drop]; omega
    have w3 : (cutS z none (some (sa : Int)) ++ g).length = (cutS z none (some (sa : Int))).length + g.length := str_app_len _ _
    have e3 : (cutS z none (some (sa : Int)) ++ g) ++ cutS z (some (sb : Int)) none = n := str_ext (by rw [cs_app, cs_app, c1, c2, en])
    have letty : ∀ {us : List Str}, (∀ y ∈ us, y ∈ ys ∨ y ∈ zs) → ∀ y ∈ us, ∀ c ∈ cs y, lett c = true := fun h y hy => by
      have : ∃ p, tfD kvs y = some p := by
        rcases h y hy with q | q
        · exact R.all y q
        · exact R2.all y q
      exact (keyStrs_piece al y ((tf_key al).mpr this)).2.2
    refine ⟨_, rfl, _, rfl, _, rfl, z, rfl, fits_sz (by omega), _, rfl, _, g, rfl, rfl, fits_sz (by omega), _, rfl, _, rfl, _, rfl, z, rfl, fits_sz (by omega), _, _, rfl, rfl, fits_sz (by omega), ?_⟩
    rw [e3]
    refine ⟨_, rfl, _, rfl, _, rfl, _, rfl, _, rfl, c, kvs, z, g, n, sa, sb, ys, zs, rfl, ab, bz, og, by omega, en, R, R2, fun p H1 hp ct s1 => ?_⟩
    obtain ⟨pg, pk, fp, fg, fk⟩ := ct
    refine ⟨p, _, rfl, SqT.of fp, rfl, _, _, rfl, _, _, rfl, _, _, rfl, rfl, ?_⟩
    refine ⟨_, rfl, c, cx, _, rfl, s1 _ _ h1, nt, _, rfl, c, kvs, z, ys, rfl, R.same s1, fun po H2 hpo e1 s2 => ?_⟩
    have s02 := s1.trans s2
    refine ⟨_, rfl, c, cx, _, rfl, s02 _ _ h1, nt, _, rfl, c, kvs, n, zs, rfl, R2.same s02, fun pq H3 hpq e2 s3 => ⟨_, _, rfl, ?_⟩⟩
    have s03 := s02.trans s3
    have eo := s3 _ _ e1
    have eg := (s2.trans s3) _ _ fg
    have ek := (s2.trans s3) _ _ fk
    have sl := share_le (xs := ys) (ys := zs)
    have lg1 : shareL ys zs + (goneL ys zs).length ≤ ys.length := by
      have := congrArg List.length (cmp_one (ys := ys) (zs := zs))
      rw [List.length_append, List.length_append, List.length_take] at this
      omega
    have lk1 : (cameL ys zs).length ≤ 500 ∧ (restL ys zs).length ≤ 500 := by
      have := congrArg List.length (cmp_two (ys := ys) (zs := zs))
      rw [List.length_append, List.length_append, List.length_take] at this
      omega
    refine ⟨_, rfl, _, rfl, _, rfl, pg, _, rfl, .inr (SqT.of eg), _, _, rfl, rfl, _, rfl, ?_⟩
    dsimp only [tNoPart]
    refine rSlA_any (SqT.of eo) fun pr H4 er s4 => ?_
    rw [List.length_map, show ((shareL ys zs : Nat) : Int) + ((goneL ys zs).length : Int) = ((shareL ys zs + (goneL ys zs).length : Nat) : Int) by omega, cutV_fromE (by rw [List.length_map]; exact lg1), ← List.map_drop, cmp_rest] at er
    refine ⟨_, rfl, _, rfl, _, rfl, ?_⟩
    refine rSlA_any (SqT.of (s4 _ _ eo)) fun p1 H5 f1 s5 => ?_
    rw [cutV_to (by rw [List.length_map]; exact sl.1), ← List.map_take] at f1
    refine ⟨_, rfl, ?_⟩
    refine rCatA_any f1 (SqT.of (s5 _ _ (s4 _ _ eg))) (fits_sz (by rw [List.length_map, List.length_map, List.length_take]; omega)) fun p2 H6 f2 s6 => ?_
    refine ⟨_, rfl, ?_⟩
    refine rCatA_any f2 (sqt_s (s5.trans s6) er) (fits_sz (by rw [← List.map_append, List.length_map, List.length_map, List.length_append, List.length_take]; omega)) fun p3 H7 f3 s7 => ?_
    rw [← List.map_append, ← List.map_append, cmp_one] at f3
    have s37 := ((s4.trans s5).trans s6).trans s7
    refine ⟨_, rfl, neD_same (.tup f3 (dpAll_strs _)) (.tup (SqT.of (s37 _ _ eo)) (dpAll_strs _)) (shaped_strs (letty fun y hy => .inl hy)) ⟨false, rfl, itF rfl ?_⟩⟩
    refine ⟨_, rfl, _, rfl, _, rfl, ?_⟩
    refine rSlA_any (SqT.of (s37 _ _ eo)) fun p4 H8 f4 s8 => ?_
    rw [cutV_to (by rw [List.length_map]; exact sl.1), ← List.map_take, share_take] at f4
    refine ⟨_, rfl, ?_⟩
    refine rCatA_any f4 (SqT.of (s8 _ _ (s37 _ _ ek))) (fits_sz (by rw [List.length_map, List.length_map, List.length_take]; omega)) fun p5 H9 f5 s9 => ?_
    refine ⟨_, rfl, ?_⟩
    refine rCatA_any f5 (sqt_s ((((s5.trans s6).trans s7).trans s8).trans s9) er) (fits_sz (by rw [← List.map_append, List.length_map, List.length_map, List.length_append, List.length_take]; omega)) fun p6 H10 f6 s10 => ?_
    rw [← List.map_append, ← List.map_append, cmp_two] at f6
    have s3a := ((s37.trans s8).trans s9).trans s10
    refine ⟨_, rfl, neD_same (.tup f6 (dpAll_strs _)) (.tup (SqT.of (s3a _ _ e2)) (dpAll_strs _)) (shaped_strs (letty fun y hy => .inr hy)) ⟨false, rfl, itF rfl ?_⟩⟩
    have s0a := s03.trans s3a
    have eg2 := s3a _ _ eg
    have ek2 := s3a _ _ ek
    have cf := @cmp_first ys zs
    have cl := @cmp_last ys zs
    have gs := @gone_sub ys zs
    have ks := @came_sub ys zs
    clear s37 s8 s9 s10 f6 f5 f4 f3 f2 f1 s7 s6 s5 s4 er eo eg ek s3a e1 e2 lg1 lk1 sl
    generalize goneL ys zs = gn at *
    generalize cameL ys zs = cm at *
    refine ⟨_, rfl, by show 0 ≤ sizeLine; decide, fun u1 hu1 => ?_⟩
    have t1 := same_new hu1 (o := .tup [])
    have j1 : (upd H10 u1 (.tup [] : HO)) u1 = some (.tup [] : HO) := upd_same
    generalize (upd H10 u1 (.tup [] : HO)) = J1 at t1 j1 ⊢
    have eg3 := t1 _ _ eg2
    have ek3 := t1 _ _ ek2
    cases gn with
    | nil => exact neD_same (d := .tuple (([] : List Str).map PyData.str)) (.tup (SqT.of eg3) .nil) (.tup (SqT.of j1) .nil) rfl ⟨false, rfl, itF rfl (k _ (s0a.trans t1))⟩
    | cons x gr =>
      refine ⟨_, .tuple [], .tup (SqT.of eg3) (dpAll_strs _), .tup (SqT.of j1) .nil, shaped_strs (letty fun y hy => .inl (gs y hy)), rfl, true, by rw [ne_nilE]; rfl, itT rfl ?_⟩
      refine ⟨_, rfl, by show 0 ≤ sizeLine; decide, fun u2 hu2 => ?_⟩
      have t2 := same_new hu2 (o := .tup [])
      have j2 : (upd J1 u2 (.tup [] : HO)) u2 = some (.tup [] : HO) := upd_same
      generalize (upd J1 u2 (.tup [] : HO)) = J2 at t2 j2 ⊢
      have eg4 := t2 _ _ eg3
      have ek4 := t2 _ _ ek3
      have s0b := (s0a.trans t1).trans t2
      cases cm with
      | nil => exact neD_same (d := .tuple (([] : List Str).map PyData.str)) (.tup (SqT.of ek4) .nil) (.tup (SqT.of j2) .nil) rfl ⟨false, rfl, itF rfl (k _ s0b)⟩
      | cons y cr =>
        refine ⟨_, .tuple [], .tup (SqT.of ek4) (dpAll_strs _), .tup (SqT.of j2) .nil, shaped_strs (letty fun y hy => .inr (ks y hy)), rfl, true, by rw [ne_nilE]; rfl, itT rfl ?_⟩
        obtain ⟨gl, hgl⟩ : ∃ gl, (x :: gr).getLast? = some gl := ⟨_, List.getLast?_eq_some_getLast (List.cons_ne_nil _ _)⟩
        obtain ⟨kl, hkl⟩ : ∃ kl, (y :: cr).getLast? = some kl := ⟨_, List.getLast?_eq_some_getLast (List.cons_ne_nil _ _)⟩
        refine ⟨_, rfl, pg, _, _, .str x, rfl, rfl, SqT.of eg4, atI_firstE rfl, _, rfl, pk, _, _, .str y, rfl, rfl, SqT.of ek4, atI_firstE rfl, rfl, true, ?_, (if_pos rfl).mpr ?_⟩
        · rw [decide_eq_false (fun e => cf rfl rfl (V.str.inj e))]
          rfl
        refine ⟨_, rfl, _, rfl, pg, _, _, .str gl, rfl, rfl, SqT.of eg4, atI_lastE (by rw [List.getLast?_map, hgl]; rfl), _, rfl, _, rfl, pk, _, _, .str kl, rfl, rfl, SqT.of ek4, atI_lastE (by rw [List.getLast?_map, hkl]; rfl), rfl, ?_⟩
        rw [decide_eq_false (fun e => cl hgl hkl (V.str.inj e))]
        exact k _ s0b
theorem sc__law_cell_right : FnScope ["reel", "numbers", "plan", "cutter", "signs", "text", "turn", "many", "more", "stop", "other", "number"] ["reel", "numbers"] (defScope s__law_cell_right) := ⟨rfl, rfl, rfl, by decide +kernel, rfl, by decide +kernel, by decide +kernel⟩
theorem ok__law_cell_right {f : Addr} {fd : FuncData} (F : Fun K "_law_cell_right" "_law_cell_right" s__law_cell_right f fd) (T : Txt K mg C CU) (c__law_edit_plan : Has P w K mg base CX0 7 "_law_edit_plan" ["reel", "spans"] (spEditPlan [(PT, (("_law_plan.<locals>.<lambda>" : String) : Str))] K)) (c__law_cutter : HasO P w K mg base CX0 8 "_law_cutter" ["plan"] (spPlanCut C CU)) (c__law_alphabet : HasO P w K mg base CX0 4 "_law_alphabet" ["plan"] (spAlphabet)) (c__law_pick : HasO P w K mg base CX0 2 "_law_pick" ["reel", "items"] (spPick K)) (c__law_ends_right : Has P w K mg base CX0 7 "_law_ends_right" ["cutter", "text"] (spEnds C CU)) (c__law_spin : HasO P w K mg base CX0 1 "_law_spin" ["reel", "total"] (spRoll)) (c__law_text : HasO P w K mg base CX0 3 "_law_text" ["reel", "signs", "lots"] (spLetters K)) (c__law_front_right : HasO P w K mg base CX0 7 "_law_front_right" ["plan", "cutter", "one", "other", "many"] (spFront C CU)) (c__law_behind_right : HasO P w K mg base CX0 7 "_law_behind_right" ["cutter", "old", "new", "rest"] (spBehindR C CU)) (c__law_recut_right : HasO P w K mg base CX0 8 "_law_recut_right" ["cutter", "text", "start", "stop", "signs"] (spRecutR C CU)) : FnG P w K mg base CX0 9 f fd ["reel", "numbers"] (spCellE [(PT, (("_law_plan.<locals>.<lambda>" : String) : Str))] K) := by
  refine fn_g0 F sc__law_cell_right (fun vs H Q E h => ?_) (fun cdv A outer s H vs Q E hg hr h => ?_)
  · obtain ⟨l, sa, nu, n, rfl, _⟩ := h
    rfl
  · have hu := hu_of hr
    obtain ⟨l, sa, nu, n, rfl, tabs, nsa, hs, nu1, nu63, nu0, D, k⟩ := h
    refine ⟨_, (pss_cons (ps_set (i := 2) sc__law_cell_right.nd rfl (Or.inl rfl) (pe_has c__law_edit_plan hg (hr.mono (by decide)) pass0 (pa_cons (pv 0) (pa_cons (pe_lst (pa_cons pe_int (pa_cons pe_int (pa_cons pe_int (pa_cons pe_int (pa_cons pe_int pa_nil)))))) pa_nil))))
      (pss_cons (ps_asg (pe_tup (pa_cons (pe_hasO c__law_cutter (hr.mono (by decide)) pass0 (pa_cons (pv 2) pa_nil)) (pa_cons (pe_hasO c__law_alphabet (hr.mono (by decide)) pass0 (pa_cons (pv 2) pa_nil)) pa_nil))) (g_tup K (n := 2) rfl (pgs_cons (pg_name (i := 3) sc__law_cell_right.nd rfl (Or.inl rfl)) (pgs_cons (pg_name (i := 4) sc__law_cell_right.nd rfl (Or.inr rfl)) pgs_nil))))
      (pss_cons (ps_set (i := 5) sc__law_cell_right.nd rfl (Or.inl rfl) (g_join K pe_str (pe_lc (own := [("number", 11)]) rfl sc__law_cell_right.nd (g_list K (pv 1)) (blkOk_by (own := [("number", 11)]) (N := ["reel", "numbers", "plan", "cutter", "signs", "text", "turn", "many", "more", "stop", "other", "number"]) (sc := defScope s__law_cell_right) (by decide +kernel)) (fun _ _ _ _ _ => (pg_name (i := 11) sc__law_cell_right.nd rfl (Or.inl rfl))) (fun _ _ _ _ _ => pts_nil) (fun _ _ _ _ _ => (pe_ix (g_ix_list K) (pv 4) (pe_op op_mod (pe_callTy call_int1 (by rfl) T.b_int (by decide +kernel) (pa_cons (pv 11) pa_nil)) (pe_callB (g_len_seq K) (by rfl) T.b_len (by decide +kernel) (pa_cons (pv 4) pa_nil))) (fun _ _ => rfl))))))
      (pss_cons (ps_set (i := 5) sc__law_cell_right.nd rfl (Or.inl rfl) (pe_hasO c__law_pick (hr.mono (by decide)) pass0 (pa_cons (pv 0) (pa_cons (pe_lst (pa_cons (pv 5) (pa_cons (pe_revS (pv 5)) (pa_cons (pe_op op_add_str (pv 5) (pv 5)) pa_nil)))) pa_nil))))
      (pss_cons (ps_if (pt_not (pt_val (pe_has c__law_ends_right hg (hr.mono (by decide)) pass0 (pa_cons (pv 3) (pa_cons (pv 5) pa_nil))))) (pss_one (ps_ret pe_bl)) pss_nil)
      (pss_cons (ps_for PassesOwn.never rfl (pi_range1 (by rfl) T.b_range (pa_cons pe_int pa_nil)) (pg_name (i := 6) sc__law_cell_right.nd rfl (Or.inl rfl)) (pss_cons (ps_set (i := 7) sc__law_cell_right.nd rfl (Or.inl rfl) (pe_hasO c__law_spin (hr.mono (by decide)) pass0 (pa_cons (pv 0) (pa_cons (pe_op op_add (pe_callB call_len_str (by rfl) T.b_len (by decide +kernel) (pa_cons (pv 5) pa_nil)) pe_int) pa_nil))))
      (pss_cons (ps_set (i := 8) sc__law_cell_right.nd rfl (Or.inl rfl) (pe_hasO c__law_text (hr.mono (by decide)) pass0 (pa_cons (pv 0) (pa_cons (pv 4) (pa_cons (pe_hasO c__law_spin (hr.mono (by decide)) pass0 (pa_cons (pv 0) (pa_cons pe_int pa_nil))) pa_nil)))))
      (pss_cons (ps_set (i := 9) sc__law_cell_right.nd rfl (Or.inl rfl) (pe_op op_add (pv 7) (pe_hasO c__law_spin (hr.mono (by decide)) pass0 (pa_cons (pv 0) (pa_cons (pe_op op_add (pe_op op_sub (pe_callB call_len_str (by rfl) T.b_len (by decide +kernel) (pa_cons (pv 5) pa_nil)) (pv 7)) pe_int) pa_nil)))))
      (pss_cons (ps_set (i := 10) sc__law_cell_right.nd rfl (Or.inl rfl) (pe_op op_add_str (pe_slice sl_str (pv 5) po_none (po_some (pv 7))) (pe_hasO c__law_pick (hr.mono (by decide)) pass0 (pa_cons (pv 0) (pa_cons (pe_lst (pa_cons (pv 8) (pa_cons (pe_op op_add_str (pv 8) (pe_slice sl_str (pv 5) (po_some (pv 7)) po_none)) (pa_cons (pe_op op_add_str (pv 8) (pe_slice sl_str (pv 5) (po_some (pv 9)) po_none)) (pa_cons pe_str pa_nil))))) pa_nil)))))
      (pss_cons (ps_if (PW.pt (pw_or (pt_not (pt_val (pe_hasO c__law_front_right (hr.mono (by decide)) pass0 (pa_cons (pv 2) (pa_cons (pv 3) (pa_cons (pv 5) (pa_cons (pv 10) (pa_cons (pv 7) pa_nil)))))))) (pw_or1 (pt_not (pt_val (pe_has c__law_ends_right hg (hr.mono (by decide)) pass0 (pa_cons (pv 3) (pa_cons (pv 10) pa_nil)))))))) (pss_one (ps_ret pe_bl)) pss_nil)
      (pss_cons (ps_if (pt_not (pt_val (pe_hasO c__law_behind_right (hr.mono (by decide)) pass0 (pa_cons (pv 3) (pa_cons (pe_slice sl_str (pv 5) po_none (po_some (pv 9))) (pa_cons (pe_op op_add_str (pe_slice sl_str (pv 5) po_none (po_some (pv 7))) (pv 8)) (pa_cons (pe_slice sl_str (pv 5) (po_some (pv 9)) po_none) pa_nil))))))) (pss_one (ps_ret pe_bl)) pss_nil)
      (pss_one (ps_if (pt_not (pt_val (pe_hasO c__law_recut_right (hr.mono (by decide)) pass0 (pa_cons (pv 3) (pa_cons (pv 5) (pa_cons (pv 7) (pa_cons (pv 9) (pa_cons (pv 8) pa_nil)))))))) (pss_one (ps_ret pe_bl)) pss_nil)))))))))
      (pss_one (ps_ret pe_bl)))))))), ?_⟩
    refine ⟨_, rfl, by show 5 ≤ sizeLine; decide, fun m1 w1 => ?_⟩
    have t1 := same_new w1 (o := .lst [V.int 0, .int 9, .int 9, .int 9, .int 9])
    have f1 : (upd H m1 (.lst [V.int 0, .int 9, .int 9, .int 9, .int 9] : HO)) m1 = some (.lst [V.int 0, .int 9, .int 9, .int 9, .int 9] : HO) := upd_same
    generalize (upd H m1 (.lst [V.int 0, .int 9, .int 9, .int 9, .int 9] : HO)) = J1 at t1 f1 ⊢
    have nm1 : m1 ≠ l := D.ne w1
    refine ⟨l, m1, n + 1300, rfl, Tabs.same tabs t1, nm1, SqL.of f1, (D.same t1).le (by omega), fun pc kvs ord v W Y H1 PA u1 tab1 D1 => ?_⟩
    have U1 : KpU l H H1 := (Kp.of t1).u.trans u1
    have hs1 : SqL K H1 sa (nu.map V.int) := by
      rcases hs with (h | ⟨o, h⟩) | h
      · exact .inl (.inl (U1 _ _ h (fun _ e => by cases e) nsa))
      · exact .inl (.inr ⟨o, U1 _ _ h (fun _ e => by cases e) nsa⟩)
      · exact .inr h
    refine ⟨_, rfl, pc, kvs, ord, v, W, Y, rfl, PA, fun c H2 hc A2 s2 => ?_⟩
    refine ⟨_, rfl, pc, kvs, ord, v, W, Y, rfl, PA.same s2, fun S sg H3 hS e3 sg12 nsg sgo s3 => ⟨by show 2 ≤ sizeLine; decide, fun tt htt => ?_⟩⟩
    have nS : S ≠ l := (D1.same s2).ne hS
    have s3' := same_new htt (o := .tup [V.ref c, .ref S])
    have f3' : (upd H3 tt (.tup [V.ref c, .ref S] : HO)) tt = some (.tup [V.ref c, .ref S] : HO) := upd_same
    generalize (upd H3 tt (.tup [V.ref c, .ref S] : HO)) = H3' at s3' f3' ⊢
    refine ⟨tt, _, rfl, SqT.of f3', rfl, _, _, rfl, _, _, rfl, rfl, ?_⟩
    have e3 := s3' _ _ e3
    have s3 := s3.trans s3'
    clear s3' f3' htt
    clear tt
    have s13 := s2.trans s3
    have D3 := D1.same s13
    have A3 := A2.same s3
    have PA3 := PA.same s13
    have hs3 : SqL K H3' sa (nu.map V.int) := s13.seq hs1
    clear s2 s3
    refine ⟨⟨_, rfl⟩, _, rfl, sa, rfl, ⟨_, hs3⟩, fun L hL => ?_⟩
    have sgp : 0 < sg.length := List.length_pos_iff.mpr nsg
    refine lcs nu (walk_listF (K := K) V.int nu) (fun x => some (chV (sg.getD (x % (sg.length : Int)).toNat 0))) hL (by omega) (fun H' s => s.seq hs3) ?_ ?_
    · rintro j x y Ha Hb hj sa' ⟨rfl, x', ex, rfl⟩ N M hN hM
      have e4 : x = x' := Option.some.inj (hj.symm.trans ex)
      subst e4
      have o1 := Int.emod_nonneg x (b := (sg.length : Int)) (by omega)
      have o2 := Int.emod_lt_of_pos x (b := (sg.length : Int)) (by omega)
      refine ⟨wipe_set, _, rfl, _, rfl, .inl ⟨_, rfl, _, rfl, S, _, rfl, .inl (SqL.of (sa' _ _ e3)), ?_⟩⟩
      rw [List.length_map]
      refine ⟨_, _, rfl, rfl, (by omega), ?_⟩
      refine ⟨S, _, _, chV (sg.getD (x % (sg.length : Int)).toNat 0), rfl, rfl, SqL.of (sa' _ _ e3), at_of (j := (x % (sg.length : Int)).toNat) (by omega) ?_, ?_⟩
      · rw [List.getElem?_map, List.getD_eq_getElem?_getD, List.getElem?_eq_getElem (by omega)]
        rfl
      · exact hN _ _ rfl (Same.refl _)
    intro H4 s4 e4
    rw [fm_some] at e4
    have e4 : H4 L = some (.lst (((nu.map fun x => sg.getD (x % (sg.length : Int)).toNat 0).map ch).map V.str)) := by
      rw [e4, List.map_map, List.map_map]
      rfl
    have zin : ∀ c ∈ (nu.map fun x => sg.getD (x % (sg.length : Int)).toNat 0), c ∈ sg := fun c hc => by
      obtain ⟨x, _, rfl⟩ := List.mem_map.mp hc
      have o1 := Int.emod_nonneg x (b := (sg.length : Int)) (by omega)
      have o2 := Int.emod_lt_of_pos x (b := (sg.length : Int)) (by omega)
      rw [List.getD_eq_getElem?_getD, List.getElem?_eq_getElem (by omega)]
      exact List.getElem_mem _
    have zl : (nu.map fun x => sg.getD (x % (sg.length : Int)).toNat 0).length = nu.length := List.length_map _
    generalize (nu.map fun x => sg.getD (x % (sg.length : Int)).toNat 0) = zs0 at e4 zin zl
    have ej := joinS_flat (zs0.map ch)
    rw [join_chE] at ej
    have lsum : ((zs0.map ch).map (·.length)).sum = zs0.length := by
      rw [← piecesS_len, join_chE]
    refine ⟨_, L, zs0.map ch, rfl, rfl, .inl (SqL.of e4), ?_, ?_⟩
    · have e : (Str.ofString "").length = 0 := by decide +kernel
      rw [e, lsum]
      omega
    generalize Txt.join "" (zs0.map ch) = z0 at ej
    have lz0 : z0.length = nu.length := by rw [← cs_len, ej, zl]
    have ov0 : Over (tfD kvs) (cs z0) := fun c hc => (sgo c).mp (zin c (by rw [← ej]; exact hc)) c List.mem_cons_self
    have D4 := D3.same s4
    refine ⟨_, rfl, _, rfl, _, rfl, z0, rfl, fits_sz (by omega), ?_⟩
    refine ⟨_, rfl, _, rfl, z0, z0, rfl, rfl, fits_sz (by omega), by show 3 ≤ sizeLine; decide, fun m2 w2 => ?_⟩
    have t4 := same_new w2 (o := .lst [V.str z0, .str (rv z0), .str (z0 ++ z0)])
    have f4 : (upd H4 m2 (.lst [V.str z0, .str (rv z0), .str (z0 ++ z0)] : HO)) m2 = some (.lst [V.str z0, .str (rv z0), .str (z0 ++ z0)] : HO) := upd_same
    generalize (upd H4 m2 (.lst [V.str z0, .str (rv z0), .str (z0 ++ z0)] : HO)) = J4 at t4 f4 ⊢
    have nm2 : m2 ≠ l := D4.ne w2
    refine ⟨l, .ref m2, _, n + 1200, rfl, .lst nm2 (SqL.of f4), by simp, by show 3 ≤ 1000; decide, (D4.same t4).le (by omega), fun u H5 hu k5 D5 => ?_⟩
    obtain ⟨z, rfl, ov, z1, z126⟩ : ∃ z : Str, u = .str z ∧ Over (tfD kvs) (cs z) ∧ 1 ≤ z.length ∧ z.length ≤ 126 := by
      simp only [List.mem_cons, List.not_mem_nil, or_false] at hu
      have l2 : (z0 ++ z0).length = z0.length + z0.length := str_app_len _ _
      rcases hu with rfl | rfl | rfl
      · exact ⟨z0, rfl, ov0, by omega, by omega⟩
      · exact ⟨rv z0, rfl, fun x hx => ov0 x (by rw [cs_rv] at hx; exact List.mem_reverse.mp hx), by rw [rv_len]; omega, by rw [rv_len]; omega⟩
      · exact ⟨z0 ++ z0, rfl, by rw [cs_app]; exact over_appE ov0 ov0, by omega, by omega⟩
    have k35 : Kp l H3' H5 := ((Kp.of s4).trans (.of t4)).trans k5
    have PA5 := PA3.kp D3 k35
    have A5 := A3.ku D3 k35.u
    have e5 := k35 _ _ e3 nS
    have U5 : KpU l H H5 := (U1.trans (Kp.of s13).u).trans k35.u
    have tab5 := Tabs.kp (Tabs.same tab1 s13) D3 k35
    obtain ⟨ys, X5⟩ := tx_ex A5 PA5.av PA5.v1 (show z.length ≤ 500 by omega) ov
    clear k35 k5 f4 t4 w2 D4 e4 s4 hs3 A3 PA3 D3 e3 s13 hs1 U1 D1 tab1 PA A2 lz0 ov0 ej lsum zl zin hu nm2
    refine ⟨_, rfl, _, rfl, c, kvs, z, ys, rfl, X5.at, by omega, fun H6 s6 => ⟨true, rfl, itF rfl ?_⟩⟩
    have PA6 := PA5.same s6
    have A6 := A5.same s6
    have e6 := s6 _ _ e5
    have U6 := U5.trans (Kp.of (l := l) s6).u
    have tab6 := Tabs.same tab5 s6
    have D6 := D5.same s6
    have cz := cs_len z
    clear X5 PA5 A5 e5 U5 tab5 D5 s6
    clear ys
    refine ⟨3, rfl, by decide, by decide, for_range (lo := 0) (n := 3) (fun i σ H' => ∃ x6 x7 x8 x9 x10, σ = [some (.ref l), some (.ref sa), some (.ref pc), some (.ref c), some (.ref S), some (.str z), x6, x7, x8, x9, x10, none] ∧ Kp l H6 H' ∧ Dice H' l (n + 50 * (3 - i))) ⟨_, _, _, _, _, rfl, Kp.refl _ _, D6.le (by omega)⟩ ?_ ?_⟩
    · rintro i σ G0 hi ⟨x6, x7, x8, x9, x10, rfl, kq, D0⟩
      have D0 : Dice G0 l (n + 50 * (3 - (i + 1)) + 50) := D0.le (by omega)
      generalize n + 50 * (3 - (i + 1)) = rest at D0 ⊢
      refine ⟨_, rfl, _, rfl, z, rfl, fits_sz (by omega), _, _, rfl, rfl, l, (z.length : Int) + 1, rest + 49, rfl, by omega, by omega, D0.le (by omega), fun r1 G1 r10 r11 g1 D1 => ?_⟩
      obtain ⟨mn, rfl⟩ : ∃ mn : Nat, r1 = (mn : Int) := ⟨r1.toNat, by omega⟩
      have mnz : mn ≤ z.length := by omega
      have q1 := kq.trans g1
      refine ⟨_, rfl, _, rfl, _, rfl, l, 12, rest + 48, rfl, by decide, by decide, D1.le (by omega), fun r2 G2 r20 r21 g2 D2 => ?_⟩
      have q2 := q1.trans g2
      refine ⟨l, .ref S, sg, r2.toNat, rest + 30, by rw [Int.toNat_of_nonneg r20]; rfl, .lst nS (SqL.of (q2 _ _ e6 nS)), nsg, by omega, by omega, D2.le (by omega), fun ws G3 wl wc g3 D3 => ?_⟩
      have q3 := q2.trans g3
      have ovw : Over (tfD kvs) (cs (sOf ws)) := fun c hc => (sgo c).mp (wc c (by rwa [cs_sOf] at hc)) c List.mem_cons_self
      have lw : (sOf ws).length ≤ 11 := by rw [sOf_len]; omega
      generalize sOf ws = w at ovw lw
      have cw := cs_len w
      refine ⟨_, rfl, _, rfl, _, rfl, z, rfl, fits_sz (by omega), _, rfl, _, _, rfl, rfl, _, _, rfl, rfl, l, (z.length : Int) - (mn : Int) + 1, rest + 20, rfl, by omega, by omega, D3.le (by omega), fun r4 G4 r40 r41 g4 D4 => ⟨_, _, rfl, rfl, ?_⟩⟩
      have q4 := q3.trans g4
      obtain ⟨st, est⟩ : ∃ st : Nat, (mn : Int) + r4 = (st : Int) := ⟨((mn : Int) + r4).toNat, by omega⟩
      rw [show (fun i j : Int => V.int (i + j)) (mn : Int) r4 = V.int (st : Int) from congrArg V.int est]
      have st1 : mn ≤ st := by omega
      have st2 : st ≤ z.length := by omega
      have c1 : cs (cutS z none (some (mn : Int))) = (cs z).take mn := cs_cutTo (by omega)
      have c2 : cs (cutS z (some (mn : Int)) none) = (cs z).drop mn := cs_cutFrom (by omega)
      have c3 : cs (cutS z (some (st : Int)) none) = (cs z).drop st := cs_cutFrom (by omega)
      have c4 : cs (cutS z none (some (st : Int))) = (cs z).take st := cs_cutTo (by omega)
      have w1 : (cutS z none (some (mn : Int))).length = mn := by rw [← cs_len, c1, List.length_take]; omega
      have w2 : (cutS z (some (mn : Int)) none).length ≤ 126 := by rw [← cs_len, c2, List.length_drop]; omega
      have w3 : (cutS z (some (st : Int)) none).length ≤ 126 := by rw [← cs_len, c3, List.length_drop]; omega
      have w4 : (cutS z none (some (st : Int))).length ≤ 126 := by rw [← cs_len, c4, List.length_take]; omega
      refine ⟨_, rfl, _, rfl, _, rfl, z, rfl, fits_sz (by omega), ?_⟩
      refine ⟨_, rfl, _, rfl, _, rfl, _, rfl, _, rfl, _, rfl, z, rfl, fits_sz (by omega), ?_⟩
      refine ⟨_, _, rfl, rfl, fits_sz (by omega), ?_⟩
      refine ⟨_, rfl, _, rfl, _, rfl, _, rfl, z, rfl, fits_sz (by omega), ?_⟩
      refine ⟨_, _, rfl, rfl, fits_sz (by omega), ?_⟩
      refine ⟨by show 4 ≤ sizeLine; decide, fun m3 hm3 => ?_⟩
      have s5 := same_new hm3 (o := .lst [V.str w, .str (w ++ cutS z (some (mn : Int)) none), .str (w ++ cutS z (some (st : Int)) none), .str ""])
      have f5 : (upd G4 m3 (.lst [V.str w, .str (w ++ cutS z (some (mn : Int)) none), .str (w ++ cutS z (some (st : Int)) none), .str ""] : HO)) m3 = some (.lst [V.str w, .str (w ++ cutS z (some (mn : Int)) none), .str (w ++ cutS z (some (st : Int)) none), .str ""] : HO) := upd_same
      generalize (upd G4 m3 (.lst [V.str w, .str (w ++ cutS z (some (mn : Int)) none), .str (w ++ cutS z (some (st : Int)) none), .str ""] : HO)) = G5 at s5 f5 ⊢
      have nm3 : m3 ≠ l := D4.ne hm3
      refine ⟨l, .ref m3, _, rest, rfl, .lst nm3 (SqL.of f5), by simp, by show 4 ≤ 1000; decide, (D4.same s5).le (by omega), fun u G6 hu g6 D6' => ?_⟩
      have q6 := (q4.trans (.of s5)).trans g6
      obtain ⟨x, rfl, ovx, lx⟩ : ∃ x : Str, u = .str x ∧ Over (tfD kvs) (cs x) ∧ x.length ≤ 140 := by
        simp only [List.mem_cons, List.not_mem_nil, or_false] at hu
        have l2 : (w ++ cutS z (some (mn : Int)) none).length = w.length + (cutS z (some (mn : Int)) none).length := str_app_len _ _
        have l3 : (w ++ cutS z (some (st : Int)) none).length = w.length + (cutS z (some (st : Int)) none).length := str_app_len _ _
        rcases hu with rfl | rfl | rfl | rfl
        · exact ⟨_, rfl, ovw, by omega⟩
        · exact ⟨_, rfl, by rw [cs_app, c2]; exact over_appE ovw (over_drop ov), by omega⟩
        · exact ⟨_, rfl, by rw [cs_app, c3]; exact over_appE ovw (over_drop ov), by omega⟩
        · exact ⟨_, rfl, fun c hc => by
            have : cs ("" : Str) = [] := by decide +kernel
            rw [this] at hc
            exact (List.not_mem_nil hc).elim, by
            have : ("" : Str).length = 0 := by decide +kernel
            rw [this]
            omega⟩
      refine ⟨_, _, rfl, rfl, fits_sz (by omega), ?_⟩
      have lo : (cutS z none (some (mn : Int)) ++ x).length = (cutS z none (some (mn : Int))).length + x.length := str_app_len _ _
      have co : cs (cutS z none (some (mn : Int)) ++ x) = (cs z).take mn ++ cs x := by rw [cs_app, c1]
      have oo : Over (tfD kvs) (cs (cutS z none (some (mn : Int)) ++ x)) := by rw [co]; exact over_appE (over_take ov) ovx
      have PAg := PA6.kp D6 q6
      have Ag := A6.ku D6 q6.u
      obtain ⟨ys, X1⟩ := tx_ex Ag PAg.av PAg.v1 (show z.length ≤ 500 by omega) ov
      obtain ⟨os, X2⟩ := tx_ex Ag PAg.av PAg.v1 (show (cutS z none (some (mn : Int)) ++ x).length ≤ 500 by omega) oo
      refine ⟨_, rfl, _, rfl, _, rfl, _, rfl, _, rfl, pc, c, kvs, ord, v, W, Y, z, _, mn, ys, os, rfl, PAg, X1, X2, mnz, by omega, ?_, fun G7 s7 => ⟨true, rfl, itF rfl ?_⟩⟩
      · rw [co, List.take_append_of_le_length (by rw [List.length_take]; omega), List.take_take, Nat.min_self]
      refine ⟨_, rfl, _, rfl, c, kvs, _, os, rfl, X2.at.same s7, by omega, fun G8 s8 => ⟨true, rfl, itF rfl ?_⟩⟩
      have s68 := s7.trans s8
      have n1 : cs (cutS z none (some (mn : Int)) ++ w) = (cs z).take mn ++ cs w := by rw [cs_app, c1]
      have ln1 : (cutS z none (some (mn : Int)) ++ w).length = (cutS z none (some (mn : Int))).length + w.length := str_app_len _ _
      have ln2 : (cutS z none (some (mn : Int)) ++ w ++ cutS z (some (st : Int)) none).length = (cutS z none (some (mn : Int)) ++ w).length + (cutS z (some (st : Int)) none).length := str_app_len _ _
      have cn : cs (cutS z none (some (mn : Int)) ++ w ++ cutS z (some (st : Int)) none) = (cs z).take mn ++ cs w ++ (cs z).drop st := by rw [cs_app, n1, c3]
      have ez : cutS z none (some (st : Int)) ++ cutS z (some (st : Int)) none = z := str_ext (by rw [cs_app, c4, c3, List.take_append_drop])
      obtain ⟨zs, X3⟩ := tx_ex Ag PAg.av PAg.v1 (show (cutS z none (some (mn : Int)) ++ w ++ cutS z (some (st : Int)) none).length ≤ 500 by omega) (by rw [cn]; exact over_appE (over_appE (over_take ov) ovw) (over_drop ov))
      refine ⟨_, rfl, _, rfl, _, rfl, _, rfl, z, rfl, fits_sz (by omega), _, rfl, _, rfl, _, rfl, z, rfl, fits_sz (by omega), _, rfl, _, _, rfl, rfl, fits_sz (by omega), _, rfl, _, rfl, _, rfl, z, rfl, fits_sz (by omega), ?_⟩
      refine ⟨c, kvs, ord, v, W, Y, _, _, _, ys, zs, rfl, by rw [ez]; exact X1.same s68, X3.same s68, fun G9 s9 => ⟨true, rfl, itF rfl ?_⟩⟩
      have s69 := s68.trans s9
      refine ⟨_, rfl, _, rfl, _, rfl, _, rfl, _, rfl, c, kvs, z, w, _, mn, st, ys, zs, rfl, st1, st2, ovw, by omega, by omega, cn, X1.at.same s69, X3.at.same s69, X3.len, fun G10 s10 => ⟨true, rfl, itF rfl ?_⟩⟩
      exact ⟨_, _, _, _, _, rfl, (q6.trans (.of s69)).trans (.of s10), (D6'.same s69).same s10⟩
    · rintro σ G ⟨x6, x7, x8, x9, x10, rfl, kq, D0⟩
      exact k _ (U6.trans kq.u) (Tabs.kp tab6 D6 kq) (D0.le (by omega))
theorem sc_law : FnScope ["script", "numbers", "at", "cell"] ["script"] (defScope s_law) := ⟨rfl, rfl, rfl, by decide +kernel, rfl, by decide +kernel, by decide +kernel⟩
theorem ok_law {f : Addr} {fd : FuncData} (F : Fun K "law" "law" s_law f fd) (T : Txt K mg C CU) (c__law_cell_right : Has P w K mg base CX0 9 "_law_cell_right" ["reel", "numbers"] (spCellE [(PT, (("_law_plan.<locals>.<lambda>" : String) : Str))] K)) (c__law_reel : HasO P w K mg base CX0 1 "_law_reel" ["script", "spot"] (spDice K)) : FnG P w K mg base CX0 10 f fd ["script"] (spLawT [(PT, (("_law_plan.<locals>.<lambda>" : String) : Str))] K) := by
  refine fn_g0 F sc_law (fun vs H Q E h => ?_) (fun cdv A outer s H vs Q E hg hr h => ?_)
  · obtain ⟨a, ns, rfl, _⟩ := h
    rfl
  · have hu := hu_of hr
    obtain ⟨a, ns, rfl, tabs, hS, hn, k⟩ := h
    refine ⟨_, (pss_cons (ps_setLc (i := 1) (own := [("cell", 3)]) rfl sc_law.nd rfl rfl (sw_true rfl rfl rfl (by decide +kernel)) (g_list K (pe_slice (g_sl_list K) (pv 0) po_none (po_some pe_int))) (blkOk_by (own := [("cell", 3)]) (N := ["script", "numbers", "at", "cell"]) (sc := defScope s_law) (by decide +kernel)) (fun _ _ _ _ _ => (pg_name (i := 3) sc_law.nd rfl (Or.inl rfl))) (fun _ _ _ _ _ => pts_nil) (fun _ _ _ _ _ => (pe_op op_add (pe_op op_mod (pe_callTy call_int1 (by rfl) T.b_int (by decide +kernel) (pa_cons (pe_callB call_abs (by rfl) T.b_abs (by decide +kernel) (pa_cons (pv 3) pa_nil)) pa_nil)) (pe_op op_powW pe_int pe_int)) (pe_callTy call_int1 (by rfl) T.b_int (by decide +kernel) (pa_cons (pe_cmpR op_lt (pv 3) pe_int (nomark _)) pa_nil)))))
      (C8.pss_cut (ps_if (pt_cmpR (g_eqD K hr.units) (pv 1) (pe_lst pa_nil) (nomark _)) (pss_one (ps_set (i := 1) sc_law.nd rfl (Or.inl rfl) (pe_lst (pa_cons pe_int (pa_cons pe_int (pa_cons pe_int pa_nil)))))) pss_nil)
      (pss_cons (ps_for PassesOwn.never rfl (pi_range1 (by rfl) T.b_range (pa_cons (pe_callB (call_max2 rfl) (by rfl) T.b_max (by decide +kernel) (pa_cons pe_int (pa_cons (pe_callB (call_min2 rfl) (by rfl) T.b_min (by decide +kernel) (pa_cons pe_int (pa_cons (pe_callB (g_len_seq K) (by rfl) T.b_len (by decide +kernel) (pa_cons (pv 0) pa_nil)) pa_nil))) pa_nil))) pa_nil)) (pg_name (i := 2) sc_law.nd rfl (Or.inl rfl)) (pss_one (ps_if (pt_not (pt_val (pe_has c__law_cell_right hg (hr.mono (by decide)) pass0 (pa_cons (pe_hasO c__law_reel (hr.mono (by decide)) pass0 (pa_cons (pv 0) (pa_cons (pv 2) pa_nil))) (pa_cons (pv 1) pa_nil))))) (pss_one (ps_ret pe_bl)) pss_nil)))
      (pss_one (ps_ret pe_bl))))), ?_⟩
    refine ⟨_, rfl, _, rfl, a, _, rfl, hS, fun q hq => ?_⟩
    have ec : cutV (ns.map V.int) none (some (63 : Int)) = ns.map V.int := (cutV_upE (i := 63)).trans (List.take_of_length_le (by rw [List.length_map]; exact hn))
    rw [ec]
    have s1 := same_new hq (o := .lst (ns.map V.int))
    have f1 : (upd H q (.lst (ns.map V.int) : HO)) q = some (.lst (ns.map V.int) : HO) := upd_same
    generalize (upd H q (.lst (ns.map V.int) : HO)) = H1 at s1 f1 ⊢
    refine ⟨q, rfl, ⟨_, SqL.of f1⟩, fun L hL => ?_⟩
    refine lcs ns (walk_listF (K := K) V.int ns) (fun x => some (.int ((if x < 0 then -x else x) % (10 : Int) ^ (9 : Int).toNat + (if decide (x < 0) = true then (1 : Int) else 0)))) hL (by omega) (fun H' s => SqL.of (s _ _ f1)) ?_ ?_
    · rintro j x y Ha Hb hj sa' ⟨rfl, x', ex, rfl⟩ N M hN hM
      have e4 : x = x' := Option.some.inj (hj.symm.trans ex)
      subst e4
      refine ⟨wipe_set, _, rfl, _, rfl, .inl ⟨_, rfl, _, _, rfl, rfl, ⟨by decide, by decide +kernel⟩, _, _, rfl, rfl, (show (0 : Int) < (10 : Int) ^ (9 : Int).toNat by decide +kernel), _, rfl, _, _, rfl, rfl, .inr ⟨_, rfl, _, _, rfl, rfl, ?_⟩⟩⟩
      exact hN _ _ rfl (Same.refl _)
    intro H2 s2 e2
    rw [fm_some, show (fun x : Int => V.int ((if x < 0 then -x else x) % (10 : Int) ^ (9 : Int).toNat + (if decide (x < 0) = true then (1 : Int) else 0))) = V.int ∘ fun x => ((if x < 0 then -x else x) % (10 : Int) ^ (9 : Int).toNat + (if decide (x < 0) = true then (1 : Int) else 0)) from rfl, ← List.map_map] at e2
    have nn : ∀ x ∈ ns.map fun x => ((if x < 0 then -x else x) % (10 : Int) ^ (9 : Int).toNat + (if decide (x < 0) = true then (1 : Int) else 0)), 0 ≤ x := fun x hx => by
      obtain ⟨y, _, rfl⟩ := List.mem_map.mp hx
      have := Int.emod_nonneg (if y < 0 then -y else y) (b := (10 : Int) ^ (9 : Int).toNat) (by decide +kernel)
      split <;> omega
    have ll : (ns.map fun x => ((if x < 0 then -x else x) % (10 : Int) ^ (9 : Int).toNat + (if decide (x < 0) = true then (1 : Int) else 0))).length = ns.length := List.length_map _
    generalize (ns.map fun x => ((if x < 0 then -x else x) % (10 : Int) ^ (9 : Int).toNat + (if decide (x < 0) = true then (1 : Int) else 0))) = nu at e2 nn ll
    have s02 := s1.trans s2
    have hS2 := s02.seq hS
    have tabs2 := Tabs.same tabs s02
    refine ⟨fun σ' H' => ∃ (p : Addr) (nu : List Int), σ' = [some (.ref a), some (.ref p), none, none] ∧ H' p = some (.lst (nu.map V.int)) ∧ 1 ≤ nu.length ∧ nu.length ≤ 63 ∧ (∀ x ∈ nu, 0 ≤ x) ∧ SqL K H' a (ns.map V.int) ∧ Tabs [(PT, (("_law_plan.<locals>.<lambda>" : String) : Str))] H', ?_, ?_⟩
    · refine ⟨_, rfl, by show 0 ≤ sizeLine; decide, fun u hu => ?_⟩
      have s3 := same_new hu (o := .lst [])
      have f3 : (upd H2 u (.lst [] : HO)) u = some (.lst [] : HO) := upd_same
      generalize (upd H2 u (.lst [] : HO)) = H3 at s3 f3 ⊢
      have e3 := s3 _ _ e2
      cases nu with
      | cons x r =>
        refine ⟨_, .list [], .lst (SqL.of e3) (dpAll_ints _), .lst (SqL.of f3) .nil, shaped_lE _, rfl, false, rfl, itF rfl ?_⟩
        exact ⟨L, x :: r, rfl, e3, by simp, by omega, nn, s3.seq hS2, Tabs.same tabs2 s3⟩
      | nil =>
        refine eqD_sameE (d := .list (([] : List Int).map PyData.int)) (.lst (SqL.of e3) .nil) (.lst (SqL.of f3) .nil) rfl ⟨true, rfl, itT rfl ?_⟩
        refine ⟨by show 3 ≤ sizeLine; decide, fun y hy => ?_⟩
        have sy := same_new hy (o := .lst [V.int 3, .int 1, .int 2])
        exact ⟨y, [3, 1, 2], rfl, upd_same, by decide, by decide, by decide, sy.seq (s3.seq hS2), Tabs.same (Tabs.same tabs2 s3) sy⟩
    clear hS2 tabs2 s02 ll nn e2 s2 f1 s1 hq hL ec
    clear nu L q H1 H2
    rintro σ' H2 ⟨p, nu, rfl, hp, n1, n63, nn, hS2, tabs2⟩
    obtain ⟨J, hJ, j1, j8⟩ : ∃ J : Int, (if (if ((ns.map V.int).length : Int) < 8 then ((ns.map V.int).length : Int) else 8) > 1 then (if ((ns.map V.int).length : Int) < 8 then ((ns.map V.int).length : Int) else 8) else 1) = J ∧ 1 ≤ J ∧ J ≤ 8 := ⟨_, rfl, cells_bound (n := (ns.map V.int).length) (m := 8) (by decide)⟩
    refine ⟨_, rfl, _, _, rfl, .inl hS2, _, _, rfl, _, _, rfl, J, congrArg (fun i => [V.int i]) hJ, by omega, by omega, for_range (lo := 0) (n := J.toNat) (fun i σ H' => ∃ x2, σ = [some (.ref a), some (.ref p), x2, none] ∧ ExtN H2 H' ∧ Tabs [(PT, (("_law_plan.<locals>.<lambda>" : String) : Str))] H') ⟨_, rfl, ExtN.refl H2, tabs2⟩ ?_ ?_⟩
    · rintro i σ H3 hi ⟨x2, rfl, s3, t3⟩
      refine ⟨_, rfl, _, rfl, a, ns, _, rfl, seqN s3 hS2, hn, by omega, by omega, fun l H4 hl s4 D4 => ?_⟩
      have hp3 := s3 _ _ hp (by simp)
      refine ⟨_, rfl, l, p, nu, 2 ^ 60 - 2000, rfl, Tabs.same t3 s4, ne_of_none hp3 hl, SqL.of (s4 _ _ hp3), n1, n63, nn, D4.le (by omega), fun H5 u5 t5 D5 => ⟨true, rfl, itF rfl ?_⟩⟩
      exact ⟨_, rfl, fun b o e n => u5 b o (s4 _ _ (s3 b o e n)) n (ne_of_none (s3 b o e n) hl), t5⟩
    · rintro σ H3 ⟨x2, rfl, s3, t3⟩
      exact k _
end
theorem all_mk {l : PySem.W.OpenLaw} {w : World} {K : PySem.W.Frag} {h : Heap} {mg : Str → Option Value} {fa : Addr} {C CU : Addr} (X : K.In h) (G0 : h.Ns mainGlobals mg) (hfa : mg "law" = some (.ref fa))
    {f0 f1 f2 f3 f4 f5 f6 f7 f8 f9 f10 f11 f12 f13 f14 f15 f16 f17 f18 f19 f20 f21 f22 f23 f24 f25 f26 f27 f28 f29 f30 f31 f32 f33 f34 f35 f36 f37 f38 f39 f40 f41 f42 f43 f44 f45 f46 : Addr}
    {od0 an0 : Option Addr} {sl0 : Array (Option Value)} {oc0 kV0 dc0 pm0 cd0 ct0 : Value}
    {od1 an1 : Option Addr} {sl1 : Array (Option Value)} {oc1 kV1 dc1 pm1 cd1 ct1 : Value}
    {od2 an2 : Option Addr} {sl2 : Array (Option Value)} {oc2 kV2 dc2 pm2 cd2 ct2 : Value}
    {od3 an3 : Option Addr} {sl3 : Array (Option Value)} {oc3 kV3 dc3 pm3 cd3 ct3 : Value}
    {od4 an4 : Option Addr} {sl4 : Array (Option Value)} {oc4 kV4 dc4 pm4 cd4 ct4 : Value}
    {od5 an5 : Option Addr} {sl5 : Array (Option Value)} {oc5 kV5 dc5 pm5 cd5 ct5 : Value}
    {od6 an6 : Option Addr} {sl6 : Array (Option Value)} {oc6 kV6 dc6 pm6 cd6 ct6 : Value}
    {od7 an7 : Option Addr} {sl7 : Array (Option Value)} {oc7 kV7 dc7 pm7 cd7 ct7 : Value}
    {od8 an8 : Option Addr} {sl8 : Array (Option Value)} {oc8 kV8 dc8 pm8 cd8 ct8 : Value}
    {od9 an9 : Option Addr} {sl9 : Array (Option Value)} {oc9 kV9 dc9 pm9 cd9 ct9 : Value}
    {od10 an10 : Option Addr} {sl10 : Array (Option Value)} {oc10 kV10 dc10 pm10 cd10 ct10 : Value}
    {od11 an11 : Option Addr} {sl11 : Array (Option Value)} {oc11 kV11 dc11 pm11 cd11 ct11 : Value}
    {od12 an12 : Option Addr} {sl12 : Array (Option Value)} {oc12 kV12 dc12 pm12 cd12 ct12 : Value}
    {od13 an13 : Option Addr} {sl13 : Array (Option Value)} {oc13 kV13 dc13 pm13 cd13 ct13 : Value}
    {od14 an14 : Option Addr} {sl14 : Array (Option Value)} {oc14 kV14 dc14 pm14 cd14 ct14 : Value}
    {od15 an15 : Option Addr} {sl15 : Array (Option Value)} {oc15 kV15 dc15 pm15 cd15 ct15 : Value}
    {od16 an16 : Option Addr} {sl16 : Array (Option Value)} {oc16 kV16 dc16 pm16 cd16 ct16 : Value}
    {od17 an17 : Option Addr} {sl17 : Array (Option Value)} {oc17 kV17 dc17 pm17 cd17 ct17 : Value}
    {od18 an18 : Option Addr} {sl18 : Array (Option Value)} {oc18 kV18 dc18 pm18 cd18 ct18 : Value}
    {od19 an19 : Option Addr} {sl19 : Array (Option Value)} {oc19 kV19 dc19 pm19 cd19 ct19 : Value}
    {od20 an20 : Option Addr} {sl20 : Array (Option Value)} {oc20 kV20 dc20 pm20 cd20 ct20 : Value}
    {od21 an21 : Option Addr} {sl21 : Array (Option Value)} {oc21 kV21 dc21 pm21 cd21 ct21 : Value}
    {od22 an22 : Option Addr} {sl22 : Array (Option Value)} {oc22 kV22 dc22 pm22 cd22 ct22 : Value}
    {od23 an23 : Option Addr} {sl23 : Array (Option Value)} {oc23 kV23 dc23 pm23 cd23 ct23 : Value}
    {od24 an24 : Option Addr} {sl24 : Array (Option Value)} {oc24 kV24 dc24 pm24 cd24 ct24 : Value}
    {od25 an25 : Option Addr} {sl25 : Array (Option Value)} {oc25 kV25 dc25 pm25 cd25 ct25 : Value}
    {od26 an26 : Option Addr} {sl26 : Array (Option Value)} {oc26 kV26 dc26 pm26 cd26 ct26 : Value}
    {od27 an27 : Option Addr} {sl27 : Array (Option Value)} {oc27 kV27 dc27 pm27 cd27 ct27 : Value}
    {od28 an28 : Option Addr} {sl28 : Array (Option Value)} {oc28 kV28 dc28 pm28 cd28 ct28 : Value}
    {od29 an29 : Option Addr} {sl29 : Array (Option Value)} {oc29 kV29 dc29 pm29 cd29 ct29 : Value}
    {od30 an30 : Option Addr} {sl30 : Array (Option Value)} {oc30 kV30 dc30 pm30 cd30 ct30 : Value}
    {od31 an31 : Option Addr} {sl31 : Array (Option Value)} {oc31 kV31 dc31 pm31 cd31 ct31 : Value}
    {od32 an32 : Option Addr} {sl32 : Array (Option Value)} {oc32 kV32 dc32 pm32 cd32 ct32 : Value}
    {od33 an33 : Option Addr} {sl33 : Array (Option Value)} {oc33 kV33 dc33 pm33 cd33 ct33 : Value}
    {od34 an34 : Option Addr} {sl34 : Array (Option Value)} {oc34 kV34 dc34 pm34 cd34 ct34 : Value}
    {od35 an35 : Option Addr} {sl35 : Array (Option Value)} {oc35 kV35 dc35 pm35 cd35 ct35 : Value}
    {od36 an36 : Option Addr} {sl36 : Array (Option Value)} {oc36 kV36 dc36 pm36 cd36 ct36 : Value}
    {od37 an37 : Option Addr} {sl37 : Array (Option Value)} {oc37 kV37 dc37 pm37 cd37 ct37 : Value}
    {od38 an38 : Option Addr} {sl38 : Array (Option Value)} {oc38 kV38 dc38 pm38 cd38 ct38 : Value}
    {od39 an39 : Option Addr} {sl39 : Array (Option Value)} {oc39 kV39 dc39 pm39 cd39 ct39 : Value}
    {od40 an40 : Option Addr} {sl40 : Array (Option Value)} {oc40 kV40 dc40 pm40 cd40 ct40 : Value}
    {od41 an41 : Option Addr} {sl41 : Array (Option Value)} {oc41 kV41 dc41 pm41 cd41 ct41 : Value}
    {od42 an42 : Option Addr} {sl42 : Array (Option Value)} {oc42 kV42 dc42 pm42 cd42 ct42 : Value}
    {od43 an43 : Option Addr} {sl43 : Array (Option Value)} {oc43 kV43 dc43 pm43 cd43 ct43 : Value}
    {od44 an44 : Option Addr} {sl44 : Array (Option Value)} {oc44 kV44 dc44 pm44 cd44 ct44 : Value}
    {od45 an45 : Option Addr} {sl45 : Array (Option Value)} {oc45 kV45 dc45 pm45 cd45 ct45 : Value}
    {od46 an46 : Option Addr} {sl46 : Array (Option Value)} {oc46 kV46 dc46 pm46 cd46 ct46 : Value}
    (aC : PySem.W.nsIn K mainGlobals "Book" = some (some (.ref C))) (pg : PySem.W.plainGet K C Str.empty = true) (hd : PySem.W.hasDictIn K C = true) (po : PySem.W.plainOver K C = true) (sa : PySem.W.findIn K (.ref C) "__setattr__" = some (some (.builtin "object.__setattr__"))) (mk : PySem.W.makesIn K C = true) (kc : PySem.W.keepIn K (.ref C) = true)
    (iha : PySem.W.findIn K (.ref C) "__class__" = some (some (.builtin "object.__class__"))) (ihn : PySem.W.specialIn K (.builtin "object.__class__") "__get__" = some (some (.builtin "getset_descriptor.__get__"))) (iht : PySem.W.takesIn K (.builtin "object.__class__") = some true) (ihm : PySem.W.mroIn K C (.type "object") = some true)
    (n_own_prices : PySem.W.findIn K (.ref C) "own_prices" = some none)
    (n_own_pieces : PySem.W.findIn K (.ref C) "own_pieces" = some none)
    (n_own_alphabet : PySem.W.findIn K (.ref C) "own_alphabet" = some none)
    (n_own_longest : PySem.W.findIn K (.ref C) "own_longest" = some none)
    (n_own_dearest : PySem.W.findIn K (.ref C) "own_dearest" = some none)
    (aCU : PySem.W.nsIn K mainGlobals "Cutter" = some (some (.ref CU))) (pgCU : PySem.W.plainGet K CU Str.empty = true) (hdCU : PySem.W.hasDictIn K CU = true) (poCU : PySem.W.plainOver K CU = true) (saCU : PySem.W.findIn K (.ref CU) "__setattr__" = some (some (.builtin "object.__setattr__"))) (mkCU : PySem.W.makesIn K CU = true) (kcCU : PySem.W.keepIn K (.ref CU) = true)
    (ihaCU : PySem.W.findIn K (.ref CU) "__class__" = some (some (.builtin "object.__class__"))) (ihmCU : PySem.W.mroIn K CU (.type "object") = some true)
    (nCU_own_book : PySem.W.findIn K (.ref CU) "own_book" = some none)
    (nCU_own_order : PySem.W.findIn K (.ref CU) "own_order" = some none)
    (nCU_own_view : PySem.W.findIn K (.ref CU) "own_view" = some none)
    (nCU_own_table : PySem.W.findIn K (.ref CU) "own_table" = some none)
    (nCU_own_ends : PySem.W.findIn K (.ref CU) "own_ends" = some none)
    (nCU_own_sizes : PySem.W.findIn K (.ref CU) "own_sizes" = some none)
    (a0 : PySem.W.nsIn K mainGlobals "is_integer" = some (some (.ref f0)))
    (l0 : K.lookup f0 = some ⟨oc0, od0, .func (PySem.W.fnOf "is_integer" "is_integer" (defArgs s_is_integer) (defBody s_is_integer) (defScope s_is_integer) .none kV0 dc0 pm0 an0 cd0 ct0), sl0⟩) (c0 : PySem.W.codeIn K cd0 "is_integer" = true) (k0 : PySem.W.keepIn K (.ref f0) = true)
    (a1 : PySem.W.nsIn K mainGlobals "is_word" = some (some (.ref f1)))
    (l1 : K.lookup f1 = some ⟨oc1, od1, .func (PySem.W.fnOf "is_word" "is_word" (defArgs s_is_word) (defBody s_is_word) (defScope s_is_word) .none kV1 dc1 pm1 an1 cd1 ct1), sl1⟩) (c1 : PySem.W.codeIn K cd1 "is_word" = true) (k1 : PySem.W.keepIn K (.ref f1) = true)
    (a2 : PySem.W.nsIn K mainGlobals "is_text" = some (some (.ref f2)))
    (l2 : K.lookup f2 = some ⟨oc2, od2, .func (PySem.W.fnOf "is_text" "is_text" (defArgs s_is_text) (defBody s_is_text) (defScope s_is_text) .none kV2 dc2 pm2 an2 cd2 ct2), sl2⟩) (c2 : PySem.W.codeIn K cd2 "is_text" = true) (k2 : PySem.W.keepIn K (.ref f2) = true)
    (a3 : PySem.W.nsIn K mainGlobals "is_piece" = some (some (.ref f3)))
    (l3 : K.lookup f3 = some ⟨oc3, od3, .func (PySem.W.fnOf "is_piece" "is_piece" (defArgs s_is_piece) (defBody s_is_piece) (defScope s_is_piece) .none kV3 dc3 pm3 an3 cd3 ct3), sl3⟩) (c3 : PySem.W.codeIn K cd3 "is_piece" = true) (k3 : PySem.W.keepIn K (.ref f3) = true)
    (a4 : PySem.W.nsIn K mainGlobals "is_integer_within" = some (some (.ref f4)))
    (l4 : K.lookup f4 = some ⟨oc4, od4, .func (PySem.W.fnOf "is_integer_within" "is_integer_within" (defArgs s_is_integer_within) (defBody s_is_integer_within) (defScope s_is_integer_within) .none kV4 dc4 pm4 an4 cd4 ct4), sl4⟩) (c4 : PySem.W.codeIn K cd4 "is_integer_within" = true) (k4 : PySem.W.keepIn K (.ref f4) = true)
    (a5 : PySem.W.nsIn K mainGlobals "is_price" = some (some (.ref f5)))
    (l5 : K.lookup f5 = some ⟨oc5, od5, .func (PySem.W.fnOf "is_price" "is_price" (defArgs s_is_price) (defBody s_is_price) (defScope s_is_price) .none kV5 dc5 pm5 an5 cd5 ct5), sl5⟩) (c5 : PySem.W.codeIn K cd5 "is_price" = true) (k5 : PySem.W.keepIn K (.ref f5) = true)
    (a6 : PySem.W.nsIn K mainGlobals "are_prices" = some (some (.ref f6)))
    (l6 : K.lookup f6 = some ⟨oc6, od6, .func (PySem.W.fnOf "are_prices" "are_prices" (defArgs s_are_prices) (defBody s_are_prices) (defScope s_are_prices) .none kV6 dc6 pm6 an6 cd6 ct6), sl6⟩) (c6 : PySem.W.codeIn K cd6 "are_prices" = true) (k6 : PySem.W.keepIn K (.ref f6) = true)
    (a7 : PySem.W.findIn K (.ref C) "__init__" = some (some (.ref f7))) (i7 : PySem.W.isFn K (.ref f7) = true)
    (l7 : K.lookup f7 = some ⟨oc7, od7, .func (PySem.W.fnOf "__init__" "Book.__init__" (defArgs s_Book___init__) (defBody s_Book___init__) (defScope s_Book___init__) .none kV7 dc7 pm7 an7 cd7 ct7), sl7⟩) (c7 : PySem.W.codeIn K cd7 "Book.__init__" = true) (k7 : PySem.W.keepIn K (.ref f7) = true)
    (a8 : PySem.W.nsIn K mainGlobals "require_book" = some (some (.ref f8)))
    (l8 : K.lookup f8 = some ⟨oc8, od8, .func (PySem.W.fnOf "require_book" "require_book" (defArgs s_require_book) (defBody s_require_book) (defScope s_require_book) .none kV8 dc8 pm8 an8 cd8 ct8), sl8⟩) (c8 : PySem.W.codeIn K cd8 "require_book" = true) (k8 : PySem.W.keepIn K (.ref f8) = true)
    (a9 : PySem.W.nsIn K mainGlobals "is_text_over" = some (some (.ref f9)))
    (l9 : K.lookup f9 = some ⟨oc9, od9, .func (PySem.W.fnOf "is_text_over" "is_text_over" (defArgs s_is_text_over) (defBody s_is_text_over) (defScope s_is_text_over) .none kV9 dc9 pm9 an9 cd9 ct9), sl9⟩) (c9 : PySem.W.codeIn K cd9 "is_text_over" = true) (k9 : PySem.W.keepIn K (.ref f9) = true)
    (a10 : PySem.W.nsIn K mainGlobals "require_text" = some (some (.ref f10)))
    (l10 : K.lookup f10 = some ⟨oc10, od10, .func (PySem.W.fnOf "require_text" "require_text" (defArgs s_require_text) (defBody s_require_text) (defScope s_require_text) .none kV10 dc10 pm10 an10 cd10 ct10), sl10⟩) (c10 : PySem.W.codeIn K cd10 "require_text" = true) (k10 : PySem.W.keepIn K (.ref f10) = true)
    (a11 : PySem.W.findIn K (.ref C) "accepts" = some (some (.ref f11))) (i11 : PySem.W.isFn K (.ref f11) = true)
    (l11 : K.lookup f11 = some ⟨oc11, od11, .func (PySem.W.fnOf "accepts" "Book.accepts" (defArgs s_Book_accepts) (defBody s_Book_accepts) (defScope s_Book_accepts) .none kV11 dc11 pm11 an11 cd11 ct11), sl11⟩) (c11 : PySem.W.codeIn K cd11 "Book.accepts" = true) (k11 : PySem.W.keepIn K (.ref f11) = true)
    (a12 : PySem.W.nsIn K mainGlobals "is_order" = some (some (.ref f12)))
    (l12 : K.lookup f12 = some ⟨oc12, od12, .func (PySem.W.fnOf "is_order" "is_order" (defArgs s_is_order) (defBody s_is_order) (defScope s_is_order) .none kV12 dc12 pm12 an12 cd12 ct12), sl12⟩) (c12 : PySem.W.codeIn K cd12 "is_order" = true) (k12 : PySem.W.keepIn K (.ref f12) = true)
    (a13 : PySem.W.nsIn K mainGlobals "is_view" = some (some (.ref f13)))
    (l13 : K.lookup f13 = some ⟨oc13, od13, .func (PySem.W.fnOf "is_view" "is_view" (defArgs s_is_view) (defBody s_is_view) (defScope s_is_view) .none kV13 dc13 pm13 an13 cd13 ct13), sl13⟩) (c13 : PySem.W.codeIn K cd13 "is_view" = true) (k13 : PySem.W.keepIn K (.ref f13) = true)
    (a14 : PySem.W.nsIn K mainGlobals "is_table" = some (some (.ref f14)))
    (l14 : K.lookup f14 = some ⟨oc14, od14, .func (PySem.W.fnOf "is_table" "is_table" (defArgs s_is_table) (defBody s_is_table) (defScope s_is_table) .none kV14 dc14 pm14 an14 cd14 ct14), sl14⟩) (c14 : PySem.W.codeIn K cd14 "is_table" = true) (k14 : PySem.W.keepIn K (.ref f14) = true)
    (a15 : PySem.W.findIn K (.ref CU) "__init__" = some (some (.ref f15))) (i15 : PySem.W.isFn K (.ref f15) = true)
    (l15 : K.lookup f15 = some ⟨oc15, od15, .func (PySem.W.fnOf "__init__" "Cutter.__init__" (defArgs s_Cutter___init__) (defBody s_Cutter___init__) (defScope s_Cutter___init__) .none kV15 dc15 pm15 an15 cd15 ct15), sl15⟩) (c15 : PySem.W.codeIn K cd15 "Cutter.__init__" = true) (k15 : PySem.W.keepIn K (.ref f15) = true)
    {D15 : Addr} (kv15 : kV15 = .ref D15)
    (kd15_view : PySem.W.nsIn K D15 "view" = some (some .none))
    (kd15_table : PySem.W.nsIn K D15 "table" = some (some .none))
    (kd15_ends : PySem.W.nsIn K D15 "ends" = some (some .none))
    (a16 : PySem.W.findIn K (.ref CU) "told_by" = some (some (.ref f16))) (i16 : PySem.W.isFn K (.ref f16) = true)
    (l16 : K.lookup f16 = some ⟨oc16, od16, .func (PySem.W.fnOf "told_by" "Cutter.told_by" (defArgs s_Cutter_told_by) (defBody s_Cutter_told_by) (defScope s_Cutter_told_by) .none kV16 dc16 pm16 an16 cd16 ct16), sl16⟩) (c16 : PySem.W.codeIn K cd16 "Cutter.told_by" = true) (k16 : PySem.W.keepIn K (.ref f16) = true)
    (a17 : PySem.W.findIn K (.ref CU) "cut_in" = some (some (.ref f17))) (i17 : PySem.W.isFn K (.ref f17) = true)
    (l17 : K.lookup f17 = some ⟨oc17, od17, .func (PySem.W.fnOf "cut_in" "Cutter.cut_in" (defArgs s_Cutter_cut_in) (defBody s_Cutter_cut_in) (defScope s_Cutter_cut_in) .none kV17 dc17 pm17 an17 cd17 ct17), sl17⟩) (c17 : PySem.W.codeIn K cd17 "Cutter.cut_in" = true) (k17 : PySem.W.keepIn K (.ref f17) = true)
    (a18 : PySem.W.findIn K (.ref CU) "price_in" = some (some (.ref f18))) (i18 : PySem.W.isFn K (.ref f18) = true)
    (l18 : K.lookup f18 = some ⟨oc18, od18, .func (PySem.W.fnOf "price_in" "Cutter.price_in" (defArgs s_Cutter_price_in) (defBody s_Cutter_price_in) (defScope s_Cutter_price_in) .none kV18 dc18 pm18 an18 cd18 ct18), sl18⟩) (c18 : PySem.W.codeIn K cd18 "Cutter.price_in" = true) (k18 : PySem.W.keepIn K (.ref f18) = true)
    (a19 : PySem.W.findIn K (.ref CU) "cut" = some (some (.ref f19))) (i19 : PySem.W.isFn K (.ref f19) = true)
    (l19 : K.lookup f19 = some ⟨oc19, od19, .func (PySem.W.fnOf "cut" "Cutter.cut" (defArgs s_Cutter_cut) (defBody s_Cutter_cut) (defScope s_Cutter_cut) .none kV19 dc19 pm19 an19 cd19 ct19), sl19⟩) (c19 : PySem.W.codeIn K cd19 "Cutter.cut" = true) (k19 : PySem.W.keepIn K (.ref f19) = true)
    (a20 : PySem.W.findIn K (.ref CU) "__call__" = some (some (.ref f20))) (i20 : PySem.W.isFn K (.ref f20) = true)
    (l20 : K.lookup f20 = some ⟨oc20, od20, .func (PySem.W.fnOf "__call__" "Cutter.__call__" (defArgs s_Cutter___call__) (defBody s_Cutter___call__) (defScope s_Cutter___call__) .none kV20 dc20 pm20 an20 cd20 ct20), sl20⟩) (c20 : PySem.W.codeIn K cd20 "Cutter.__call__" = true) (k20 : PySem.W.keepIn K (.ref f20) = true)
    (a21 : PySem.W.findIn K (.ref CU) "price" = some (some (.ref f21))) (i21 : PySem.W.isFn K (.ref f21) = true)
    (l21 : K.lookup f21 = some ⟨oc21, od21, .func (PySem.W.fnOf "price" "Cutter.price" (defArgs s_Cutter_price) (defBody s_Cutter_price) (defScope s_Cutter_price) .none kV21 dc21 pm21 an21 cd21 ct21), sl21⟩) (c21 : PySem.W.codeIn K cd21 "Cutter.price" = true) (k21 : PySem.W.keepIn K (.ref f21) = true)
    (a22 : PySem.W.nsIn K mainGlobals "require_cutter" = some (some (.ref f22)))
    (l22 : K.lookup f22 = some ⟨oc22, od22, .func (PySem.W.fnOf "require_cutter" "require_cutter" (defArgs s_require_cutter) (defBody s_require_cutter) (defScope s_require_cutter) .none kV22 dc22 pm22 an22 cd22 ct22), sl22⟩) (c22 : PySem.W.codeIn K cd22 "require_cutter" = true) (k22 : PySem.W.keepIn K (.ref f22) = true)
    (a23 : PySem.W.nsIn K mainGlobals "boundaries_in" = some (some (.ref f23)))
    (l23 : K.lookup f23 = some ⟨oc23, od23, .func (PySem.W.fnOf "boundaries_in" "boundaries_in" (defArgs s_boundaries_in) (defBody s_boundaries_in) (defScope s_boundaries_in) .none kV23 dc23 pm23 an23 cd23 ct23), sl23⟩) (c23 : PySem.W.codeIn K cd23 "boundaries_in" = true) (k23 : PySem.W.keepIn K (.ref f23) = true)
    (a24 : PySem.W.nsIn K mainGlobals "boundaries" = some (some (.ref f24)))
    (l24 : K.lookup f24 = some ⟨oc24, od24, .func (PySem.W.fnOf "boundaries" "boundaries" (defArgs s_boundaries) (defBody s_boundaries) (defScope s_boundaries) .none kV24 dc24 pm24 an24 cd24 ct24), sl24⟩) (c24 : PySem.W.codeIn K cd24 "boundaries" = true) (k24 : PySem.W.keepIn K (.ref f24) = true)
    (a25 : PySem.W.nsIn K mainGlobals "shared_start" = some (some (.ref f25)))
    (l25 : K.lookup f25 = some ⟨oc25, od25, .func (PySem.W.fnOf "shared_start" "shared_start" (defArgs s_shared_start) (defBody s_shared_start) (defScope s_shared_start) .none kV25 dc25 pm25 an25 cd25 ct25), sl25⟩) (c25 : PySem.W.codeIn K cd25 "shared_start" = true) (k25 : PySem.W.keepIn K (.ref f25) = true)
    (a26 : PySem.W.nsIn K mainGlobals "common_in" = some (some (.ref f26)))
    (l26 : K.lookup f26 = some ⟨oc26, od26, .func (PySem.W.fnOf "common_in" "common_in" (defArgs s_common_in) (defBody s_common_in) (defScope s_common_in) .none kV26 dc26 pm26 an26 cd26 ct26), sl26⟩) (c26 : PySem.W.codeIn K cd26 "common_in" = true) (k26 : PySem.W.keepIn K (.ref f26) = true)
    (a27 : PySem.W.nsIn K mainGlobals "common_boundary" = some (some (.ref f27)))
    (l27 : K.lookup f27 = some ⟨oc27, od27, .func (PySem.W.fnOf "common_boundary" "common_boundary" (defArgs s_common_boundary) (defBody s_common_boundary) (defScope s_common_boundary) .none kV27 dc27 pm27 an27 cd27 ct27), sl27⟩) (c27 : PySem.W.codeIn K cd27 "common_boundary" = true) (k27 : PySem.W.keepIn K (.ref f27) = true)
    (a28 : PySem.W.nsIn K mainGlobals "cuts_compared" = some (some (.ref f28)))
    (l28 : K.lookup f28 = some ⟨oc28, od28, .func (PySem.W.fnOf "cuts_compared" "cuts_compared" (defArgs s_cuts_compared) (defBody s_cuts_compared) (defScope s_cuts_compared) .none kV28 dc28 pm28 an28 cd28 ct28), sl28⟩) (c28 : PySem.W.codeIn K cd28 "cuts_compared" = true) (k28 : PySem.W.keepIn K (.ref f28) = true)
    (a29 : PySem.W.nsIn K mainGlobals "recut" = some (some (.ref f29)))
    (l29 : K.lookup f29 = some ⟨oc29, od29, .func (PySem.W.fnOf "recut" "recut" (defArgs s_recut) (defBody s_recut) (defScope s_recut) .none kV29 dc29 pm29 an29 cd29 ct29), sl29⟩) (c29 : PySem.W.codeIn K cd29 "recut" = true) (k29 : PySem.W.keepIn K (.ref f29) = true)
    (a30 : PySem.W.nsIn K mainGlobals "_law_reel" = some (some (.ref f30)))
    (l30 : K.lookup f30 = some ⟨oc30, od30, .func (PySem.W.fnOf "_law_reel" "_law_reel" (defArgs s__law_reel) (defBody s__law_reel) (defScope s__law_reel) .none kV30 dc30 pm30 an30 cd30 ct30), sl30⟩) (c30 : PySem.W.codeIn K cd30 "_law_reel" = true) (k30 : PySem.W.keepIn K (.ref f30) = true)
    (a31 : PySem.W.nsIn K mainGlobals "_law_spin" = some (some (.ref f31)))
    (l31 : K.lookup f31 = some ⟨oc31, od31, .func (PySem.W.fnOf "_law_spin" "_law_spin" (defArgs s__law_spin) (defBody s__law_spin) (defScope s__law_spin) .none kV31 dc31 pm31 an31 cd31 ct31), sl31⟩) (c31 : PySem.W.codeIn K cd31 "_law_spin" = true) (k31 : PySem.W.keepIn K (.ref f31) = true)
    (a32 : PySem.W.nsIn K mainGlobals "_law_pick" = some (some (.ref f32)))
    (l32 : K.lookup f32 = some ⟨oc32, od32, .func (PySem.W.fnOf "_law_pick" "_law_pick" (defArgs s__law_pick) (defBody s__law_pick) (defScope s__law_pick) .none kV32 dc32 pm32 an32 cd32 ct32), sl32⟩) (c32 : PySem.W.codeIn K cd32 "_law_pick" = true) (k32 : PySem.W.keepIn K (.ref f32) = true)
    (a33 : PySem.W.nsIn K mainGlobals "_law_some" = some (some (.ref f33)))
    (l33 : K.lookup f33 = some ⟨oc33, od33, .func (PySem.W.fnOf "_law_some" "_law_some" (defArgs s__law_some) (defBody s__law_some) (defScope s__law_some) .none kV33 dc33 pm33 an33 cd33 ct33), sl33⟩) (c33 : PySem.W.codeIn K cd33 "_law_some" = true) (k33 : PySem.W.keepIn K (.ref f33) = true)
    (a34 : PySem.W.nsIn K mainGlobals "_law_text" = some (some (.ref f34)))
    (l34 : K.lookup f34 = some ⟨oc34, od34, .func (PySem.W.fnOf "_law_text" "_law_text" (defArgs s__law_text) (defBody s__law_text) (defScope s__law_text) .none kV34 dc34 pm34 an34 cd34 ct34), sl34⟩) (c34 : PySem.W.codeIn K cd34 "_law_text" = true) (k34 : PySem.W.keepIn K (.ref f34) = true)
    (a35 : PySem.W.nsIn K mainGlobals "_law_signs" = some (some (.ref f35)))
    (l35 : K.lookup f35 = some ⟨oc35, od35, .func (PySem.W.fnOf "_law_signs" "_law_signs" (defArgs s__law_signs) (defBody s__law_signs) (defScope s__law_signs) .none kV35 dc35 pm35 an35 cd35 ct35), sl35⟩) (c35 : PySem.W.codeIn K cd35 "_law_signs" = true) (k35 : PySem.W.keepIn K (.ref f35) = true)
    (a36 : PySem.W.nsIn K mainGlobals "_law_prices" = some (some (.ref f36)))
    (l36 : K.lookup f36 = some ⟨oc36, od36, .func (PySem.W.fnOf "_law_prices" "_law_prices" (defArgs s__law_prices) (defBody s__law_prices) (defScope s__law_prices) .none kV36 dc36 pm36 an36 cd36 ct36), sl36⟩) (c36 : PySem.W.codeIn K cd36 "_law_prices" = true) (k36 : PySem.W.keepIn K (.ref f36) = true)
    (a37 : PySem.W.nsIn K mainGlobals "_law_plan" = some (some (.ref f37)))
    (l37 : K.lookup f37 = some ⟨oc37, od37, .func (PySem.W.fnOf "_law_plan" "_law_plan" (defArgs s__law_plan) (defBody s__law_plan) (defScope s__law_plan) .none kV37 dc37 pm37 an37 cd37 ct37), sl37⟩) (c37 : PySem.W.codeIn K cd37 "_law_plan" = true) (k37 : PySem.W.keepIn K (.ref f37) = true)
    (a38 : PySem.W.nsIn K mainGlobals "_law_cutter" = some (some (.ref f38)))
    (l38 : K.lookup f38 = some ⟨oc38, od38, .func (PySem.W.fnOf "_law_cutter" "_law_cutter" (defArgs s__law_cutter) (defBody s__law_cutter) (defScope s__law_cutter) .none kV38 dc38 pm38 an38 cd38 ct38), sl38⟩) (c38 : PySem.W.codeIn K cd38 "_law_cutter" = true) (k38 : PySem.W.keepIn K (.ref f38) = true)
    (a39 : PySem.W.nsIn K mainGlobals "_law_alphabet" = some (some (.ref f39)))
    (l39 : K.lookup f39 = some ⟨oc39, od39, .func (PySem.W.fnOf "_law_alphabet" "_law_alphabet" (defArgs s__law_alphabet) (defBody s__law_alphabet) (defScope s__law_alphabet) .none kV39 dc39 pm39 an39 cd39 ct39), sl39⟩) (c39 : PySem.W.codeIn K cd39 "_law_alphabet" = true) (k39 : PySem.W.keepIn K (.ref f39) = true)
    (a40 : PySem.W.nsIn K mainGlobals "_law_edit_plan" = some (some (.ref f40)))
    (l40 : K.lookup f40 = some ⟨oc40, od40, .func (PySem.W.fnOf "_law_edit_plan" "_law_edit_plan" (defArgs s__law_edit_plan) (defBody s__law_edit_plan) (defScope s__law_edit_plan) .none kV40 dc40 pm40 an40 cd40 ct40), sl40⟩) (c40 : PySem.W.codeIn K cd40 "_law_edit_plan" = true) (k40 : PySem.W.keepIn K (.ref f40) = true)
    (a41 : PySem.W.nsIn K mainGlobals "_law_ends_right" = some (some (.ref f41)))
    (l41 : K.lookup f41 = some ⟨oc41, od41, .func (PySem.W.fnOf "_law_ends_right" "_law_ends_right" (defArgs s__law_ends_right) (defBody s__law_ends_right) (defScope s__law_ends_right) .none kV41 dc41 pm41 an41 cd41 ct41), sl41⟩) (c41 : PySem.W.codeIn K cd41 "_law_ends_right" = true) (k41 : PySem.W.keepIn K (.ref f41) = true)
    (a42 : PySem.W.nsIn K mainGlobals "_law_front_right" = some (some (.ref f42)))
    (l42 : K.lookup f42 = some ⟨oc42, od42, .func (PySem.W.fnOf "_law_front_right" "_law_front_right" (defArgs s__law_front_right) (defBody s__law_front_right) (defScope s__law_front_right) .none kV42 dc42 pm42 an42 cd42 ct42), sl42⟩) (c42 : PySem.W.codeIn K cd42 "_law_front_right" = true) (k42 : PySem.W.keepIn K (.ref f42) = true)
    (a43 : PySem.W.nsIn K mainGlobals "_law_behind_right" = some (some (.ref f43)))
    (l43 : K.lookup f43 = some ⟨oc43, od43, .func (PySem.W.fnOf "_law_behind_right" "_law_behind_right" (defArgs s__law_behind_right) (defBody s__law_behind_right) (defScope s__law_behind_right) .none kV43 dc43 pm43 an43 cd43 ct43), sl43⟩) (c43 : PySem.W.codeIn K cd43 "_law_behind_right" = true) (k43 : PySem.W.keepIn K (.ref f43) = true)
    (a44 : PySem.W.nsIn K mainGlobals "_law_recut_right" = some (some (.ref f44)))
    (l44 : K.lookup f44 = some ⟨oc44, od44, .func (PySem.W.fnOf "_law_recut_right" "_law_recut_right" (defArgs s__law_recut_right) (defBody s__law_recut_right) (defScope s__law_recut_right) .none kV44 dc44 pm44 an44 cd44 ct44), sl44⟩) (c44 : PySem.W.codeIn K cd44 "_law_recut_right" = true) (k44 : PySem.W.keepIn K (.ref f44) = true)
    (a45 : PySem.W.nsIn K mainGlobals "_law_cell_right" = some (some (.ref f45)))
    (l45 : K.lookup f45 = some ⟨oc45, od45, .func (PySem.W.fnOf "_law_cell_right" "_law_cell_right" (defArgs s__law_cell_right) (defBody s__law_cell_right) (defScope s__law_cell_right) .none kV45 dc45 pm45 an45 cd45 ct45), sl45⟩) (c45 : PySem.W.codeIn K cd45 "_law_cell_right" = true) (k45 : PySem.W.keepIn K (.ref f45) = true)
    (a46 : PySem.W.nsIn K mainGlobals "law" = some (some (.ref f46)))
    (l46 : K.lookup f46 = some ⟨oc46, od46, .func (PySem.W.fnOf "law" "law" (defArgs s_law) (defBody s_law) (defScope s_law) .none kV46 dc46 pm46 an46 cd46 ct46), sl46⟩) (c46 : PySem.W.codeIn K cd46 "law" = true) (k46 : PySem.W.keepIn K (.ref f46) = true)
    (z_abs : PySem.W.nsIn K mainGlobals "abs" = some none)
    (z_all : PySem.W.nsIn K mainGlobals "all" = some none)
    (z_bool : PySem.W.nsIn K mainGlobals "bool" = some none)
    (z_dict : PySem.W.nsIn K mainGlobals "dict" = some none)
    (z_int : PySem.W.nsIn K mainGlobals "int" = some none)
    (z_isinstance : PySem.W.nsIn K mainGlobals "isinstance" = some none)
    (z_len : PySem.W.nsIn K mainGlobals "len" = some none)
    (z_list : PySem.W.nsIn K mainGlobals "list" = some none)
    (z_max : PySem.W.nsIn K mainGlobals "max" = some none)
    (z_min : PySem.W.nsIn K mainGlobals "min" = some none)
    (z_range : PySem.W.nsIn K mainGlobals "range" = some none)
    (z_repr : PySem.W.nsIn K mainGlobals "repr" = some none)
    (z_sorted : PySem.W.nsIn K mainGlobals "sorted" = some none)
    (z_str : PySem.W.nsIn K mainGlobals "str" = some none)
    (z_sum : PySem.W.nsIn K mainGlobals "sum" = some none)
    (z_tuple : PySem.W.nsIn K mainGlobals "tuple" = some none)
    (z_zip : PySem.W.nsIn K mainGlobals "zip" = some none)
    {t_MAX_ALPHABET : Tok} (y_MAX_ALPHABET : PySem.W.nsIn K mainGlobals "MAX_ALPHABET" = some (some (.int 4 t_MAX_ALPHABET)))
    {t_MAX_PIECES : Tok} (y_MAX_PIECES : PySem.W.nsIn K mainGlobals "MAX_PIECES" = some (some (.int 12 t_MAX_PIECES)))
    {t_MAX_PRICE : Tok} (y_MAX_PRICE : PySem.W.nsIn K mainGlobals "MAX_PRICE" = some (some (.int 99 t_MAX_PRICE)))
    {t_MAX_SIGNS : Tok} (y_MAX_SIGNS : PySem.W.nsIn K mainGlobals "MAX_SIGNS" = some (some (.int 8000 t_MAX_SIGNS)))
    {t_MAX_VIEW : Tok} (y_MAX_VIEW : PySem.W.nsIn K mainGlobals "MAX_VIEW" = some (some (.int 2000 t_MAX_VIEW)))
    {t_MAX_WINDOWS : Tok} (y_MAX_WINDOWS : PySem.W.nsIn K mainGlobals "MAX_WINDOWS" = some (some (.int 2000 t_MAX_WINDOWS)))
    {t_PIECE_SIGNS : Tok} (y_PIECE_SIGNS : PySem.W.nsIn K mainGlobals "PIECE_SIGNS" = some (some (.int 5 t_PIECE_SIGNS)))
    {t_TEXT_SIGNS : Tok} (y_TEXT_SIGNS : PySem.W.nsIn K mainGlobals "TEXT_SIGNS" = some (some (.int 8000 t_TEXT_SIGNS)))
    {cT pT : Addr} {ocT : Value} {odT : Option Addr} {vsT : Array Value} {slT : Array (Option Value)} (hcT : cd37 = .ref cT) (lcT : K.lookup cT = some ⟨ocT, odT, .fields vsT, slT⟩) (pvT : (vsT[11]? : Option Value) = some (.ref pT)) (npT : K.lookup pT = none) (tbT : h.get? pT = some { cls := .none, data := .fields #[] }) (cdT : PySem.W.codeHdIn K cT pT = true)
    : LawT l.prog w K 10 63 "script" mg fa h := by
  have e := hfa.symm.trans (PySem.W.mg_of X G0 a46)
  cases e
  have T : Txt K mg C CU := ⟨⟨pg, hd, po, sa⟩, ⟨⟨pg, hd, po, sa⟩, iha, ihn, iht, ihm, if_pos (beq_self_eq_true _)⟩, n_own_prices, n_own_pieces, n_own_alphabet, n_own_longest, n_own_dearest, PySem.W.mg_of X G0 aC, ⟨pgCU, hdCU, poCU, saCU⟩, nCU_own_book, nCU_own_order, nCU_own_view, nCU_own_table, nCU_own_ends, nCU_own_sizes, PySem.W.mg_of X G0 aCU, ⟨⟨pgCU, hdCU, poCU, saCU⟩, ihaCU, ihn, iht, ihmCU, if_pos (beq_self_eq_true _)⟩, PySem.W.mg_none_of X G0 z_abs, PySem.W.mg_none_of X G0 z_all, PySem.W.mg_none_of X G0 z_bool, PySem.W.mg_none_of X G0 z_dict, PySem.W.mg_none_of X G0 z_int, PySem.W.mg_none_of X G0 z_isinstance, PySem.W.mg_none_of X G0 z_len, PySem.W.mg_none_of X G0 z_list, PySem.W.mg_none_of X G0 z_max, PySem.W.mg_none_of X G0 z_min, PySem.W.mg_none_of X G0 z_range, PySem.W.mg_none_of X G0 z_repr, PySem.W.mg_none_of X G0 z_sorted, PySem.W.mg_none_of X G0 z_str, PySem.W.mg_none_of X G0 z_sum, PySem.W.mg_none_of X G0 z_tuple, PySem.W.mg_none_of X G0 z_zip, ⟨_, PySem.W.mg_of X G0 y_MAX_ALPHABET⟩, ⟨_, PySem.W.mg_of X G0 y_MAX_PIECES⟩, ⟨_, PySem.W.mg_of X G0 y_MAX_PRICE⟩, ⟨_, PySem.W.mg_of X G0 y_MAX_SIGNS⟩, ⟨_, PySem.W.mg_of X G0 y_MAX_VIEW⟩, ⟨_, PySem.W.mg_of X G0 y_MAX_WINDOWS⟩, ⟨_, PySem.W.mg_of X G0 y_PIECE_SIGNS⟩, ⟨_, PySem.W.mg_of X G0 y_TEXT_SIGNS⟩⟩
  have F0 := fun_mk (st := s_is_integer) l0 c0 k0
  have b0 := F0.binds (ps := ["value"]) fun _ _ _ _ _ _ us hl => match us, hl with | [_], _ => rfl
  have F1 := fun_mk (st := s_is_word) l1 c1 k1
  have b1 := F1.binds (ps := ["value"]) fun _ _ _ _ _ _ us hl => match us, hl with | [_], _ => rfl
  have F2 := fun_mk (st := s_is_text) l2 c2 k2
  have b2 := F2.binds (ps := ["value"]) fun _ _ _ _ _ _ us hl => match us, hl with | [_], _ => rfl
  have F3 := fun_mk (st := s_is_piece) l3 c3 k3
  have b3 := F3.binds (ps := ["value"]) fun _ _ _ _ _ _ us hl => match us, hl with | [_], _ => rfl
  have F4 := fun_mk (st := s_is_integer_within) l4 c4 k4
  have b4 := F4.binds (ps := ["value", "least", "most"]) fun _ _ _ _ _ _ us hl => match us, hl with | [_, _, _], _ => rfl
  have F5 := fun_mk (st := s_is_price) l5 c5 k5
  have b5 := F5.binds (ps := ["value"]) fun _ _ _ _ _ _ us hl => match us, hl with | [_], _ => rfl
  have F6 := fun_mk (st := s_are_prices) l6 c6 k6
  have b6 := F6.binds (ps := ["value"]) fun _ _ _ _ _ _ us hl => match us, hl with | [_], _ => rfl
  have F7 := fun_mk (st := s_Book___init__) l7 c7 k7
  have b7 := F7.binds (ps := ["self", "prices"]) fun _ _ _ _ _ _ us hl => match us, hl with | [_, _], _ => rfl
  have F8 := fun_mk (st := s_require_book) l8 c8 k8
  have b8 := F8.binds (ps := ["value"]) fun _ _ _ _ _ _ us hl => match us, hl with | [_], _ => rfl
  have F9 := fun_mk (st := s_is_text_over) l9 c9 k9
  have b9 := F9.binds (ps := ["book", "value"]) fun _ _ _ _ _ _ us hl => match us, hl with | [_, _], _ => rfl
  have F10 := fun_mk (st := s_require_text) l10 c10 k10
  have b10 := F10.binds (ps := ["book", "value"]) fun _ _ _ _ _ _ us hl => match us, hl with | [_, _], _ => rfl
  have F11 := fun_mk (st := s_Book_accepts) l11 c11 k11
  have b11 := F11.binds (ps := ["self", "value"]) fun _ _ _ _ _ _ us hl => match us, hl with | [_, _], _ => rfl
  have F12 := fun_mk (st := s_is_order) l12 c12 k12
  have b12 := F12.binds (ps := ["book", "value"]) fun _ _ _ _ _ _ us hl => match us, hl with | [_, _], _ => rfl
  have F13 := fun_mk (st := s_is_view) l13 c13 k13
  have b13 := F13.binds (ps := ["value"]) fun _ _ _ _ _ _ us hl => match us, hl with | [_], _ => rfl
  have F14 := fun_mk (st := s_is_table) l14 c14 k14
  have b14 := F14.binds (ps := ["book", "value", "most"]) fun _ _ _ _ _ _ us hl => match us, hl with | [_, _, _], _ => rfl
  have F15 := fun_mk (st := s_Cutter___init__) l15 c15 k15
  have K15 : KwdV K kV15 [(("view" : Str), V.non), (("table" : Str), V.non), (("ends" : Str), V.non)] := kwd_of kv15 (kwd_cons kd15_view rfl (kwd_cons kd15_table rfl (kwd_cons kd15_ends rfl kwd_nil)))
  have bk15 := (Fun.toD F15 K15).kbinds0 (ps := ["self", "book", "order", "view", "table", "ends"]) 3 ["view", "table", "ends"] [] (fun us _ ws => us ++ ws) (by simp) (fun q h => (List.not_mem_nil h).elim) (fun r1 _ r3 => vals_app r1 r3) (fun D _ _ _ _ _ us mv ws h1 h2 h3 => match us, mv, ws, h1, h2, h3 with | [_, _, _], [], [_, _, _], _, _, _ => rfl)
  have F16 := fun_mk (st := s_Cutter_told_by) l16 c16 k16
  have b16 := F16.binds (ps := ["self", "window", "is_ended"]) fun _ _ _ _ _ _ us hl => match us, hl with | [_, _, _], _ => rfl
  have F17 := fun_mk (st := s_Cutter_cut_in) l17 c17 k17
  have b17 := F17.binds (ps := ["self", "text"]) fun _ _ _ _ _ _ us hl => match us, hl with | [_, _], _ => rfl
  have F18 := fun_mk (st := s_Cutter_price_in) l18 c18 k18
  have b18 := F18.binds (ps := ["self", "text"]) fun _ _ _ _ _ _ us hl => match us, hl with | [_, _], _ => rfl
  have F19 := fun_mk (st := s_Cutter_cut) l19 c19 k19
  have b19 := F19.binds (ps := ["self", "text"]) fun _ _ _ _ _ _ us hl => match us, hl with | [_, _], _ => rfl
  have F20 := fun_mk (st := s_Cutter___call__) l20 c20 k20
  have b20 := F20.binds (ps := ["self", "text"]) fun _ _ _ _ _ _ us hl => match us, hl with | [_, _], _ => rfl
  have F21 := fun_mk (st := s_Cutter_price) l21 c21 k21
  have b21 := F21.binds (ps := ["self", "text"]) fun _ _ _ _ _ _ us hl => match us, hl with | [_, _], _ => rfl
  have F22 := fun_mk (st := s_require_cutter) l22 c22 k22
  have b22 := F22.binds (ps := ["value"]) fun _ _ _ _ _ _ us hl => match us, hl with | [_], _ => rfl
  have F23 := fun_mk (st := s_boundaries_in) l23 c23 k23
  have b23 := F23.binds (ps := ["cutter", "text"]) fun _ _ _ _ _ _ us hl => match us, hl with | [_, _], _ => rfl
  have F24 := fun_mk (st := s_boundaries) l24 c24 k24
  have b24 := F24.binds (ps := ["cutter", "text"]) fun _ _ _ _ _ _ us hl => match us, hl with | [_, _], _ => rfl
  have F25 := fun_mk (st := s_shared_start) l25 c25 k25
  have b25 := F25.binds (ps := ["one", "other"]) fun _ _ _ _ _ _ us hl => match us, hl with | [_, _], _ => rfl
  have F26 := fun_mk (st := s_common_in) l26 c26 k26
  have b26 := F26.binds (ps := ["cutter", "old", "new", "rest"]) fun _ _ _ _ _ _ us hl => match us, hl with | [_, _, _, _], _ => rfl
  have F27 := fun_mk (st := s_common_boundary) l27 c27 k27
  have b27 := F27.binds (ps := ["cutter", "old", "new", "rest"]) fun _ _ _ _ _ _ us hl => match us, hl with | [_, _, _, _], _ => rfl
  have F28 := fun_mk (st := s_cuts_compared) l28 c28 k28
  have b28 := F28.binds (ps := ["cutter", "old", "new"]) fun _ _ _ _ _ _ us hl => match us, hl with | [_, _, _], _ => rfl
  have F29 := fun_mk (st := s_recut) l29 c29 k29
  have b29 := F29.binds (ps := ["cutter", "text", "start", "stop", "signs"]) fun _ _ _ _ _ _ us hl => match us, hl with | [_, _, _, _, _], _ => rfl
  have F30 := fun_mk (st := s__law_reel) l30 c30 k30
  have b30 := F30.binds (ps := ["script", "spot"]) fun _ _ _ _ _ _ us hl => match us, hl with | [_, _], _ => rfl
  have F31 := fun_mk (st := s__law_spin) l31 c31 k31
  have b31 := F31.binds (ps := ["reel", "total"]) fun _ _ _ _ _ _ us hl => match us, hl with | [_, _], _ => rfl
  have F32 := fun_mk (st := s__law_pick) l32 c32 k32
  have b32 := F32.binds (ps := ["reel", "items"]) fun _ _ _ _ _ _ us hl => match us, hl with | [_, _], _ => rfl
  have F33 := fun_mk (st := s__law_some) l33 c33 k33
  have b33 := F33.binds (ps := ["reel", "items", "lots"]) fun _ _ _ _ _ _ us hl => match us, hl with | [_, _, _], _ => rfl
  have F34 := fun_mk (st := s__law_text) l34 c34 k34
  have b34 := F34.binds (ps := ["reel", "signs", "lots"]) fun _ _ _ _ _ _ us hl => match us, hl with | [_, _, _], _ => rfl
  have F35 := fun_mk (st := s__law_signs) l35 c35 k35
  have b35 := F35.binds (ps := ["reel", "lots"]) fun _ _ _ _ _ _ us hl => match us, hl with | [_, _], _ => rfl
  have F36 := fun_mk (st := s__law_prices) l36 c36 k36
  have b36 := F36.binds (ps := ["reel", "signs", "lots", "size", "top"]) fun _ _ _ _ _ _ us hl => match us, hl with | [_, _, _, _, _], _ => rfl
  have F37 := fun_mk (st := s__law_plan) l37 c37 k37
  have b37 := F37.binds (ps := ["reel", "prices", "top"]) fun _ _ _ _ _ _ us hl => match us, hl with | [_, _, _], _ => rfl
  have F38 := fun_mk (st := s__law_cutter) l38 c38 k38
  have b38 := F38.binds (ps := ["plan"]) fun _ _ _ _ _ _ us hl => match us, hl with | [_], _ => rfl
  have F39 := fun_mk (st := s__law_alphabet) l39 c39 k39
  have b39 := F39.binds (ps := ["plan"]) fun _ _ _ _ _ _ us hl => match us, hl with | [_], _ => rfl
  have F40 := fun_mk (st := s__law_edit_plan) l40 c40 k40
  have b40 := F40.binds (ps := ["reel", "spans"]) fun _ _ _ _ _ _ us hl => match us, hl with | [_, _], _ => rfl
  have F41 := fun_mk (st := s__law_ends_right) l41 c41 k41
  have b41 := F41.binds (ps := ["cutter", "text"]) fun _ _ _ _ _ _ us hl => match us, hl with | [_, _], _ => rfl
  have F42 := fun_mk (st := s__law_front_right) l42 c42 k42
  have b42 := F42.binds (ps := ["plan", "cutter", "one", "other", "many"]) fun _ _ _ _ _ _ us hl => match us, hl with | [_, _, _, _, _], _ => rfl
  have F43 := fun_mk (st := s__law_behind_right) l43 c43 k43
  have b43 := F43.binds (ps := ["cutter", "old", "new", "rest"]) fun _ _ _ _ _ _ us hl => match us, hl with | [_, _, _, _], _ => rfl
  have F44 := fun_mk (st := s__law_recut_right) l44 c44 k44
  have b44 := F44.binds (ps := ["cutter", "text", "start", "stop", "signs"]) fun _ _ _ _ _ _ us hl => match us, hl with | [_, _, _, _, _], _ => rfl
  have F45 := fun_mk (st := s__law_cell_right) l45 c45 k45
  have b45 := F45.binds (ps := ["reel", "numbers"]) fun _ _ _ _ _ _ us hl => match us, hl with | [_, _], _ => rfl
  have F46 := fun_mk (st := s_law) l46 c46 k46
  have hC := PySem.W.codeHd_of_K X cdT
  refine ⟨⟨PySem.W.fnOf "law" "law" (defArgs s_law) (defBody s_law) (defScope s_law) .none kV46 dc46 pm46 an46 cd46 ct46, [(cT, pT)], spLawT [(pT, (("_law_plan.<locals>.<lambda>" : String) : Str))] K, fun p hp => by rw [List.mem_singleton.mp hp]; exact tbT, fun p hp => by rw [List.mem_singleton.mp hp]; exact npT, fun p hp => by rw [List.mem_singleton.mp hp]; exact hC, fun s v => .of_eq rfl,
    fun H a ns hl hT hS => ⟨a, ns, rfl, fun p hp => by rw [List.mem_singleton.mp hp]; exact LamX.TabS.nil (hT _ List.mem_cons_self), hS, hl, fun _ => rfl⟩, fun base _ _ TB => ?_⟩⟩
  have h_is_integer : HasO l.prog w K mg base CX0 1 "is_integer" ["value"] (spIsI K isInteger) := .mk' F0 (PySem.W.mg_of X G0 a0) b0 (ok_is_integer F0 T)
  have h_is_word : HasO l.prog w K mg base CX0 1 "is_word" ["value"] (spIs K isWord) := .mk' F1 (PySem.W.mg_of X G0 a1) b1 (ok_is_word F1 T)
  have h_is_text : HasO l.prog w K mg base CX0 2 "is_text" ["value"] (spIs K isText) := .mk' F2 (PySem.W.mg_of X G0 a2) b2 (ok_is_text F2 T h_is_word)
  have h_is_piece : HasO l.prog w K mg base CX0 2 "is_piece" ["value"] (spIs K isPiece) := .mk' F3 (PySem.W.mg_of X G0 a3) b3 (ok_is_piece F3 T h_is_word)
  have h_is_integer_within : HasO l.prog w K mg base CX0 2 "is_integer_within" ["value", "least", "most"] (spWithin K) := .mk' F4 (PySem.W.mg_of X G0 a4) b4 (ok_is_integer_within F4 T h_is_integer)
  have h_is_price : HasO l.prog w K mg base CX0 3 "is_price" ["value"] (spIsI K isPrice) := .mk' F5 (PySem.W.mg_of X G0 a5) b5 (ok_is_price F5 T h_is_integer_within)
  have h_are_prices : HasO l.prog w K mg base CX0 4 "are_prices" ["value"] (spArePrices K) := .mk' F6 (PySem.W.mg_of X G0 a6) b6 (ok_are_prices F6 T h_is_piece h_is_price)
  have h_Book : C8.Mak l.prog w K mg base 5 "Book" C (spBook C K) [] := ⟨_, _, ["self", "prices"], [], ⟨mk, a7, i7, kc⟩, ok_Book___init__ F7 T h_are_prices, PySem.W.mg_of X G0 aC, b7, .nil⟩
  have h_require_book : HasO l.prog w K mg base CX0 1 "require_book" ["value"] (spReqBook C) := .mk' F8 (PySem.W.mg_of X G0 a8) b8 (ok_require_book F8 T)
  have h_is_text_over : HasO l.prog w K mg base CX0 3 "is_text_over" ["book", "value"] (spOverV C) := .mk' F9 (PySem.W.mg_of X G0 a9) b9 (ok_is_text_over F9 T h_is_text)
  have h_require_text : HasO l.prog w K mg base CX0 4 "require_text" ["book", "value"] (spReqText C) := .mk' F10 (PySem.W.mg_of X G0 a10) b10 (ok_require_text F10 T h_is_text_over)
  have h_Book_accepts : C8.Met l.prog w K mg base 4 C "accepts" (spOverV C) [] := ⟨_, _, ["self", "value"], [], ⟨pg, hd, po, sa⟩, ⟨a11, i11, k11⟩, ok_Book_accepts F11 T h_is_text_over, b11, .nil⟩
  have h_is_order : HasO l.prog w K mg base CX0 2 "is_order" ["book", "value"] (spIsOrder C) := .mk' F12 (PySem.W.mg_of X G0 a12) b12 (ok_is_order F12 T)
  have h_is_view : HasO l.prog w K mg base CX0 2 "is_view" ["value"] (spIsView) := .mk' F13 (PySem.W.mg_of X G0 a13) b13 (ok_is_view F13 T h_is_integer)
  have h_is_table : HasO l.prog w K mg base CX0 5 "is_table" ["book", "value", "most"] (spIsTable C) := .mk' F14 (PySem.W.mg_of X G0 a14) b14 (ok_is_table F14 T h_Book_accepts)
  have h_Cutter : MakK l.prog w K mg base 6 "Cutter" CU 2 ["view", "table", "ends"] (fun vs zs => vs ++ zs) (spCutInit C CU) := by
    obtain ⟨_, kb⟩ := bk15
    exact ⟨_, _, ["self", "book", "order", "view", "table", "ends"], _, ⟨mkCU, a15, i15, kcCU⟩, ok_Cutter___init__ F15 T h_require_book h_is_order h_is_view h_is_table, PySem.W.mg_of X G0 aCU, kb⟩
  have h_Cutter_told_by : C8.Met l.prog w K mg base 2 CU "told_by" (spToldBy C CU) [] := ⟨_, _, ["self", "window", "is_ended"], [], ⟨pgCU, hdCU, poCU, saCU⟩, ⟨a16, i16, k16⟩, ok_Cutter_told_by F16 T, b16, .nil⟩
  have h_Cutter_cut_in : C8.Met l.prog w K mg base 3 CU "cut_in" (spCutIn C CU) [] := ⟨_, _, ["self", "text"], [], ⟨pgCU, hdCU, poCU, saCU⟩, ⟨a17, i17, k17⟩, ok_Cutter_cut_in F17 T h_Cutter_told_by, b17, .nil⟩
  have h_Cutter_price_in : C8.Met l.prog w K mg base 4 CU "price_in" (spPriceC C CU) [] := ⟨_, _, ["self", "text"], [], ⟨pgCU, hdCU, poCU, saCU⟩, ⟨a18, i18, k18⟩, ok_Cutter_price_in F18 T h_Cutter_cut_in, b18, .nil⟩
  have h_Cutter_cut : C8.Met l.prog w K mg base 5 CU "cut" (spCutT C CU) [] := ⟨_, _, ["self", "text"], [], ⟨pgCU, hdCU, poCU, saCU⟩, ⟨a19, i19, k19⟩, ok_Cutter_cut F19 T h_Cutter_cut_in h_require_text, b19, .nil⟩
  have h_Cutter___call____call : CalI l.prog w K mg base CX0 6 CU (spCutT C CU) := ⟨_, _, ["self", "text"], ⟨a20, i20, by unfold PySem.W.fnIn; rw [l20]⟩, ok_Cutter___call__ F20 T h_Cutter_cut, b20⟩
  have h_Cutter_price : C8.Met l.prog w K mg base 5 CU "price" (spPriceC C CU) [] := ⟨_, _, ["self", "text"], [], ⟨pgCU, hdCU, poCU, saCU⟩, ⟨a21, i21, k21⟩, ok_Cutter_price F21 T h_Cutter_price_in h_require_text, b21, .nil⟩
  have h_require_cutter : HasO l.prog w K mg base CX0 1 "require_cutter" ["value"] (spReqCutE CU) := .mk' F22 (PySem.W.mg_of X G0 a22) b22 (ok_require_cutter F22 T)
  have h_boundaries_in : HasO l.prog w K mg base CX0 4 "boundaries_in" ["cutter", "text"] (spBnd C CU) := .mk' F23 (PySem.W.mg_of X G0 a23) b23 (ok_boundaries_in F23 T h_Cutter_cut_in)
  have h_boundaries : HasO l.prog w K mg base CX0 6 "boundaries" ["cutter", "text"] (spBndT C CU) := .mk' F24 (PySem.W.mg_of X G0 a24) b24 (ok_boundaries F24 T h_require_cutter h_require_text h_boundaries_in)
  have h_shared_start : HasO l.prog w K mg base CX0 1 "shared_start" ["one", "other"] (spShare K) := .mk' F25 (PySem.W.mg_of X G0 a25) b25 (ok_shared_start F25 T)
  have h_common_in : HasO l.prog w K mg base CX0 5 "common_in" ["cutter", "old", "new", "rest"] (spCom C CU) := .mk' F26 (PySem.W.mg_of X G0 a26) b26 (ok_common_in F26 T h_boundaries_in)
  have h_common_boundary : HasO l.prog w K mg base CX0 6 "common_boundary" ["cutter", "old", "new", "rest"] (spCom C CU) := .mk' F27 (PySem.W.mg_of X G0 a27) b27 (ok_common_boundary F27 T h_require_cutter h_require_text h_common_in)
  have h_cuts_compared : HasO l.prog w K mg base CX0 4 "cuts_compared" ["cutter", "old", "new"] (spCmp C CU) := .mk' F28 (PySem.W.mg_of X G0 a28) b28 (ok_cuts_compared F28 T h_Cutter_cut_in h_shared_start)
  have h_recut : HasO l.prog w K mg base CX0 7 "recut" ["cutter", "text", "start", "stop", "signs"] (spRecut C CU) := .mk' F29 (PySem.W.mg_of X G0 a29) b29 (ok_recut F29 T h_require_cutter h_require_text h_is_integer_within h_cuts_compared)
  have h__law_reel : HasO l.prog w K mg base CX0 1 "_law_reel" ["script", "spot"] (spDice K) := .mk' F30 (PySem.W.mg_of X G0 a30) b30 (ok__law_reel F30 T)
  have h__law_spin : HasO l.prog w K mg base CX0 1 "_law_spin" ["reel", "total"] (spRoll) := .mk' F31 (PySem.W.mg_of X G0 a31) b31 (ok__law_spin F31 T)
  have h__law_pick : HasO l.prog w K mg base CX0 2 "_law_pick" ["reel", "items"] (spPick K) := .mk' F32 (PySem.W.mg_of X G0 a32) b32 (ok__law_pick F32 T h__law_spin)
  have h__law_some : HasO l.prog w K mg base CX0 2 "_law_some" ["reel", "items", "lots"] (spSome K) := .mk' F33 (PySem.W.mg_of X G0 a33) b33 (ok__law_some F33 T h__law_spin)
  have h__law_text : HasO l.prog w K mg base CX0 3 "_law_text" ["reel", "signs", "lots"] (spLetters K) := .mk' F34 (PySem.W.mg_of X G0 a34) b34 (ok__law_text F34 T h__law_pick)
  have h__law_signs : HasO l.prog w K mg base CX0 3 "_law_signs" ["reel", "lots"] (spSignsE) := .mk' F35 (PySem.W.mg_of X G0 a35) b35 (ok__law_signs F35 T h__law_some)
  have h__law_prices : HasO l.prog w K mg base CX0 4 "_law_prices" ["reel", "signs", "lots", "size", "top"] (spPricesE K) := .mk' F36 (PySem.W.mg_of X G0 a36) b36 (ok__law_prices F36 T h__law_spin h__law_text)
  have h__law_plan : Has l.prog w K mg base CX0 6 "_law_plan" ["reel", "prices", "top"] (spPlan [(pT, (("_law_plan.<locals>.<lambda>" : String) : Str))]) := .mk' F37 (PySem.W.mg_of X G0 a37) b37 (ok__law_plan F37 T hcT (TB _ List.mem_cons_self) h__law_spin h__law_some h__law_text h__law_pick)
  have h__law_cutter : HasO l.prog w K mg base CX0 8 "_law_cutter" ["plan"] (spPlanCut C CU) := .mk' F38 (PySem.W.mg_of X G0 a38) b38 (ok__law_cutter F38 T h_Cutter h_Book)
  have h__law_alphabet : HasO l.prog w K mg base CX0 4 "_law_alphabet" ["plan"] (spAlphabet) := .mk' F39 (PySem.W.mg_of X G0 a39) b39 (ok__law_alphabet F39 T)
  have h__law_edit_plan : Has l.prog w K mg base CX0 7 "_law_edit_plan" ["reel", "spans"] (spEditPlan [(pT, (("_law_plan.<locals>.<lambda>" : String) : Str))] K) := .mk' F40 (PySem.W.mg_of X G0 a40) b40 (ok__law_edit_plan F40 T h__law_signs h__law_spin h__law_pick h__law_prices h__law_plan)
  have h__law_ends_right : Has l.prog w K mg base CX0 7 "_law_ends_right" ["cutter", "text"] (spEnds C CU) := .mk' F41 (PySem.W.mg_of X G0 a41) b41 (ok__law_ends_right F41 T h_Cutter_cut h_boundaries)
  have h__law_front_right : HasO l.prog w K mg base CX0 7 "_law_front_right" ["plan", "cutter", "one", "other", "many"] (spFront C CU) := .mk' F42 (PySem.W.mg_of X G0 a42) b42 (ok__law_front_right F42 T h_boundaries)
  have h__law_behind_right : HasO l.prog w K mg base CX0 7 "_law_behind_right" ["cutter", "old", "new", "rest"] (spBehindR C CU) := .mk' F43 (PySem.W.mg_of X G0 a43) b43 (ok__law_behind_right F43 T h_common_boundary h_boundaries)
  have h__law_recut_right : HasO l.prog w K mg base CX0 8 "_law_recut_right" ["cutter", "text", "start", "stop", "signs"] (spRecutR C CU) := .mk' F44 (PySem.W.mg_of X G0 a44) b44 (ok__law_recut_right F44 T h_Cutter_cut h_recut)
  have h__law_cell_right : Has l.prog w K mg base CX0 9 "_law_cell_right" ["reel", "numbers"] (spCellE [(pT, (("_law_plan.<locals>.<lambda>" : String) : Str))] K) := .mk' F45 (PySem.W.mg_of X G0 a45) b45 (ok__law_cell_right F45 T h__law_edit_plan h__law_cutter h__law_alphabet h__law_pick h__law_ends_right h__law_spin h__law_text h__law_front_right h__law_behind_right h__law_recut_right)
  exact ok_law F46 T h__law_cell_right h__law_reel
end K61
open PySem PySem.W PyProof.Rows
set_option maxRecDepth 100000 in
set_option maxHeartbeats 0 in
theorem PySem.Challenge.cw_cutbehind_k61_whole_edits_move_what_was_holds : PySem.Challenge.rw_cutbehind_k61_whole_edits_move_what_was.Holds := by
  w_on; o_law; k_head; (case hw => w_witness2)
  k_fill
  refine G.walk_gT (l := PySem.Challenge.rw_cutbehind_k61_whole_edits_move_what_was) (n := 63) (k := 10) (x := "script") rfl (by decide) rfl ⟨rfl, by decide, by decide⟩ (fun w h Y => PySem.W.km_in_of Y) ?F
  case F =>
    intro w mg fa h Y KX G0 hmg
    refine' K61.all_mk (l := PySem.Challenge.rw_cutbehind_k61_whole_edits_move_what_was) KX G0 hmg ?aC ?pg ?hd ?po ?sa ?mk ?kc ?iha ?ihn ?iht ?ihm ?n_own_prices ?n_own_pieces ?n_own_alphabet ?n_own_longest ?n_own_dearest ?aCU ?pgCU ?hdCU ?poCU ?saCU ?mkCU ?kcCU ?ihaCU ?ihmCU ?nCU_own_book ?nCU_own_order ?nCU_own_view ?nCU_own_table ?nCU_own_ends ?nCU_own_sizes ?a0 ?l0 ?c0 ?k0 ?a1 ?l1 ?c1 ?k1 ?a2 ?l2 ?c2 ?k2 ?a3 ?l3 ?c3 ?k3 ?a4 ?l4 ?c4 ?k4 ?a5 ?l5 ?c5 ?k5 ?a6 ?l6 ?c6 ?k6 ?a7 ?i7 ?l7 ?c7 ?k7 ?a8 ?l8 ?c8 ?k8 ?a9 ?l9 ?c9 ?k9 ?a10 ?l10 ?c10 ?k10 ?a11 ?i11 ?l11 ?c11 ?k11 ?a12 ?l12 ?c12 ?k12 ?a13 ?l13 ?c13 ?k13 ?a14 ?l14 ?c14 ?k14 ?a15 ?i15 ?l15 ?c15 ?k15 ?kv15 ?kd15_view ?kd15_table ?kd15_ends ?a16 ?i16 ?l16 ?c16 ?k16 ?a17 ?i17 ?l17 ?c17 ?k17 ?a18 ?i18 ?l18 ?c18 ?k18 ?a19 ?i19 ?l19 ?c19 ?k19 ?a20 ?i20 ?l20 ?c20 ?k20 ?a21 ?i21 ?l21 ?c21 ?k21 ?a22 ?l22 ?c22 ?k22 ?a23 ?l23 ?c23 ?k23 ?a24 ?l24 ?c24 ?k24 ?a25 ?l25 ?c25 ?k25 ?a26 ?l26 ?c26 ?k26 ?a27 ?l27 ?c27 ?k27 ?a28 ?l28 ?c28 ?k28 ?a29 ?l29 ?c29 ?k29 ?a30 ?l30 ?c30 ?k30 ?a31 ?l31 ?c31 ?k31 ?a32 ?l32 ?c32 ?k32 ?a33 ?l33 ?c33 ?k33 ?a34 ?l34 ?c34 ?k34 ?a35 ?l35 ?c35 ?k35 ?a36 ?l36 ?c36 ?k36 ?a37 ?l37 ?c37 ?k37 ?a38 ?l38 ?c38 ?k38 ?a39 ?l39 ?c39 ?k39 ?a40 ?l40 ?c40 ?k40 ?a41 ?l41 ?c41 ?k41 ?a42 ?l42 ?c42 ?k42 ?a43 ?l43 ?c43 ?k43 ?a44 ?l44 ?c44 ?k44 ?a45 ?l45 ?c45 ?k45 ?a46 ?l46 ?c46 ?k46 ?z_abs ?z_all ?z_bool ?z_dict ?z_int ?z_isinstance ?z_len ?z_list ?z_max ?z_min ?z_range ?z_repr ?z_sorted ?z_str ?z_sum ?z_tuple ?z_zip ?y_MAX_ALPHABET ?y_MAX_PIECES ?y_MAX_PRICE ?y_MAX_SIGNS ?y_MAX_VIEW ?y_MAX_WINDOWS ?y_PIECE_SIGNS ?y_TEXT_SIGNS ?hcT ?lcT ?pvT ?npT ?tbT ?cdT
    (case aC => k_is)
    (case pg => k_is)
    (case hd => k_is)
    (case po => k_is)
    (case sa => k_is)
    (case mk => k_is)
    (case kc => k_is)
    (case iha => k_is)
    (case ihn => k_is)
    (case iht => k_is)
    (case ihm => k_is)
    (case n_own_prices => k_is)
    (case n_own_pieces => k_is)
    (case n_own_alphabet => k_is)
    (case n_own_longest => k_is)
    (case n_own_dearest => k_is)
    (case aCU => k_is)
    (case pgCU => k_is)
    (case hdCU => k_is)
    (case poCU => k_is)
    (case saCU => k_is)
    (case mkCU => k_is)
    (case kcCU => k_is)
    (case ihaCU => k_is)
    (case ihmCU => k_is)
    (case nCU_own_book => k_is)
    (case nCU_own_order => k_is)
    (case nCU_own_view => k_is)
    (case nCU_own_table => k_is)
    (case nCU_own_ends => k_is)
    (case nCU_own_sizes => k_is)
    (case a0 => k_is)
    (case l0 => k_is)
    (case c0 => k_is)
    (case k0 => k_is)
    (case a1 => k_is)
    (case l1 => k_is)
    (case c1 => k_is)
    (case k1 => k_is)
    (case a2 => k_is)
    (case l2 => k_is)
    (case c2 => k_is)
    (case k2 => k_is)
    (case a3 => k_is)
    (case l3 => k_is)
    (case c3 => k_is)
    (case k3 => k_is)
    (case a4 => k_is)
    (case l4 => k_is)
    (case c4 => k_is)
    (case k4 => k_is)
    (case a5 => k_is)
    (case l5 => k_is)
    (case c5 => k_is)
    (case k5 => k_is)
    (case a6 => k_is)
    (case l6 => k_is)
    (case c6 => k_is)
    (case k6 => k_is)
    (case a7 => k_is)
    (case i7 => k_is)
    (case l7 => k_is)
    (case c7 => k_is)
    (case k7 => k_is)
    (case a8 => k_is)
    (case l8 => k_is)
    (case c8 => k_is)
    (case k8 => k_is)
    (case a9 => k_is)
    (case l9 => k_is)
    (case c9 => k_is)
    (case k9 => k_is)
    (case a10 => k_is)
    (case l10 => k_is)
    (case c10 => k_is)
    (case k10 => k_is)
    (case a11 => k_is)
    (case i11 => k_is)
    (case l11 => k_is)
    (case c11 => k_is)
    (case k11 => k_is)
    (case a12 => k_is)
    (case l12 => k_is)
    (case c12 => k_is)
    (case k12 => k_is)
    (case a13 => k_is)
    (case l13 => k_is)
    (case c13 => k_is)
    (case k13 => k_is)
    (case a14 => k_is)
    (case l14 => k_is)
    (case c14 => k_is)
    (case k14 => k_is)
    (case a15 => k_is)
    (case i15 => k_is)
    (case l15 => k_is)
    (case c15 => k_is)
    (case k15 => k_is)
    (case kv15 => rfl)
    (case kd15_view => k_is)
    (case kd15_table => k_is)
    (case kd15_ends => k_is)
    (case a16 => k_is)
    (case i16 => k_is)
    (case l16 => k_is)
    (case c16 => k_is)
    (case k16 => k_is)
    (case a17 => k_is)
    (case i17 => k_is)
    (case l17 => k_is)
    (case c17 => k_is)
    (case k17 => k_is)
    (case a18 => k_is)
    (case i18 => k_is)
    (case l18 => k_is)
    (case c18 => k_is)
    (case k18 => k_is)
    (case a19 => k_is)
    (case i19 => k_is)
    (case l19 => k_is)
    (case c19 => k_is)
    (case k19 => k_is)
    (case a20 => k_is)
    (case i20 => k_is)
    (case l20 => k_is)
    (case c20 => k_is)
    (case k20 => k_is)
    (case a21 => k_is)
    (case i21 => k_is)
    (case l21 => k_is)
    (case c21 => k_is)
    (case k21 => k_is)
    (case a22 => k_is)
    (case l22 => k_is)
    (case c22 => k_is)
    (case k22 => k_is)
    (case a23 => k_is)
    (case l23 => k_is)
    (case c23 => k_is)
    (case k23 => k_is)
    (case a24 => k_is)
    (case l24 => k_is)
    (case c24 => k_is)
    (case k24 => k_is)
    (case a25 => k_is)
    (case l25 => k_is)
    (case c25 => k_is)
    (case k25 => k_is)
    (case a26 => k_is)
    (case l26 => k_is)
    (case c26 => k_is)
    (case k26 => k_is)
    (case a27 => k_is)
    (case l27 => k_is)
    (case c27 => k_is)
    (case k27 => k_is)
    (case a28 => k_is)
    (case l28 => k_is)
    (case c28 => k_is)
    (case k28 => k_is)
    (case a29 => k_is)
    (case l29 => k_is)
    (case c29 => k_is)
    (case k29 => k_is)
    (case a30 => k_is)
    (case l30 => k_is)
    (case c30 => k_is)
    (case k30 => k_is)
    (case a31 => k_is)
    (case l31 => k_is)
    (case c31 => k_is)
    (case k31 => k_is)
    (case a32 => k_is)
    (case l32 => k_is)
    (case c32 => k_is)
    (case k32 => k_is)
    (case a33 => k_is)
    (case l33 => k_is)
    (case c33 => k_is)
    (case k33 => k_is)
    (case a34 => k_is)
    (case l34 => k_is)
    (case c34 => k_is)
    (case k34 => k_is)
    (case a35 => k_is)
    (case l35 => k_is)
    (case c35 => k_is)
    (case k35 => k_is)
    (case a36 => k_is)
    (case l36 => k_is)
    (case c36 => k_is)
    (case k36 => k_is)
    (case a37 => k_is)
    (case l37 => k_is)
    (case c37 => k_is)
    (case k37 => k_is)
    (case a38 => k_is)
    (case l38 => k_is)
    (case c38 => k_is)
    (case k38 => k_is)
    (case a39 => k_is)
    (case l39 => k_is)
    (case c39 => k_is)
    (case k39 => k_is)
    (case a40 => k_is)
    (case l40 => k_is)
    (case c40 => k_is)
    (case k40 => k_is)
    (case a41 => k_is)
    (case l41 => k_is)
    (case c41 => k_is)
    (case k41 => k_is)
    (case a42 => k_is)
    (case l42 => k_is)
    (case c42 => k_is)
    (case k42 => k_is)
    (case a43 => k_is)
    (case l43 => k_is)
    (case c43 => k_is)
    (case k43 => k_is)
    (case a44 => k_is)
    (case l44 => k_is)
    (case c44 => k_is)
    (case k44 => k_is)
    (case a45 => k_is)
    (case l45 => k_is)
    (case c45 => k_is)
    (case k45 => k_is)
    (case a46 => k_is)
    (case l46 => k_is)
    (case c46 => k_is)
    (case k46 => k_is)
    (case z_abs => k_is)
    (case z_all => k_is)
    (case z_bool => k_is)
    (case z_dict => k_is)
    (case z_int => k_is)
    (case z_isinstance => k_is)
    (case z_len => k_is)
    (case z_list => k_is)
    (case z_max => k_is)
    (case z_min => k_is)
    (case z_range => k_is)
    (case z_repr => k_is)
    (case z_sorted => k_is)
    (case z_str => k_is)
    (case z_sum => k_is)
    (case z_tuple => k_is)
    (case z_zip => k_is)
    (case y_MAX_ALPHABET => k_is)
    (case y_MAX_PIECES => k_is)
    (case y_MAX_PRICE => k_is)
    (case y_MAX_SIGNS => k_is)
    (case y_MAX_VIEW => k_is)
    (case y_MAX_WINDOWS => k_is)
    (case y_PIECE_SIGNS => k_is)
    (case y_TEXT_SIGNS => k_is)
    (case hcT => rfl)
    (case lcT => k_is)
    (case pvT => rfl)
    (case npT => kernel_rfl)
    (case tbT => exact PySem.W.km_tabs_of Y _ (by decide))
    (case cdT => kernel_rfl)
#print axioms PySem.Challenge.cw_cutbehind_k61_whole_edits_move_what_was_holds
