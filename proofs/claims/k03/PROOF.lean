import PyProof.Rows.All
import Wide.All
import OpenK.AllK
import Wide.FinOn
import HandS.ForMost
import HandS.Wide
import HandS.IsInst
import HandS.Style
import HandS.Walk
import HandS.Flow
import PyProof.Rows.Digits
import HandS.Steps
import HandS.Slots
import HandS.SlotsOwn
import HandS.Star
import HandS.NoneIn
import HandS.Deep
import HandS.TupAny
import KE.KSetDisp
import PyProof.Rows.StrOr
import HandS.Exc
import HandS.WordsExc
import HandS.CallSlots
import HandS.WordsDict
import HandS.Zip
import KE.KCallOwn
import PyProof.InstEq
import KE.KOpsOwn
import HandS.FStr
import PyProof.Rows.StrBool
import PyProof.StrLawsRepr
import HandS.IterVal
import KE.KOwnIter
import HandS.SetBool
import HandS.Strs
import HandS.DictComp
import HandS.Iter
import HandS.More
import HandS.Text
import HandS.Comp
import KE.KFmtOwn
import KE.KDictSum
import KE.KDictWalk
import KE.KDictCopyH
import HandS.TupSets
import HandS.OwnIter
import PyProof.SeqIndex
import HandS.RaiseMore
import KE.RegKIsAll
import PySem.Challenge.RW_grownlines_k03_grids_told
set_option Elab.async false
set_option maxRecDepth 100000
set_option maxHeartbeats 4000000
set_option linter.all false
/-! my own layer over the hand layer: guarded promises (repr), great numbers, repr of data, a stepper -/
namespace Gl
open PySem PySem.Spec PyProof.Rows L2

/-! ### promises where nothing is being shown (for repr) -/
structure FnG (P : Program) (w : World) (K : PySem.W.Frag) (mg : Str → Option Value) (base : Heap) (CX : CXT)
    (k : Nat) (f : Addr) (fd : FuncData) (ps : List Str) (sp : Sp) : Prop where
  len : ∀ vs H Q E, sp vs H Q E → vs.length = ps.length
  go : ∀ (A : Around) (outer : List Env) (s : Shared) (H : Hp) (args : Args) (us : List Value) (vs : List V)
    (Q : VK) (E : XK), A.guards = some [] → Room k A → Env0 P w K mg base A outer s H →
    BindsTo s fd args (ps.zip us) → Vals vs us → sp vs H Q E →
    codeAny (model P w) A (.call (.ref f) args) (CR CX outer P w H s Q E) s

section
variable {P : Program} {w : World} {K : PySem.W.Frag} {mg : Str → Option Value} {base : Heap}

theorem FnG.of {CX : CXT} {k : Nat} {f : Addr} {fd : FuncData} {ps : List Str} {sp : Sp}
    (F : FnOk P w K mg base CX k f fd ps sp) : FnG P w K mg base CX k f fd ps sp :=
  ⟨F.len, fun A outer s H args us vs Q E _ => F.run A outer s H args us vs Q E⟩

/-- the rule for a def, told that nothing is being shown around it -/
theorem okG {x qual : Str} {st : Stmt} {f : Addr} {fd : FuncData} {N ps : List Str} {k : Nat} {sp : Sp}
    (F : Fun K x qual st f fd) (S : FnScope N ps (defScope st))
    (len : ∀ vs H Q E, sp vs H Q E → vs.length = ps.length)
    (body : ∀ (cdv : Value) (A : Around) (outer : List Env) (s : Shared) (H : Hp) (vs : List V) (Q : VK) (E : XK),
      (A.deeper (envOfC qual (defScope st) s.heap.objs.size f cdv)).guards = some [] →
      Room k (A.deeper (envOfC qual (defScope st) s.heap.objs.size f cdv)) → sp vs H Q E →
      ∃ t, PSs (cxOf CX0 P w K mg base N qual (defScope st) f cdv A outer s H E).nox (defBody st) t ∧
        t { nx := fun _ H' => Q .non H', rt := Q } (start N vs) H) :
    FnG P w K mg base CX0 (k + 1) f fd ps sp := by
  obtain ⟨oc, od, kV, doc, pm, an, cdv, ct, osl, rfl, lk, hcd⟩ := F.ex
  refine ⟨len, ?_⟩
  intro A outer s H args us vs Q E hg hr e0 hb r hsp
  have hlen := len _ _ _ _ hsp
  have below : ∀ b o, base.get? b = some o → s.heap.get? b = some o := fun b o e => (e0.bs b o e).1
  have inK := e0.mod.kin.keeps below
  have nol := e0.mod.nolimit.keeps below
  have kinds : ∀ y ∈ ps.zip us, (defScope st).names.lookup y.1 = some .local ∨
      ((defScope st).names.lookup y.1 = some .cell ∧
        ((cellsFrom (s.heap.objs.size + 1) (defScope st).names []).lookup y.1).isSome = true) := by
    rintro ⟨n, v⟩ hy
    have hin := (List.of_mem_zip hy).1
    rcases S.par n hin with q | q
    · exact Or.inl q
    · exact Or.inr ⟨q, PySem.W.cellsFrom_some _ _ _ (Or.inl q)⟩
  refine codeAny_call_function hr.depth (inK _ _ lk) rfl S.co S.gen rfl
    (PySem.W.codeRec_of inK hcd) (hb _ _ _ _ ?_)
  refine wpAny_newFunctionEnv_cells S.kind kinds ?_
  intro env he s1 x
  subst he
  refine ⟨nol.keeps x.toInCall.keep, codeAny_func ?_⟩
  obtain ⟨t, ht, hq⟩ := body cdv A outer s H vs Q E hg (hr.deeper _) hsp
  have I := inv_start (CX := CX0) (P := P) (w := w) (K := K) (mg := mg) (base := base) (E := E) S hr.hd e0 hlen r x
  refine wpAny_mono (ht.nox.run [] s1 (start N vs) H _ I hq) ?_ (fun e s' hs => hs)
  intro fl s' hs
  cases fl with
  | ret u =>
    obtain ⟨v, σ', H', J, rv, q⟩ := hs
    exact ⟨v, H', J.os, J.bare, J.base, J.hok, rv, q⟩
  | next =>
    obtain ⟨σ', H', J, q⟩ := hs
    exact ⟨V.non, H', J.os, J.bare, J.base, J.hok, rfl, q⟩
  | brk => exact hs.elim fun _ z => z.elim fun _ z => z.2.elim
  | cont => exact hs.elim fun _ z => z.elim fun _ z => z.2.elim
end

section
variable {X : Cx} {CX : CXT} {k : Nat} {f : Addr} {fd : FuncData} {ps : List Str} {sp : Sp} {dvs : List V}
  {ds : List Value} {E : XK} {x : Str} {p pos : Pos} {e : Expr} {es : List Expr} {t : TA}

theorem runG {pins : List (Addr × Obj)} {σ : L2.St} {H : Hp} {s : Shared} {Q : VK} {us : List Value} {vs : List V}
    (F : FnG X.prog X.w X.K X.mg X.base CX k f fd ps sp) (hG : X.A.guards = some []) (hr : Room k X.A)
    (hb : Binds X.K fd ps ds) (hd : Vals dvs ds) (hx : Passes CX X E)
    (I : Inv X pins σ H s) (r : Vals vs us) (h : sp (vs ++ dvs) H Q E) :
    wpAny (model X.prog X.w) X.A (call (.ref f) us) (EP X pins σ Q) X.xe s := by
  have both : Vals (vs ++ dvs) (us ++ ds) := r.append hd
  have many : (us ++ ds).length = ps.length := both.length ▸ F.len _ _ _ _ h
  have run := F.go X.A X.stack s H ⟨us, []⟩ (us ++ ds) (vs ++ dvs) Q E hG hr I.env0 (hb s us I.kIn many) both h
  refine wpAny_call (codeAny_mono run ?_)
  intro r s' hq
  match r, hq with
  | .error e, hq => exact hx pins σ H s e s' I hq
  | .ok (.ret u), hq => exact I.after hq
  | .ok .next, hq => exact False.elim hq
  | .ok .brk, hq => exact False.elim hq
  | .ok .cont, hq => exact False.elim hq

theorem pe_callG (F : FnG X.prog X.w X.K X.mg X.base CX k f fd ps sp) (hG : X.A.guards = some []) (hr : Room k X.A)
    (hg : Gl X x) (hm : X.mg x = some (.ref f)) (hk : PySem.W.keepIn X.K (.ref f) = true)
    (hb : Binds X.K fd ps ds) (hd : Vals dvs ds) (hx : Passes CX X E) (ha : PA X (e :: es) t)
    (hdb : (x == ("__debug__" : Str)) = false := by decide)
    (he : starEach (e :: es) X.env = (false, eval e X.env) :: starEach es X.env := by rfl)
    (hpl : (backTo pos (starEach es X.env)).any (·.1) = false := by rfl) :
    PE X (.Call (.Name x p) (e :: es) [] pos) (tCall sp dvs E t) := by
  constructor
  intro pins s σ H Q I h
  have inner := thn (ha.run pos pins s σ H _ I h) (Q' := fun us s1 => X.K.In s1.heap ∧
    wpAny (model X.prog X.w) X.A (call (.ref f) us) (EP X pins σ Q) X.xe s1)
    fun us s1 ⟨vs, H1, I1, r, q⟩ => ⟨I1.kIn, runG F hG hr hb hd hx I1 r q⟩
  exact wpAny_Call_Name_kw (ld_glob I hg hm (PySem.W.callWith_K (h₀ := X.base) I.ok.mod.kin hk inner he hpl) hdb)

theorem pe_callG0 (F : FnG X.prog X.w X.K X.mg X.base CX k f fd ps sp) (hG : X.A.guards = some []) (hr : Room k X.A)
    (hg : Gl X x) (hm : X.mg x = some (.ref f)) (hk : PySem.W.keepIn X.K (.ref f) = true)
    (hb : Binds X.K fd ps ds) (hd : Vals dvs ds) (hx : Passes CX X E)
    (hdb : (x == ("__debug__" : Str)) = false := by decide) :
    PE X (.Call (.Name x p) [] [] pos) (tCall sp dvs E tNil) := by
  constructor
  intro pins s σ H Q I h
  have inner := runG (us := []) F hG hr hb hd hx I .nil h
  exact wpAny_Call_Name_kw (ld_glob I hg hm (PySem.W.callWith_K0 I.kIn hk inner) hdb)
end

/-! ### the law's call, guarded -/
theorem lawG {P : Program} {w : World} {K : PySem.W.Frag} {mg mb : Str → Option Value} {k : Nat} {fa a : Addr}
    {fd : FuncData} {x : Str} {sp : Sp} {s1 : Shared} {vs : List Value} {ns : List Int}
    (KX : K.In s1.heap) (hns : s1.heap.Ns mainGlobals mg) (hb : s1.heap.Ns builtinsNs mb)
    (hbb : ∀ x : Str, x ≠ "__name__" → mb x = bootBuiltins x) (hlim : s1.heap.NoLimit) (hg : s1.gens = #[])
    (ha : s1.heap.get? a = some { cls := .type "list", data := .seq vs.toArray }) (hi : IntsAre vs ns)
    (hl : ns.length ≤ sizeLine) (hr : Room k callerA)
    (hdg : s1.heap.NoDigits)
    (F : ∀ base : Heap, K.In base → base.Ns mainGlobals mg → base.NoDigits → FnG P w K mg base CX0 k fa fd [x] sp)
    (hbind : ∀ (s : Shared) (u : Value), BindsTo s fd ⟨[u], []⟩ [(x, u)])
    (hsp : ∀ H : Hp, Only H → SqL K H a (ns.map V.int) → sp [.ref a] H (fun v _ => v = .bl true) fun _ _ _ => False) :
    codeAny (model P w) callerA (.call (.ref fa) ⟨[.ref a], []⟩)
      (fun r s' => r = .ok (.ret (.bool true)) ∧ OldK s1.heap s'.heap ∧ s'.os = s1.os ∧ AllBare s'.gens) s1 := by
  have lenV := hi.length
  have core : ∀ H : Hp, Only H → SqL K H a (ns.map V.int) → HOk P w H s1.heap →
      (∀ b, H b ≠ none → b = a ∧ K.lookup a = none) →
      codeAny (model P w) callerA (.call (.ref fa) ⟨[.ref a], []⟩)
        (fun r s' => r = .ok (.ret (.bool true)) ∧ OldK s1.heap s'.heap ∧ s'.os = s1.os ∧ AllBare s'.gens) s1 := by
    intro H hO hS hok hA
    have free : ∀ {b : Addr} {o : Obj} {es : Array DictEntry} {ep : Nat},
        s1.heap.get? b = some o → o.data = .dict es ep → H b = none := by
      intro b o es ep e d
      by_cases q : H b = none
      · exact q
      · obtain ⟨rfl, _⟩ := hA b q
        rw [ha] at e
        cases e
        cases d
    have nsB : ∀ {b : Addr} {m : Str → Option Value}, s1.heap.Ns b m → (hidT s1.heap H).Ns b m := by
      rintro b m ⟨o, es, ep, e, d, r⟩
      exact ⟨o, es, ep, hidT_get e (free e d), d, r⟩
    have inB : K.In (hidT s1.heap H) := by
      intro b o e
      refine hidT_get (KX b o e) ?_
      by_cases q : H b = none
      · exact q
      · obtain ⟨rfl, z⟩ := hA b q
        rw [z] at e
        cases e
    obtain ⟨mc, l1, l2⟩ := hlim
    have hM : Mod K mg (hidT s1.heap H) := ⟨inB, nsB hns, ⟨mb, nsB hb, hbb⟩, ⟨mc, nsB l1, l2⟩⟩
    have e0 : Env0 P w K mg (hidT s1.heap H) callerA [] s1 H :=
      ⟨rfl, hM, fun b o e => of_hidT e, Nat.le_of_eq (hidT_size _ _), trivial,
        fun b z => absurd (show b ∈ ([] : List Addr) from z) (by simp), hok, .of_eq hg⟩
    obtain ⟨md, d1, d2⟩ := hdg
    have run := (F _ inB (nsB hns) ⟨md, nsB d1, d2⟩).go callerA [] s1 H ⟨[.ref a], []⟩ [.ref a] [.ref a] _ _ rfl hr e0
      (hbind s1 (.ref a)) (.cons rfl .nil) (hsp H hO hS)
    refine codeAny_mono run ?_
    intro r s' h
    match r, h with
    | .error e, h => exact False.elim h
    | .ok .next, h => exact False.elim h
    | .ok .brk, h => exact False.elim h
    | .ok .cont, h => exact False.elim h
    | .ok (.ret u), h =>
      obtain ⟨v, H', os, bare, un, hok', r', q⟩ := h
      have q' : v = .bl true := q
      subst q'
      obtain rfl : u = Value.bool true := r'
      refine ⟨rfl, OldK.of_keep ?_, os, bare⟩
      intro b o e
      rcases hO b with z | ⟨ob, xs, z⟩
      · exact un.keep b o e z (fun y => absurd (show b ∈ ([] : List Addr) from y) (by simp)) (by simp)
      · have g1 := (hok b _ z).1
        have g2 := (hok' b _ (un.frzs b ob _ z)).1
        rw [e] at g1
        cases g1
        exact g2
  have rv := vals_ints hi
  by_cases hk : K.lookup a = none
  · refine core (fun b => if b = a then some (.frz { cls := .type "list", data := .seq vs.toArray }
        (.lst (ns.map V.int))) else none) ?_ (.inl (.inr ⟨_, if_pos rfl⟩)) ?_ ?_
    · intro b
      by_cases hb : b = a
      · exact Or.inr ⟨_, _, if_pos hb⟩
      · exact Or.inl (if_neg hb)
    · intro b u z
      by_cases hb : b = a
      · have z' := (if_pos hb).symm.trans z
        cases z'
        subst hb
        exact ⟨ha, (List.length_map (as := ns) V.int).symm ▸ hl, vs, _, rv, ha⟩
      · have z' := (if_neg hb).symm.trans z
        cases z'
    · intro b z
      by_cases hb : b = a
      · exact ⟨hb, hk⟩
      · exact absurd (if_neg hb) z
  · obtain ⟨o, ho⟩ := Option.ne_none_iff_exists'.mp hk
    have e := KX a o ho
    rw [ha] at e
    cases e
    have sz : vs.toArray.size ≤ sizeLine := by
      rw [List.size_toArray, lenV]
      exact hl
    exact core (fun _ => none) (fun _ => Or.inl rfl)
      (Or.inr ⟨_, vs.toArray, _, ho, rfl, rfl, rfl, sz, by simpa using rv⟩)
      (fun b u z => nomatch (show (none : Option HO) = some u from z)) (fun b z => absurd rfl z)

theorem walkG {l : PySem.W.OpenLaw} {n k : Nat} {q : Program} {loose : List Str}
    {XP : (Str → Option Value) → Heap → Prop} {YP : World → Heap → Prop} {d : DefRec} {K : Params → PySem.W.Frag}
    {sp : PySem.W.Frag → Sp} {x : Str}
    (hn : l.most = some n) (hn2 : n ≤ sizeLine) (hdf : d.params.defaults = []) (hr : Room k callerA)
    (hY : ∀ (w : World) (h : Heap), YP w h → (K w.params).In h)
    (F : ∀ (w : World) (mg : Str → Option Value) (fa : Addr) (h : Heap), (K w.params).In h → h.Ns mainGlobals mg →
      mg d.name = some (.ref fa) → ∃ fd : FuncData, (∀ (s : Shared) (u : Value), BindsTo s fd ⟨[u], []⟩ [(x, u)]) ∧
        ∀ base : Heap, (K w.params).In base → base.Ns mainGlobals mg → base.NoDigits →
          FnG l.prog w (K w.params) mg base CX0 k fa fd [x] (sp (K w.params)))
    (hsp : ∀ (K : PySem.W.Frag) (H : Hp) (a : Addr) (ns : List Int), ns.length ≤ n → Only H →
      SqL K H a (ns.map V.int) → sp K [.ref a] H (fun v _ => v = .bl true) fun _ _ _ => False) :
    PySem.W.WalkO q loose XP YP l.row.toRowW d [] (fun f vs => PySem.call f vs) := by
  refine Att.attach_call hn hdf ?_
  intro w s0 s1 mg mb fa o pm cd doc a vs ns G Y ho hd hcd hmg hobj hints hlen hg
  have KX := hY w _ Y
  obtain ⟨fd, hb, hF⟩ := F w mg fa _ KX G.T.g hmg
  exact lawG KX G.T.g G.T.b G.T.builtins G.T.nolimit hg hobj hints (Nat.le_trans hlen hn2) hr G.T.nodigits hF hb
    (fun H hO hS => hsp (K w.params) H a ns hlen hO hS)

/-! ### numbers -/
section
variable {X : Cx}
theorem pe_globV {x : Str} {v : V} {pos : Pos} (hg : Gl X x) (hm : ∃ u, X.mg x = some u ∧ RelV v u)
    (hd : (x == ("__debug__" : Str)) = false := by decide) : PE X (.Name x pos) (tC v) := by
  obtain ⟨u, h, r⟩ := hm
  exact pe_glob hg h r hd
def CMulA (i j : Int) : Prop := CMul i j ∨ CMulW i j
theorem cmulL {i j : Int} (h1 : -(2 ^ 64) < i) (h2 : i < 2 ^ 64) : CMulA i j := Or.inl (Or.inl ⟨h1, h2⟩)
theorem cmulR {i j : Int} (h1 : -(2 ^ 64) < j) (h2 : j < 2 ^ 64) : CMulA i j := Or.inl (Or.inr ⟨h1, h2⟩)
theorem op_mulA : OpR X (binaryOp .Mult) (rI CMulA fun i j => .int (i * j)) :=
  opI fun _ _ _ _ _ _ _ hc q => mul_int q (hc.elim CMul.ok CMulW.ok)
def B9 : Int := 2 ^ 8000
theorem small_B9 {j : Int} (h : j ≤ 10 ^ 60) : j < B9 := Int.lt_of_le_of_lt h (by unfold B9; decide +kernel)
def CDivA (_ j : Int) : Prop := 0 < j ∧ j < B9
theorem cdiv {i j : Int} (h : 0 < j) (h2 : j ≤ 10 ^ 60) : CDivA i j := ⟨h, small_B9 h2⟩
theorem log_B9 {j : Int} (h1 : 0 < j) (h2 : j < B9) : j.natAbs.log2 < 9000 := by
  have h3 : j.natAbs < 2 ^ 8000 := by
    have e : ((j.natAbs : Nat) : Int) < ((2 ^ 8000 : Nat) : Int) := by
      rw [Int.natAbs_of_nonneg (Int.le_of_lt h1)]
      exact h2
    exact Int.ofNat_lt.mp e
  exact Nat.lt_of_lt_of_le (PySem.Flt.log2_lt_of (by decide) h3) (by decide)
theorem op_fdivA : OpR X (binaryOp .FloorDiv) (rI CDivA fun i j => .int (i / j)) :=
  opI fun i j _ _ _ _ _ hc q => by
    have h1 : (0 : Int) < j := hc.1
    have e := Int.fdiv_eq_ediv_of_nonneg i (Int.le_of_lt h1)
    refine floordiv_int (by omega) ?_ (.inl (PyProof.noPylong_of_log2 (log_B9 h1 hc.2)))
    rw [e]
    exact q
def CPowA (i j : Int) : Prop := 0 ≤ j ∧ (Builtin.Int.intBits i : Int) * j ≤ 2 ^ 27
theorem op_powA : OpR X (binaryOp .Pow) (rI CPowA fun i j => .int (i ^ j.toNat)) :=
  opI fun _ _ _ _ _ _ _ hc q => pow_int hc.1 hc.2 q
end

/-! ### built-ins by names of their own -/
def rLen (K : PySem.W.Frag) : List V → Hp → VK → Prop := fun xs H Q => ∃ x n, xs = [x] ∧ LenV K x H n ∧ Q (.int (n : Nat)) H
theorem call_lenA {X : Cx} : CallR X (.builtin "len") (rLen X.K) := call_len
/-! ### repr of data -/
def rReprD (K : PySem.W.Frag) : List V → Hp → VK → Prop := fun xs H Q => ∃ x d, xs = [x] ∧ Dp K H x d ∧
  d.showable = true ∧ d.hasDict = false ∧ d.depth ≤ 30 ∧ d.shown.length ≤ sizeLine ∧ Q (.str d.shown) H
theorem call_reprD {X : Cx} {k : Nat} (hr : Room k X.A) (hG : X.A.guards = some []) :
    CallR X (.builtin "repr") (rReprD X.K) := by
  intro pins s σ H xs us Q I r h
  obtain ⟨x, d, rfl, hd, hs, hnd, hdep, hsz, q⟩ := h
  obtain ⟨u, rfl, r1⟩ := vals1 r
  obtain ⟨as, rd⟩ := Dp.reads I d x u hd r1
  cases hd with
  | non => cases r1; exact P.repr_of_none ⟨.str _, H, I.tok _, ⟨_, rfl⟩, q⟩
  | bl b => cases r1; exact P.repr_of_bool ⟨.str _, H, I.tok _, ⟨_, rfl⟩, q⟩
  | int i =>
    obtain ⟨t, rfl⟩ := r1
    exact P.repr_of_int (of_decide_eq_true hs) ⟨.str _, H, I.tok _, ⟨_, rfl⟩, q⟩
  | str z =>
    obtain ⟨t, rfl⟩ := r1
    exact P.repr_of_str ⟨.str _, H, I.tok _, ⟨_, rfl⟩, q⟩ hsz
  | lst h1 h2 =>
    cases r1
    exact repr_of_reads' rd hs (PyData.noDict_hsm hnd) hG (by have := hr.units; omega) (fun _ _ e => e)
      (fun h' u tk hk => ⟨.str _, H, I.kept hk, ⟨_, rfl⟩, q⟩) hsz
  | tup h1 h2 =>
    cases r1
    exact repr_of_reads' rd hs (PyData.noDict_hsm hnd) hG (by have := hr.units; omega) (fun _ _ e => e)
      (fun h' u tk hk => ⟨.str _, H, I.kept hk, ⟨_, rfl⟩, q⟩) hsz
end Gl

set_option Elab.async false
set_option maxRecDepth 100000
set_option maxHeartbeats 4000000
set_option linter.all false
/-! the stepper's lemmas: one a reading -/
namespace Gl
open PySem PySem.Spec L2
section
variable {σ : L2.St} {H H' : Hp} {Q : VK} {QT : Bool → Hp → Prop} {QA : List V → Hp → Prop} {v x y z : V} {te ta tb tc : TE} {tt tu : TT} {aa ar : TA}
  {t u : TS} {g : TG} {gs : TGs} {nx : L2.St → Hp → Prop} {rt : VK} {bk ct : L2.St → Hp → Prop} {i j : Nat} {r r' : R2} {K : PySem.W.Frag} {a d : Addr} {xs : List V} {b : Bool} {m n : Int}
theorem at_0 {x : V} {xs : List V} : atI (x :: xs) 0 = some x := atI_nat (j := 0) rfl
theorem at_1 {x y : V} {xs : List V} : atI (x :: y :: xs) 1 = some y := atI_nat (j := 1) rfl
theorem at_2 {x y z : V} {xs : List V} : atI (x :: y :: z :: xs) 2 = some z := atI_nat (j := 2) rfl
theorem at_3 {x y z w : V} {xs : List V} : atI (x :: y :: z :: w :: xs) 3 = some w := atI_nat (j := 3) rfl
theorem ix_0 {n : Nat} : ixN (n + 1) 0 = some 0 := by unfold ixN; rw [if_pos (by omega), if_pos (by omega)]; rfl
theorem ix_1 {n : Nat} : ixN (n + 2) 1 = some 1 := by unfold ixN; rw [if_pos (by omega), if_pos (by omega)]; rfl
theorem ix_2 {n : Nat} : ixN (n + 3) 2 = some 2 := by unfold ixN; rw [if_pos (by omega), if_pos (by omega)]; rfl
/-- statements -/
theorem r_seq (h : t ⟨u ⟨nx, rt, bk, ct⟩, rt, bk, ct⟩ σ H) : tSeq t u ⟨nx, rt, bk, ct⟩ σ H := h
theorem r_next (h : nx σ H) : tNext ⟨nx, rt, bk, ct⟩ σ H := h
theorem r_brk (h : bk σ H) : tBreak ⟨nx, rt, bk, ct⟩ σ H := h
theorem r_cont (h : ct σ H) : tCont ⟨nx, rt, bk, ct⟩ σ H := h
theorem r_asg (h : te σ H fun x H1 => g x σ H1 nx) : tAsg te g ⟨nx, rt, bk, ct⟩ σ H := h
theorem r_ret (h : te σ H rt) : tRet te ⟨nx, rt, bk, ct⟩ σ H := h
theorem r_retN (h : rt .non H) : tRetN ⟨nx, rt, bk, ct⟩ σ H := h
theorem r_drop (h : te σ H fun _ H1 => nx σ H1) : tDrop te ⟨nx, rt, bk, ct⟩ σ H := h
theorem r_if (h : tt σ H fun b H1 => if b = true then t ⟨nx, rt, bk, ct⟩ σ H1 else u ⟨nx, rt, bk, ct⟩ σ H1) : tIfS tt t u ⟨nx, rt, bk, ct⟩ σ H := h
theorem r_par (h : aa σ H fun vs H1 => ∃ v w, vs = [v, w] ∧ nx ((σ.set i (some v)).set j (some w)) H1) : tPar i j aa ⟨nx, rt, bk, ct⟩ σ H := h
/-- targets -/
theorem r_gname {k : L2.St → Hp → Prop} (h : k (σ.set i (some v)) H) : gName i v σ H k := h
theorem r_gnil {k : L2.St → Hp → Prop} (h : k σ H) : gNil [] σ H k := ⟨rfl, h⟩
theorem r_gcons {k : L2.St → Hp → Prop} (h : g v σ H fun σ' H' => gs xs σ' H' k) : gCons g gs (v :: xs) σ H k := ⟨v, xs, rfl, h⟩
theorem r_gtup {k : L2.St → Hp → Prop} (hs : SqT K H a xs) (hl : xs.length = i) (h : gs xs σ H k) : gTup K i gs (.ref a) σ H k := ⟨a, xs, rfl, hs, hl, h⟩
theorem r_gsub {k : L2.St → Hp → Prop} {ts : TSet} (h : ta σ H fun o H1 => tb σ H1 fun i H2 => ts o i v H2 fun H3 => k σ H3) : gSub ta tb ts v σ H k := h
theorem r_setL {k : Hp → Prop} (hp : H a = some (.lst xs)) (hj : ixN xs.length m = some j) (h : k (upd H a (.lst (xs.set j v)))) : rSetL (.ref a) (.int m) v H k :=
  ⟨a, xs, m, j, rfl, rfl, hp, hj, h⟩
/-- expressions -/
theorem r_var (e : σ[i]? = some (some v)) (h : Q v H) : tVar i σ H Q := ⟨v, e, h⟩
theorem r_c (h : Q v H) : tC v σ H Q := h
theorem r_op (h : ta σ H fun x H1 => tb σ H1 fun y H2 => r x y H2 Q) : tOp r ta tb σ H Q := h
theorem r_un {ru : V → Hp → VK → Prop} (h : ta σ H fun x H1 => ru x H1 Q) : tUn ru ta σ H Q := h
theorem r_i0 {f : Int → Int → V} (h : Q (f m n) H) : rI0 f (.int m) (.int n) H Q := ⟨m, n, rfl, rfl, h⟩
theorem r_i {f : Int → Int → V} {C : Int → Int → Prop} (hc : C m n) (h : Q (f m n) H) : rI C f (.int m) (.int n) H Q := ⟨m, n, rfl, rfl, hc, h⟩
theorem r_u {f : Int → V} (h : Q (f m) H) : rU f (.int m) H Q := ⟨m, rfl, h⟩
theorem r_eq (hs : scal x y = true) (h : Q (.bl (decide (x = y))) H) : rEq x y H Q := ⟨hs, h⟩
theorem r_ne (hs : scal x y = true) (h : Q (.bl (!decide (x = y))) H) : rNe x y H Q := ⟨hs, h⟩
theorem r_ixL (hs : SqL K H a xs) (hi : atI xs m = some v) (h : Q v H) : rIxL K (.ref a) (.int m) H Q := ⟨a, xs, m, v, rfl, rfl, hs, hi, h⟩
theorem r_ixT (hs : SqT K H a xs) (hi : atI xs m = some v) (h : Q v H) : rIxT K (.ref a) (.int m) H Q := ⟨a, xs, m, v, rfl, rfl, hs, hi, h⟩
theorem r_chain (h : ta σ H fun x H1 => tb σ H1 fun y H2 => r x y H2 fun z H3 => ∃ k, z = .bl k ∧ (if k = true then tc σ H3 fun w' H4 => r' y w' H4 Q else Q (.bl false) H3)) :
    tChain r r' ta tb tc σ H Q := h
theorem r_andV (h : ta σ H fun x H1 => ∃ c, x = .bl c ∧ if c = true then tb σ H1 Q else Q (.bl false) H1) : tAndV ta tb σ H Q := h
theorem r_orV (h : ta σ H fun x H1 => ∃ c, x = .bl c ∧ if c = true then Q (.bl true) H1 else tb σ H1 Q) : tOrV ta tb σ H Q := h
theorem r_notV (h : ta σ H fun x H1 => ∃ c, x = .bl c ∧ Q (.bl (!c)) H1) : tNotV ta σ H Q := h
theorem r_ifE (h : tt σ H fun c H1 => if c = true then ta σ H1 Q else tb σ H1 Q) : tIf tt ta tb σ H Q := h
abbrev newT (xs : List V) (H : Hp) (Q : VK) : Prop := xs.length ≤ sizeLine ∧ ∀ p, H p = none → Q (.ref p) (upd H p (.tup xs))
abbrev newL (xs : List V) (H : Hp) (Q : VK) : Prop := xs.length ≤ sizeLine ∧ ∀ p, H p = none → Q (.ref p) (upd H p (.lst xs))
theorem r_tup (h : aa σ H fun xs H1 => newT xs H1 Q) : tTup aa σ H Q := h
theorem r_lst (h : aa σ H fun xs H1 => newL xs H1 Q) : tLst aa σ H Q := h
theorem newS {p : Addr} {o : HO} (h : H p = none) : Same H (upd H p o) := fun c o' e => (upd_ne (ne_of_none e h)).trans e
/-- a new object: all that was stands, and it stands -/
theorem r_newT (hl : xs.length ≤ sizeLine) (h : ∀ p H', H p = none → Same H H' → H' p = some (.tup xs) → Q (.ref p) H') : newT xs H Q := ⟨hl, fun p hp => h p _ hp (newS hp) upd_same⟩
theorem r_newL (hl : xs.length ≤ sizeLine) (h : ∀ p H', H p = none → Same H H' → H' p = some (.lst xs) → Q (.ref p) H') : newL xs H Q := ⟨hl, fun p hp => h p _ hp (newS hp) upd_same⟩
theorem r_disp1 {k : Key} (hk : kV k = x) (h : ∀ p H', H p = none → Same H H' → H' p = some (.dK (mergeK [] [(k, v)])) → Q (.ref p) H') : tDisp [(tC x, tC v)] σ H Q :=
  fun p hp => ⟨upd_same, [(k, v)], by rw [← hk]; rfl, (by show 1 ≤ 15; decide), by rw [upd_upd]; exact h p _ hp (newS hp) upd_same⟩
theorem r_dnew (h : ∀ p H', H p = none → Same H H' → H' p = some (.dK []) → Q (.ref p) H') : tDNewK σ H Q := fun p hp => h p _ hp (newS hp) upd_same
theorem pairs_c : ∀ (kvs : List (Key × V)) {R : List (V × V) → Hp → Prop}, R (kvs.map fun kv => (kV kv.1, kv.2)) H → tPairs (kvs.map fun kv => (tC (kV kv.1), tC kv.2)) σ H R
  | [], _, h => h
  | kv :: r, R, h => pairs_c r (R := fun xs H' => R ((kV kv.1, kv.2) :: xs) H') h
theorem r_dispC {trs : List (TE × TE)} (kvs : List (Key × V)) (e : trs = kvs.map fun kv => (tC (kV kv.1), tC kv.2)) (hl : kvs.length ≤ 15)
    (h : ∀ p H', H p = none → Same H H' → H' p = some (.dK (mergeK [] kvs)) → Q (.ref p) H') : tDisp trs σ H Q := by
  subst e
  intro p hp
  refine pairs_c kvs ⟨upd_same, kvs, rfl, hl, ?_⟩
  rw [upd_upd]
  exact h p _ hp (newS hp) upd_same
theorem r_isB {b c : Bool} (h : Q (.bl (decide (b = c))) H) : rIsB (.bl b) (.bl c) H Q := ⟨b, c, rfl, rfl, h⟩
theorem r_notB {b c : Bool} (h : Q (.bl (!decide (b = c))) H) : rNotB (.bl b) (.bl c) H Q := ⟨b, c, rfl, rfl, h⟩
/-- values without the rest -/
theorem v_and {c b : Bool} (ha : Val ta σ H (.bl c)) (hb : c = true → Val tb σ H (.bl b)) (h : Q (.bl (c && b)) H) : tAndV ta tb σ H Q := by
  refine ha _ ⟨c, rfl, ?_⟩
  cases c with
  | true => exact iteT (hb rfl _ h)
  | false => exact iteF h
theorem v_or {c b : Bool} (ha : Val ta σ H (.bl c)) (hb : c = false → Val tb σ H (.bl b)) (h : Q (.bl (c || b)) H) : tOrV ta tb σ H Q := by
  refine ha _ ⟨c, rfl, ?_⟩
  cases c with
  | true => exact iteT h
  | false => exact iteF (hb rfl _ h)
theorem t_or {c b : Bool} (ha : Ans tt σ H c) (hb : c = false → Ans tu σ H b) (h : QT (c || b) H) : tOr tt tu σ H QT := by
  refine ha _ ?_
  cases c with
  | true => exact iteT h
  | false => exact iteF (hb rfl _ h)
theorem t_and {c b : Bool} (ha : Ans tt σ H c) (hb : c = true → Ans tu σ H b) (h : QT (c && b) H) : tAnd tt tu σ H QT := by
  refine ha _ ?_
  cases c with
  | true => exact iteT (hb rfl _ h)
  | false => exact iteF h
theorem v_if {c : Bool} (ht : Ans tt σ H c) (ha : c = true → Val ta σ H v) (hb : c = false → Val tb σ H v) (h : Q v H) : tIf tt ta tb σ H Q := by
  refine ht _ ?_
  cases c with
  | true => exact iteT (ha rfl _ h)
  | false => exact iteF (hb rfl _ h)
/-- == and != of data -/
theorem r_eqDT {e : PyData} (h1 : Dp K H x e) (h2 : Dp K H y e) (hs : SeqAt.shaped e = true) (h : Q (.bl true) H) : rEqD K x y H Q := by
  have hc : e.canLay0 = true := by
    unfold SeqAt.shaped at hs
    rw [Bool.and_eq_true] at hs
    exact hs.1
  refine ⟨e, e, h1, h2, hs, hs, ?_⟩
  rw [SeqAt.eqv_refl e hc]
  exact h
theorem r_neDF {e : PyData} (h1 : Dp K H x e) (h2 : Dp K H y e) (hs : SeqAt.shaped e = true) (h : Q (.bl false) H) : rNeD K x y H Q := by
  have hc : e.canLay0 = true := by
    unfold SeqAt.shaped at hs
    rw [Bool.and_eq_true] at hs
    exact hs.1
  refine ⟨e, e, h1, h2, hs, hs, ?_⟩
  rw [SeqAt.eqv_refl e hc]
  exact h
/-- repr of data -/
theorem r_repr (e : PyData) (hd : Dp K H x e) (hs : e.showable = true) (hn : e.hasDict = false) (hp : e.depth ≤ 30) (hl : e.shown.length ≤ sizeLine) (h : Q (.str e.shown) H) : rReprD K [x] H Q :=
  ⟨x, e, rfl, hd, hs, hn, hp, hl, h⟩
theorem r_cb {rc : List V → Hp → VK → Prop} (h : aa σ H fun vs H1 => rc vs H1 Q) : tCB rc aa σ H Q := h
theorem r_call {sp : Sp} {dvs : List V} {E : XK} (h : aa σ H fun vs H1 => sp (vs ++ dvs) H1 Q E) : tCall sp dvs E aa σ H Q := h
theorem r_bm {T : String} {rm : V → List V → Hp → VK → Prop} (h : te σ H fun x H1 => tyV K T x H1 ∧ aa σ H1 fun xs H2 => rm x xs H2 Q) : tBM K T rm te aa σ H Q := h
theorem r_bm0 {T : String} {rm : V → List V → Hp → VK → Prop} (h : te σ H fun x H1 => tyV K T x H1 ∧ rm x [] H1 Q) : tBM0 K T rm te σ H Q := h
theorem r_nil (h : QA [] H) : tNil σ H QA := h
theorem r_cons (h : te σ H fun x H1 => aa σ H1 fun xs H2 => QA (x :: xs) H2) : tCons te aa σ H QA := h
/-- tests -/
theorem r_test (h : te σ H fun x H' => ∃ k, x = .bl k ∧ QT k H') : tTest te σ H QT := h
theorem r_B (h : te σ H fun x H' => ∃ k, x = .bl k ∧ QT k H') : tB te σ H QT := h
theorem r_and (h : tt σ H fun c H1 => if c = true then tu σ H1 QT else QT false H1) : tAnd tt tu σ H QT := h
theorem r_or (h : tt σ H fun c H1 => if c = true then QT true H1 else tu σ H1 QT) : tOr tt tu σ H QT := h
theorem r_not (h : tt σ H fun c H1 => QT (!c) H1) : tNot tt σ H QT := h
/-- len -/
theorem r_lenL (hs : SqL K H a xs) (h : Q (.int xs.length) H) : rLen K [V.ref a] H Q := ⟨_, _, rfl, .inl ⟨xs, hs, rfl⟩, h⟩
theorem r_lenT (hs : SqT K H a xs) (h : Q (.int xs.length) H) : rLen K [V.ref a] H Q := ⟨_, _, rfl, .inr ⟨xs, hs, rfl⟩, h⟩
theorem r_lenS {s : Str} (hs : s.length ≤ sizeLine) (h : Q (.int s.length) H) : rLen K [V.str s] H Q := ⟨_, _, rfl, ⟨hs, rfl⟩, h⟩
theorem r_yes (h : QT true H) : tYes σ H QT := h
theorem r_wipe {vs : List Nat} {p : Prop} {σ' : L2.St} (e : wipe σ' vs = wipe σ vs) (h : p) : wipe σ' vs = wipe σ vs ∧ p := ⟨e, h⟩
/-- answers -/
theorem e_i {p : Int → Prop} (h : p m) : ∃ j, [V.int m] = [.int j] ∧ p j := ⟨m, rfl, h⟩
theorem e_b {p : Bool → Prop} (h : p b) : ∃ j, [V.bl b] = [.bl j] ∧ p j := ⟨b, rfl, h⟩
theorem e_s {p : Str → Prop} {s : Str} (h : p s) : ∃ j, [V.str s] = [.str j] ∧ p j := ⟨s, rfl, h⟩
theorem e_ii {p : Int → Int → Prop} (h : p m n) : ∃ i j, [V.int m, V.int n] = [.int i, .int j] ∧ p i j := ⟨m, n, rfl, h⟩
theorem e_vv {p : V → V → Prop} (h : p x y) : ∃ i j, [x, y] = [i, j] ∧ p i j := ⟨x, y, rfl, h⟩
theorem e_vvv {p : V → V → V → Prop} (h : p x y z) : ∃ i j l, [x, y, z] = [i, j, l] ∧ p i j l := ⟨x, y, z, rfl, h⟩
theorem e_ss {p : Str → Str → Prop} {s s' : Str} (h : p s s') : ∃ i j, V.str s = .str i ∧ V.str s' = .str j ∧ p i j := ⟨s, s', rfl, rfl, h⟩
theorem e_cs {p : Nat → Str → Prop} {c : Nat} {s' : Str} (h : p c s') : ∃ c' j, V.str ⟨#[c]⟩ = .str ⟨#[c']⟩ ∧ V.str s' = .str j ∧ p c' j := ⟨c, s', rfl, rfl, h⟩
theorem e_or1 {p q : Prop} (h : p) : p ∨ q := Or.inl h
theorem e_oi {p : Int → Prop} {q : Prop} (h : p m) : (∃ j, [V.int m] = [.int j] ∧ p j) ∨ q := Or.inl ⟨m, rfl, h⟩
theorem e_ob {p : Bool → Prop} {q : Prop} (h : p b) : q ∨ ∃ j, [V.bl b] = [.bl j] ∧ p j := Or.inr ⟨b, rfl, h⟩
theorem r_bl {p : Bool → Prop} (h : p b) : ∃ k, V.bl b = .bl k ∧ p k := ⟨b, rfl, h⟩
end
/-! ### kinds of values -/
inductive Knd (K : PySem.W.Frag) (H : Hp) : V → String → Prop
  | non : Knd K H .non "NoneType"
  | bl (b : Bool) : Knd K H (.bl b) "bool"
  | int (i : Int) : Knd K H (.int i) "int"
  | str (x : Str) : Knd K H (.str x) "str"
  | lst {a : Addr} {xs : List V} (e : SqL K H a xs) : Knd K H (.ref a) "list"
  | tup {a : Addr} {xs : List V} (e : SqT K H a xs) : Knd K H (.ref a) "tuple"
  | dK {a : Addr} {kvs : List (Key × V)} (e : H a = some (.dK kvs)) : Knd K H (.ref a) "dict"
  | dF {a : Addr} {o : Obj} {kvs : List (Key × V)} (e : H a = some (.frz o (.dK kvs))) : Knd K H (.ref a) "dict"
theorem Knd.ty {K : PySem.W.Frag} {H : Hp} {v : V} {n : String} (h : Knd K H v n) : TyX K H v (.type n) := by
  cases h with
  | non => exact .base .non
  | bl b => exact .base (.bl b)
  | int i => exact .base (.int i)
  | str x => exact .base (.str x)
  | lst e =>
    rcases e with (e | ⟨o, e⟩) | ⟨o, its, n, e, c, _⟩
    · exact .base (.lst e)
    · exact .base (.frz e)
    · exact .kList e c
  | tup e =>
    rcases e with (e | ⟨o, e⟩) | ⟨o, its, n, e, c, _⟩
    · exact .base (.tup e)
    · exact .fTuple e
    · exact .kTuple e c
  | dK e => exact .base (.dK e)
  | dF e => exact .fDict e
theorem rdS {H H' : Hp} {a : Addr} {u : HO} (s : Same H H') (h : Rd H a u) : Rd H' a u := by
  rcases h with h | ⟨o, h⟩
  · exact Or.inl (s _ _ h)
  · exact Or.inr ⟨o, s _ _ h⟩
theorem sqTS {K : PySem.W.Frag} {H H' : Hp} {a : Addr} {xs : List V} (s : Same H H') (h : SqT K H a xs) : SqT K H' a xs := h.elim (fun h => Or.inl (rdS s h)) Or.inr
theorem sqLS {K : PySem.W.Frag} {H H' : Hp} {a : Addr} {xs : List V} (s : Same H H') (h : SqL K H a xs) : SqL K H' a xs := h.elim (fun h => Or.inl (rdS s h)) Or.inr
theorem Knd.same {K : PySem.W.Frag} {H H' : Hp} {v : V} {n : String} (s : Same H H') (h : Knd K H v n) : Knd K H' v n := by
  cases h with
  | non => exact .non
  | bl b => exact .bl b
  | int i => exact .int i
  | str x => exact .str x
  | lst e => exact .lst (sqLS s e)
  | tup e => exact .tup (sqTS s e)
  | dK e => exact .dK (s _ _ e)
  | dF e => exact .dF (s _ _ e)
def kinds : List String := ["NoneType", "bool", "int", "str", "list", "tuple", "dict"]
def asked : List String := ["bool", "int", "str", "list", "tuple", "dict"]
def isKind (n c : String) : Bool := n == c || (n == "bool" && c == "int")
theorem kit_all : ∀ n ∈ kinds, ∀ c ∈ asked, kitB n c = some (isKind n c) := by decide +kernel
theorem Knd.mem {K : PySem.W.Frag} {H : Hp} {v : V} {n : String} (h : Knd K H v n) : n ∈ kinds := by cases h <;> decide
theorem r_isiB {K : PySem.W.Frag} {H : Hp} {v : V} {n c : String} {Q : VK} {b : Bool} (hk : Knd K H v n) (hc : c ∈ asked) (hb : isKind n c = b) (h : Q (.bl b) H) : rIsi K [v, .ty c] H Q :=
  ⟨v, .ty c, .type n, .type c, b, rfl, .ty c, hk.ty, kit_ty (hb ▸ kit_all n hk.mem c hc), h⟩
theorem r_isiT {K : PySem.W.Frag} {H : Hp} {v : V} {n c : String} {Q : VK} (hk : Knd K H v n) (hc : c ∈ asked) (hb : isKind n c = true) (h : Q (.bl true) H) : rIsi K [v, .ty c] H Q := r_isiB hk hc hb h
theorem r_isiF {K : PySem.W.Frag} {H : Hp} {v : V} {n c : String} {Q : VK} (hk : Knd K H v n) (hc : c ∈ asked) (hb : isKind n c = false) (h : Q (.bl false) H) : rIsi K [v, .ty c] H Q := r_isiB hk hc hb h
def partK (x : V) (H : Hp) (Q : Option Int → Hp → Prop) : Prop := ∃ i, x = .int i ∧ Q (some i) H
/-- methods of lists -/
theorem r_tyL {K : PySem.W.Frag} {H : Hp} {a : Addr} {xs : List V} {p : Prop} (hs : SqL K H a xs) (h : p) : tyV K "list" (.ref a) H ∧ p := ⟨.inl ⟨rfl, xs, hs⟩, h⟩
theorem r_app {H : Hp} {a : Addr} {xs : List V} {v : V} {Q : VK} (hl : H a = some (.lst xs)) (hz : xs.length < sizeLine) (h : Q .non (upd H a (.lst (xs ++ [v])))) : rAppend (.ref a) [v] H Q := ⟨a, xs, v, rfl, rfl, hl, hz, h⟩
theorem r_popAt {H : Hp} {a : Addr} {xs : List V} {i : Int} {Q : VK} (hl : H a = some (.lst xs)) (h0 : 0 ≤ i) (hi : i < xs.length) (hm : xs.length ≤ 1000000) (h : ∀ y k, xs[k]? = some y → Q y (upd H a (.lst (xs.eraseIdx k)))) : rPopAt (.ref a) [.int i] H Q := by
  have hk : i.toNat < xs.length := by omega
  refine ⟨a, xs, i, i.toNat, xs[i.toNat], rfl, rfl, hl, by omega, by omega, ?_, by simp [hk], h _ _ (by simp [hk])⟩
  show (if (decide (0 ≤ (if i < 0 then i + (xs.length : Int) else i)) && decide ((if i < 0 then i + (xs.length : Int) else i) < (xs.length : Int))) = true then some (if i < 0 then i + (xs.length : Int) else i).toNat else none) = _
  rw [if_neg (by omega : ¬ i < 0), decide_eq_true h0, decide_eq_true hi]
  rfl
theorem r_start {N : List Str} {vs : List V} {σ : L2.St} {t : TS} {D : Ends} {H : Hp} (e : start N vs = σ) (h : t D σ H) : t D (start N vs) H := e ▸ h
/-- lists put together, repeated -/
theorem r_cat {H : Hp} {a b : Addr} {xs ys : List V} {Q : VK} (h1 : H a = some (.lst xs)) (h2 : H b = some (.lst ys)) (hz : xs.length + ys.length ≤ sizeLine) (h : ∀ p H', H p = none → Same H H' → H' p = some (.lst (xs ++ ys)) → Q (.ref p) H') : rCat (.ref a) (.ref b) H Q :=
  ⟨a, b, xs, ys, rfl, rfl, h1, h2, hz, fun p hp => h p _ hp (fun c o' e => (upd_ne (ne_of_none e hp)).trans e) upd_same⟩
theorem r_rep {H : Hp} {a : Addr} {xs : List V} {k : Int} {Q : VK} (h1 : H a = some (.lst xs)) (h2 : 0 ≤ k) (h3 : k ≤ 1000) (h4 : xs.length ≤ 1000) (h : ∀ p H', H p = none → Same H H' → H' p = some (.lst (List.replicate k.toNat xs).flatten) → Q (.ref p) H') : rRep (.ref a) (.int k) H Q := by
  have hz : xs.length * k.toNat ≤ 1000 * 1000 := Nat.mul_le_mul h4 (by omega)
  exact ⟨a, k, xs, rfl, rfl, h1, by omega, by omega, Nat.le_trans hz (by decide), fun p hp => h p _ hp (fun c o' e => (upd_ne (ne_of_none e hp)).trans e) upd_same⟩
section
variable {K : PySem.W.Frag} {H : Hp} {σ : L2.St} {Q : VK} {a : Addr} {xs : List V} {te : TE} {lo hi : Option Int} {to tu : TO} {QO : Option Int → Hp → Prop}
theorem r_sl {r : V → Option Int → Option Int → Hp → VK → Prop} (h : te σ H fun x H1 => to σ H1 fun l H2 => tu σ H2 fun u H3 => r x l u H3 Q) : tSl r te to tu σ H Q := h
theorem r_noPart (h : QO none H) : tNoPart σ H QO := h
theorem r_part (h : te σ H fun x H1 => partK x H1 QO) : tPart te σ H QO := h
theorem r_partK {i : Int} (h : QO (some i) H) : partK (.int i) H QO := ⟨i, rfl, h⟩
theorem r_slL (hs : SqL K H a xs) (h : ∀ p H', H p = none → Same H H' → H' p = some (.lst (cutV xs lo hi)) → Q (.ref p) H') : rSlL K (.ref a) lo hi H Q :=
  ⟨a, xs, rfl, hs, fun p hp => h p _ hp (fun c o' e => (upd_ne (ne_of_none e hp)).trans e) upd_same⟩
theorem cut_to (xs : List V) (n : Nat) : cutV xs none (some (n : Int)) = xs.take n := by
  unfold cutV
  rw [HT.sIx_nat, HT.sIx_none, List.drop_zero, Nat.sub_zero]
  by_cases h : n ≤ xs.length
  · rw [Nat.min_eq_left h]
  · rw [Nat.min_eq_right (by omega), List.take_length, List.take_of_length_le (by omega)]
theorem cut_from (xs : List V) (n : Nat) : cutV xs (some (n : Int)) none = xs.drop n := by
  unfold cutV
  rw [HT.sIx_nat, HT.sIx_none]
  by_cases h : n ≤ xs.length
  · rw [Nat.min_eq_left h, List.take_of_length_le (by rw [List.length_drop]; omega)]
  · rw [Nat.min_eq_right (by omega), Nat.sub_self, List.take_zero, List.drop_of_length_le (by omega)]
end
theorem iteNF {A B : Prop} (h : A) : if (!false) = true then A else B := iteT h
theorem iteNT {A B : Prop} (h : B) : if (!true) = true then A else B := iteF h
theorem r_it2 {c : Bool} {A B : Prop} (h1 : c = true → A) (h2 : c = false → B) : if c = true then A else B := by
  cases c with
  | true => exact iteT (h1 rfl)
  | false => exact iteF (h2 rfl)
/-! ### loops -/
/-- what is asked of a loop once its walked thing stands -/
def forK (J : It) (g : TG) (tb : TS) (D : Ends) (σ : L2.St) (H : Hp) : Prop := tFor (fun _ H R => R J H) g tb D σ H
def lcK (J : It) (g : TG) (tt : TT) (te : TE) (vs : List Nat) (Q : VK) (σ : L2.St) (H : Hp) : Prop := tLc (fun _ H R => R J H) g tt te vs σ H Q
section
variable {σ : L2.St} {H : Hp} {Q : VK} {wi : TI} {g : TG} {tb : TS} {D : Ends} {J : It} {R : It → Hp → Prop} {ta : TA} {te tl : TE} {tt : TT} {vs : List Nat} {K : PySem.W.Frag} {a : Addr} {xs : List V}
  {nx : L2.St → Hp → Prop} {rt : VK} {bk ct : L2.St → Hp → Prop} {n : Nat} {G : Hp → Prop} {Y : Nat → Hp → V → Hp → Prop}
theorem r_for (h : wi σ H fun J H1 => forK J g tb D σ H1) : tFor wi g tb D σ H := h
theorem r_lc (h : wi σ H fun J H1 => lcK J g tt te vs Q σ H1) : tLc wi g tt te vs σ H Q := h
def rng1K (vs : List V) (H : Hp) (R : It → Hp → Prop) : Prop := ∃ j : Int, vs = [.int j] ∧ -(2 ^ 62) ≤ j ∧ j < 2 ^ 62 ∧ R (Itr 0 j.toNat) H
def rng2K (vs : List V) (H : Hp) (R : It → Hp → Prop) : Prop := ∃ i j : Int, vs = [.int i, .int j] ∧ (-(2 ^ 62) ≤ i ∧ i < 2 ^ 62 ∧ -(2 ^ 62) ≤ j ∧ j < 2 ^ 62) ∧ R (Itr i (j - i).toNat) H
theorem r_rng1 (h : ta σ H fun vs H1 => rng1K vs H1 R) : iRng1 ta σ H R := h
theorem r_rng2 (h : ta σ H fun vs H1 => rng2K vs H1 R) : iRng2 ta σ H R := h
theorem r_rng1k {j : Int} (h1 : -(2 ^ 62) ≤ j) (h2 : j < 2 ^ 62) (h : R (Itr 0 j.toNat) H) : rng1K [.int j] H R := ⟨j, rfl, h1, h2, h⟩
theorem r_rng2k {i j : Int} (h1 : -(2 ^ 62) ≤ i) (h2 : i < 2 ^ 62) (h3 : -(2 ^ 62) ≤ j) (h4 : j < 2 ^ 62) (h : R (Itr i (j - i).toNat) H) : rng2K [.int i, .int j] H R := ⟨i, j, rfl, ⟨h1, h2, h3, h4⟩, h⟩
def iterLK (K : PySem.W.Frag) (x : V) (H : Hp) (R : It → Hp → Prop) : Prop := ∃ a, x = .ref a ∧ (∃ xs, SqL K H a xs) ∧ R (Itl K a) H
def iterTK (K : PySem.W.Frag) (x : V) (H : Hp) (R : It → Hp → Prop) : Prop := ∃ a, x = .ref a ∧ (∃ xs, SqT K H a xs) ∧ R (Itt K a) H
theorem r_iList (h : tl σ H fun x H1 => iterLK K x H1 R) : iList K tl σ H R := h
theorem r_iTup (h : tl σ H fun x H1 => iterTK K x H1 R) : iTup K tl σ H R := h
theorem r_iLk (hs : SqL K H a xs) (h : R (Itl K a) H) : iterLK K (.ref a) H R := ⟨a, rfl, ⟨xs, hs⟩, h⟩
theorem r_iTk (hs : SqT K H a xs) (h : R (Itt K a) H) : iterTK K (.ref a) H R := ⟨a, rfl, ⟨xs, hs⟩, h⟩
def iterSK (x : V) (H : Hp) (R : It → Hp → Prop) : Prop := ∃ z, x = .str z ∧ R (Its z) H
theorem r_iStr (h : tl σ H fun x H1 => iterSK x H1 R) : iStr tl σ H R := h
theorem r_iSk {z : Str} (h : R (Its z) H) : iterSK (.str z) H R := ⟨z, rfl, h⟩
theorem fk_it (w : Walk J n G Y) (Pv : Nat → L2.St → Hp → Prop) (h0 : Pv 0 σ H) (hG : ∀ i σ H, i ≤ n → Pv i σ H → G H)
    (hs : ∀ i x σ H H', i < n → Pv i σ H → Y i H x H' → g x σ H' fun σ2 H2 => tb ⟨Pv (i + 1), rt, nx, Pv (i + 1)⟩ σ2 H2) (hd : ∀ σ H, Pv n σ H → nx σ H) :
    forK J g tb ⟨nx, rt, bk, ct⟩ σ H := for_it w Pv h0 hG hs hd
theorem fk_rng {lo : Int} (Pv : Nat → L2.St → Hp → Prop) (h0 : Pv 0 σ H)
    (hs : ∀ i σ H, i < n → Pv i σ H → g (.int (lo + (i : Nat))) σ H fun σ2 H2 => tb ⟨Pv (i + 1), rt, nx, Pv (i + 1)⟩ σ2 H2) (hd : ∀ σ H, Pv n σ H → nx σ H) :
    forK (Itr lo n) g tb ⟨nx, rt, bk, ct⟩ σ H := fk_it walk_range Pv h0 (fun _ _ _ _ _ => trivial) (fun i x σ H H' hi p y => by
      obtain ⟨rfl, rfl⟩ := y
      exact hs i σ _ hi p) hd
theorem fk_list (Pv : Nat → L2.St → Hp → Prop) (h0 : Pv 0 σ H) (hl : ∀ i σ H, i ≤ xs.length → Pv i σ H → SqL K H a xs)
    (hs : ∀ i x σ H, xs[i]? = some x → Pv i σ H → g x σ H fun σ2 H2 => tb ⟨Pv (i + 1), rt, nx, Pv (i + 1)⟩ σ2 H2) (hd : ∀ σ H, Pv xs.length σ H → nx σ H) :
    forK (Itl K a) g tb ⟨nx, rt, bk, ct⟩ σ H := for_list Pv h0 hl hs hd
theorem fk_tup (Pv : Nat → L2.St → Hp → Prop) (h0 : Pv 0 σ H) (hl : ∀ i σ H, i ≤ xs.length → Pv i σ H → SqT K H a xs)
    (hs : ∀ i x σ H, xs[i]? = some x → Pv i σ H → g x σ H fun σ2 H2 => tb ⟨Pv (i + 1), rt, nx, Pv (i + 1)⟩ σ2 H2) (hd : ∀ σ H, Pv xs.length σ H → nx σ H) :
    forK (Itt K a) g tb ⟨nx, rt, bk, ct⟩ σ H := for_tup Pv h0 hl hs hd
def enumK (K : PySem.W.Frag) (vs : List V) (H : Hp) (R : It → Hp → Prop) : Prop := ∃ a xs, vs = [.ref a] ∧ SqL K H a xs ∧ R (Ite K a) H
theorem r_enum (h : ta σ H fun vs H1 => enumK K vs H1 R) : iEnum K ta σ H R := h
theorem r_enk (hs : SqL K H a xs) (h : R (Ite K a) H) : enumK K [.ref a] H R := ⟨a, xs, rfl, hs, h⟩
theorem fk_enum (Pv : Nat → L2.St → Hp → Prop) (h0 : Pv 0 σ H) (hl : ∀ i σ H, i ≤ xs.length → Pv i σ H → SqL K H a xs)
    (hs : ∀ i x σ H T H', xs[i]? = some x → Pv i σ H → H T = none → Same H H' → H' T = some (.tup [.int (i : Nat), x]) → g (.ref T) σ H' fun σ2 H2 => tb ⟨Pv (i + 1), rt, nx, Pv (i + 1)⟩ σ2 H2) (hd : ∀ σ H, Pv xs.length σ H → nx σ H) :
    forK (Ite K a) g tb ⟨nx, rt, bk, ct⟩ σ H := fk_it (walk_enum (xs := xs)) Pv h0 hl (fun i x σ H H' hi p y => by
      obtain ⟨T, x1, x2, rfl, hT, rfl, e1, e2⟩ := y
      cases e1
      exact hs i x2 σ H T _ e2 p hT (fun c o' e => (upd_ne (ne_of_none e hT)).trans e) upd_same) hd
/-- a comprehension: what is made so far stands at D -/
theorem lk_it (w : Walk J n G Y) (Pv : Addr → Nat → Hp → Prop) (h0 : ∀ D, H D = none → Pv D 0 (upd H D (.lst []))) (hG : ∀ D i H, i ≤ n → Pv D i H → G H)
    (hs : ∀ D i x H1 H', H D = none → i < n → Pv D i H1 → Y i H1 x H' → g x (wipe σ vs) H' fun σ2 H2 => wipe σ2 vs = wipe σ vs ∧ tt σ2 H2 fun b H3 =>
      if b = true then te σ2 H3 fun y H4 => ∃ acc, H4 D = some (.lst acc) ∧ acc.length < sizeLine ∧ Pv D (i + 1) (upd H4 D (.lst (acc ++ [y]))) else Pv D (i + 1) H3)
    (hd : ∀ D H1, H D = none → Pv D n H1 → Q (.ref D) H1) : lcK J g tt te vs Q σ H :=
  fun D hD => lc_it w (Pv D) (h0 D hD) (hG D) (fun i x H1 H' hi p y => hs D i x H1 H' hD hi p y) (fun H1 p => hd D H1 hD p)
end
theorem lk_ne {H : Hp} {a b : Addr} {o o' : HO} (n : b ≠ a) (h : H b = some o) : upd H a o' b = some o := (upd_ne n).trans h
theorem sameMut {H H1 : Hp} {p : Addr} {o : HO} (a : Same H H1) (h : H p = none) : Same H (upd H1 p o) := fun c u e => (upd_ne (ne_of_none e h)).trans (a c u e)
section
variable {K : PySem.W.Frag} {H : Hp} {σ : L2.St} {Q : VK} {a : Addr} {te : TE} {vs : List Nat}
/-- [e for x in xs], e without a trace: the list of its values -/
theorem lk_mapL {xs : List V} {j : Nat} (f : V → V) (hs : SqL K H a xs) (hl : xs.length ≤ 100000) (hw : ∀ x, wipe ((wipe σ vs).set j (some x)) vs = wipe σ vs)
    (he : ∀ x ∈ xs, ∀ H', Same H H' → Val te ((wipe σ vs).set j (some x)) H' (f x))
    (h : ∀ D H', H D = none → Same H H' → H' D = some (.lst (xs.map f)) → Q (.ref D) H') : lcK (Itl K a) (gName j) tYes te vs Q σ H := by
  refine lk_it (walk_list (xs := xs)) (fun D i H' => Same H H' ∧ H' D = some (.lst ((xs.take i).map f))) (fun D hD => ⟨fun c u e => (upd_ne (ne_of_none e hD)).trans e, upd_same⟩) (fun D i H' _ p => ?_) ?_ ?_
  · exact sqLS p.1 hs
  · rintro D i x H1 H2 hD hi ⟨sm, eD⟩ ⟨rfl, hx⟩
    refine ⟨hw x, r_yes (iteT ?_)⟩
    refine he x (List.mem_of_getElem? hx) _ sm _ ⟨_, eD, ?_, sameMut sm hD, ?_⟩
    · rw [List.length_map, List.length_take]
      exact Nat.lt_of_le_of_lt (Nat.le_trans (Nat.min_le_right _ _) hl) (by decide)
    · rw [upd_same, List.take_add_one, hx, List.map_append]
      rfl
  · rintro D H1 hD ⟨sm, eD⟩
    rw [List.take_length] at eD
    exact h D H1 hD sm eD
end
theorem Same.new {H : Hp} {p : Addr} {o : HO} (h : H p = none) : Same H (upd H p o) := fun c o' e => by
  rw [upd_ne (ne_of_none e h)]
  exact e
end Gl

set_option Elab.async false
set_option maxRecDepth 100000
set_option maxHeartbeats 4000000
set_option linter.all false
/-! the stepper's lemmas for classes with slots, dicts, membership -/
namespace Gl
open PySem PySem.Spec L2
theorem FnOk.pos {P : Program} {w : World} {K : PySem.W.Frag} {mg : Str → Option Value} {base : Heap} {CX : CXT} {k : Nat} {f : Addr} {fd : FuncData} {ps : List Str} {sp : Sp}
    (F : FnOk P w K mg base CX k f fd ps sp) (hb : Binds K fd ps []) : FnR P w K mg base CX k f sp :=
  (F.raw hb .nil).imp fun vs H Q E h => by rw [List.append_nil]; exact h
section
variable {K : PySem.W.Frag} {H : Hp} {σ : L2.St} {Q : VK} {a C dx p : Addr} {vs : List (Option V)} {f : Str} {i : Nat} {v x y : V} {ta tv te : TE} {aa : TA} {sp : Sp} {E : XK} {xs : List V}
  {nx : L2.St → Hp → Prop} {rt : VK} {bk ct : L2.St → Hp → Prop} {b : Bool}
def slGetK (K : PySem.W.Frag) (f : Str) (x : V) (H : Hp) (Q : VK) : Prop := ∃ a C dx p vs i v, x = .ref a ∧ SlX.Slt H a C dx vs ∧ SlX.SCls K C ∧ SlX.Slot1 K C f p i ∧ vs[i]? = some (some v) ∧ Q v H
theorem r_slE (h : ta σ H fun x H1 => slGetK K f x H1 Q) : SlX.tSl K ta f σ H Q := h
theorem r_slGet (h1 : SlX.Slt H a C dx vs) (h2 : SlX.SCls K C) (h3 : SlX.Slot1 K C f p i) (hv : vs[i]? = some (some v)) (h : Q v H) : slGetK K f (.ref a) H Q :=
  ⟨a, C, dx, p, vs, i, v, rfl, h1, h2, h3, hv, h⟩
def slSetK (K : PySem.W.Frag) (f : Str) (x y : V) (H : Hp) (R : Hp → Prop) : Prop := ∃ a C dx p vs i, x = .ref a ∧ SlX.Slt H a C dx vs ∧ SlX.SCls K C ∧ SlX.Slot1 K C f p i ∧ R (SlX.slH H a C dx (SlX.putS i y vs))
theorem r_slS (h : tv σ H fun y H1 => ta σ H1 fun x H2 => slSetK K f x y H2 fun H3 => nx σ H3) : SlX.sSl K ta tv f ⟨nx, rt, bk, ct⟩ σ H := h
theorem r_slSet {R : Hp → Prop} (h1 : SlX.Slt H a C dx vs) (h2 : SlX.SCls K C) (h3 : SlX.Slot1 K C f p i) (h : R (SlX.slH H a C dx (SlX.putS i y vs))) : slSetK K f (.ref a) y H R :=
  ⟨a, C, dx, p, vs, i, rfl, h1, h2, h3, h⟩
def methK (C : Addr) (x : V) (H : Hp) (p : Prop) : Prop := ∃ a dx vs, x = .ref a ∧ SlX.Slt H a C dx vs ∧ p
theorem r_methE (h : ta σ H fun x H1 => methK C x H1 (aa σ H1 fun ws H2 => sp (x :: ws) H2 Q E)) : SlX.tMethSl C sp E ta aa σ H Q := by
  show ta σ H fun x H1 => ∃ a dx vs, x = .ref a ∧ SlX.Slt H1 a C dx vs ∧ aa σ H1 fun ws H2 => sp (x :: ws) H2 Q E
  exact h
theorem r_meth {p : Prop} (h1 : SlX.Slt H a C dx vs) (h : p) : methK C (.ref a) H p := ⟨a, dx, vs, rfl, h1, h⟩
def propK (C : Addr) (sp : Sp) (E : XK) (x : V) (H : Hp) (Q : VK) : Prop := ∃ a dx vs, x = .ref a ∧ SlX.Slt H a C dx vs ∧ sp [.ref a] H Q E
theorem r_propE (h : ta σ H fun x H1 => propK C sp E x H1 Q) : SlX.tPropSl C sp E ta σ H Q := h
theorem r_prop (h1 : SlX.Slt H a C dx vs) (h : sp [.ref a] H Q E) : propK C sp E (.ref a) H Q := ⟨a, dx, vs, rfl, h1, h⟩
/-- C(..) -/
def makeK (C : Addr) (sp : Sp) (dvs : List V) (E : XK) (vs : List V) (H : Hp) (Q : VK) : Prop := tMake C sp dvs E (fun _ H R => R vs H) [] H Q
theorem r_makeE {dvs : List V} (h : aa σ H fun vs H1 => makeK C sp dvs E vs H1 Q) : tMake C sp dvs E aa σ H Q := h
/-- in -/
theorem r_inT (hs : SqT K H a xs) (hx : flatV x = true) (hf : xs.all flatV = true) (h : Q (.bl (inV x xs)) H) : rIn K false x (.ref a) H Q := ⟨a, xs, rfl, .inr hs, hx, hf, h⟩
theorem r_ninT (hs : SqT K H a xs) (hx : flatV x = true) (hf : xs.all flatV = true) (h : Q (.bl (!inV x xs)) H) : rIn K true x (.ref a) H Q := ⟨a, xs, rfl, .inr hs, hx, hf, h⟩
/-- d[k] -/
def dgetK (x y : V) (H : Hp) (Q : VK) : Prop := ∃ a v, x = .ref a ∧ DGet H a y (some v) ∧ Q v H
theorem r_dgetE (h : ta σ H fun x H1 => te σ H1 fun y H2 => dgetK x y H2 Q) : tDGet ta te σ H Q := h
theorem r_dget {kvs : List (Key × V)} {k : Key} (h1 : H a = some (.dK kvs)) (hk : kV k = y) (hv : valV kvs k = some v) (h : Q v H) : dgetK (.ref a) y H Q :=
  ⟨a, v, rfl, by rw [← hk, ← hv]; exact DGet.k h1, h⟩
theorem r_dgetS {kvs : List (Key × V)} {s : Str} (h1 : H a = some (.dK kvs)) (hv : valV kvs (Sum.inr s) = some v) (h : Q v H) : dgetK (.ref a) (.str s) H Q := r_dget (k := Sum.inr s) h1 rfl hv h
theorem r_dgetI {kvs : List (Key × V)} {n : Int} (h1 : H a = some (.dK kvs)) (hv : valV kvs (Sum.inl n) = some v) (h : Q v H) : dgetK (.ref a) (.int n) H Q := r_dget (k := Sum.inl n) h1 rfl hv h
/-- {k: e} -/
def dispK (p : Addr) (x y : V) (H2 : Hp) (Q : VK) : Prop := H2 p = some (.dK []) ∧ ∃ kvs : List (Key × V), [(x, y)] = kvs.map (fun kv => (kV kv.1, kv.2)) ∧ kvs.length ≤ 15 ∧ Q (.ref p) (upd H2 p (.dK (mergeK [] kvs)))
theorem r_dispE (h : ∀ p H1, H p = none → Same H H1 → H1 p = some (.dK []) → te σ H1 fun y H2 => dispK p x y H2 Q) : tDisp [(tC x, te)] σ H Q := fun p hp => h p _ hp (fun c o' e => (upd_ne (ne_of_none e hp)).trans e) upd_same
theorem r_dispk {s : Str} (e : H p = some (.dK [])) (h : Q (.ref p) (upd H p (.dK [(Sum.inr s, y)]))) : dispK p (.str s) y H Q := ⟨e, [(Sum.inr s, y)], rfl, (by show 1 ≤ 15; decide), h⟩
theorem sltS {H' : Hp} (s : Same H H') (h : SlX.Slt H a C dx vs) : SlX.Slt H' a C dx vs := by
  rcases h with ⟨h1, h2⟩ | ⟨h1, h2⟩
  · exact .inl ⟨s _ _ h1, h2⟩
  · exact .inr ⟨s _ _ h1, s _ _ h2⟩
end
/-- numbers that may be multiplied -/
def Sm (x : Int) : Prop := x.natAbs.log2 < 100000
theorem cmulS {i j : Int} (h1 : Sm i) (h2 : Sm j) : CMulA i j := Or.inr (by unfold CMulW; unfold Sm at h1 h2; omega)
theorem Sm.of {x : Int} {n : Nat} (h : x.natAbs < 2 ^ n) (h0 : 0 < n) (h2 : n ≤ 100000) : Sm x := Nat.lt_of_lt_of_le (PySem.Flt.log2_lt_of h0 h) h2
end Gl

set_option Elab.async false
set_option maxRecDepth 100000
set_option maxHeartbeats 4000000
set_option linter.all false
/-! own __len__, sets of few ints told by their size, a def that knows its code -/
namespace Gl
open PySem PySem.Spec PyProof.Rows L2
section
variable {P : Program} {w : World} {K : PySem.W.Frag} {mg : Str → Option Value} {base : Heap}
/-- the rule for a def whose body asks for its code's record (a set display) -/
theorem okC {x qual : Str} {st : Stmt} {f : Addr} {fd : FuncData} {N ps : List Str} {k : Nat} {sp : Sp}
    (F : Fun K x qual st f fd) (S : FnScope N ps (defScope st))
    (len : ∀ vs H Q E, sp vs H Q E → vs.length = ps.length)
    (body : ∀ (cdv : Value) (A : Around) (outer : List Env) (s : Shared) (H : Hp) (vs : List V) (Q : VK) (E : XK),
      PySem.W.kdsCode K cdv = true →
      Room k (A.deeper (envOfC qual (defScope st) s.heap.objs.size f cdv)) → sp vs H Q E →
      ∃ t, PSs (cxOf CX0 P w K mg base N qual (defScope st) f cdv A outer s H E).nox (defBody st) t ∧
        t { nx := fun _ H' => Q .non H', rt := Q } (start N vs) H) :
    FnOk P w K mg base CX0 (k + 1) f fd ps sp := by
  obtain ⟨oc, od, kV, doc, pm, an, cdv, ct, osl, rfl, lk, hcd⟩ := F.ex
  have hcode : PySem.W.kdsCode K cdv = true := by
    unfold PySem.W.codeIn at hcd
    unfold PySem.W.kdsCode
    split at hcd
    · split at hcd
      · rename_i e
        show (match (List.lookup _ K : Option Obj) with | some ⟨_, _, .fields _, _⟩ => true | _ => false) = true
        rw [e]
      · cases hcd
    · cases hcd
  refine ⟨len, ?_⟩
  intro A outer s H args us vs Q E hr e0 hb r hsp
  have hlen := len _ _ _ _ hsp
  have below : ∀ b o, base.get? b = some o → s.heap.get? b = some o := fun b o e => (e0.bs b o e).1
  have inK := e0.mod.kin.keeps below
  have nol := e0.mod.nolimit.keeps below
  have kinds : ∀ y ∈ ps.zip us, (defScope st).names.lookup y.1 = some .local ∨
      ((defScope st).names.lookup y.1 = some .cell ∧
        ((cellsFrom (s.heap.objs.size + 1) (defScope st).names []).lookup y.1).isSome = true) := by
    rintro ⟨n, v⟩ hy
    have hin := (List.of_mem_zip hy).1
    rcases S.par n hin with q | q
    · exact Or.inl q
    · exact Or.inr ⟨q, PySem.W.cellsFrom_some _ _ _ (Or.inl q)⟩
  refine codeAny_call_function hr.depth (inK _ _ lk) rfl S.co S.gen rfl
    (PySem.W.codeRec_of inK hcd) (hb _ _ _ _ ?_)
  refine wpAny_newFunctionEnv_cells S.kind kinds ?_
  intro env he s1 x
  subst he
  refine ⟨nol.keeps x.toInCall.keep, codeAny_func ?_⟩
  obtain ⟨t, ht, hq⟩ := body cdv A outer s H vs Q E hcode (hr.deeper _) hsp
  have I := inv_start (CX := CX0) (P := P) (w := w) (K := K) (mg := mg) (base := base) (E := E) S hr.hd e0 hlen r x
  refine wpAny_mono (ht.nox.run [] s1 (start N vs) H _ I hq) ?_ (fun e s' hs => hs)
  intro fl s' hs
  cases fl with
  | ret u =>
    obtain ⟨v, σ', H', J, rv, q⟩ := hs
    exact ⟨v, H', J.os, J.bare, J.base, J.hok, rv, q⟩
  | next =>
    obtain ⟨σ', H', J, q⟩ := hs
    exact ⟨V.non, H', J.os, J.bare, J.base, J.hok, rfl, q⟩
  | brk => exact hs.elim fun _ z => z.elim fun _ z => z.2.elim
  | cont => exact hs.elim fun _ z => z.elim fun _ z => z.2.elim
end
section
variable {X : Cx} {CX : CXT} {C g : Addr} {n : Nat} {sp : Sp} {E : XK}
/-- len(x) of an instance whose class says __len__ -/
def rLenOwn (C : Addr) (sp : Sp) (E : XK) : List V → Hp → VK → Prop := fun xs H Q => ∃ a dx vs, xs = [V.ref a] ∧ SlX.Slt H a C dx vs ∧ sp [.ref a] H (fun z H' => ∃ i : Int, z = .int i ∧ (0 ≤ i ∧ i < 2 ^ 63) ∧ Q z H') E
theorem call_lenOwn (hs : PySem.W.findIn X.K (.ref C) "__len__" = some (some (.ref g))) (hf : PySem.W.isFn X.K (.ref g) = true) (F : FnR X.prog X.w X.K X.mg X.base CX n g sp) (hr : Room (n + 1) X.A) (hx : Passes CX X E) : CallR X (.builtin "len") (rLenOwn C sp E) := by
  intro pins s σ H xs us Q I r h
  obtain ⟨a, dx, vs, rfl, hsl, q⟩ := h
  obtain ⟨u, rfl, ru⟩ := r.one
  cases (show u = Value.ref a from ru)
  obtain ⟨sl, od, _, J, _⟩ := SlX.slt_inst I hsl
  obtain ⟨m, hF⟩ := I.fr
  refine PySem.W.len_K hF I.ok.mod.kin J hs hf (wpAny_mono (wpAny_call (SlX.run_at (us := [.ref a]) (ws := [.ref a]) F (Room.in1 hr) I.env0.in1 hx I (.cons rfl .nil) q)) (fun w s' z => ?_) fun _ _ x => x)
  obtain ⟨z', H', I', rz, i, ei, b, qz⟩ := z
  subst ei
  obtain ⟨t, e⟩ := (show ∃ t, w = Value.int i t from rz)
  cases e
  exact ⟨b, .int i, H', I'.tok _, ⟨_, rfl⟩, qz⟩
/-- len(set(xs)) of ints: the members, each once -/
def tLenSetD (K : PySem.W.Frag) (ta : TE) : TE := fun σ H Q => ta σ H fun x H1 => ∃ (l : Addr) (ns : List Int), x = V.ref l ∧ SqL K H1 l (ns.map V.int) ∧ ns.length < 64 ∧ Q (.int ((firstMet (fun i => ns.getD i 0) ns.length).length : Nat)) H1
theorem pe_lenSetD {a : Expr} {ta : TE} {p p2 q pos : Pos} (hc : X.calm = true) (hg : L2.Gl X "len") (hm : X.mg "len" = none) (hg2 : L2.Gl X "set") (hm2 : X.mg "set" = none) (ha : PE X a ta)
    (na : starEach [a] X.env = (false, eval a X.env) :: starEach [] X.env := by rfl) : PE X (.Call (.Name "len" p) [.Call (.Name "set" p2) [a] [] q] [] pos) (tLenSetD X.K ta) := by
  refine ⟨fun pins s σ H Q I h => ?_⟩
  refine Call_ (ld_blt I hg hm PySem.boot_len ?_)
  refine PyProof.Rows.callWith_builtin1 (PyProof.Rows.args_cons ?_ rfl) rfl rfl
  refine Call_ (ld_blt I hg2 hm2 PyProof.Rows.boot_set ?_)
  refine PyProof.Rows.callWith_type1 (PyProof.Rows.args_cons (thn (ha.run pins s σ H _ I h) fun v s1 ⟨x, H1, I1, r1, q1⟩ => PyProof.Rows.args_nil ?_) na) na rfl
  obtain ⟨l, ns, rfl, hq, h1, q1⟩ := q1
  cases r1
  obtain ⟨its, r, pl, hz⟩ := I1.list hq
  have hl : its.toArray.size = ns.length := by rw [List.size_toArray, ← r.length, List.length_map]
  refine call_set_list (I1.ok.hd hc) pl.isList (ns := ns) (by simpa using r.ints) (by unfold scanBound; omega) fun h' tk hS hk => ?_
  rw [hl] at hS
  refine PyProof.Rows.args_nil ?_
  obtain ⟨o, es, ep, t, ho, hex, hd, _, _, _, hf, hn⟩ := hS
  have I2 : Inv X pins σ H1 { s1 with heap := h', toks := tk } := I1.kept fun b o e => hk b o (Heap.lt_size e) e
  have hb := firstMet_length_le (fun i => ns.getD i 0) ns.length
  refine call_len_set ho hex hd hf (by rw [hn] <;> omega) ⟨.int _, H1, I2.tok _, ⟨_, by rw [hn]⟩, q1⟩
end
/-- a set's members, each once: how many after one more -/
def addN (p : (Int → Bool) × Nat) (k : Int) : (Int → Bool) × Nat := (fun j => p.1 j || decide (j = k), if p.1 k = true then p.2 else p.2 + 1)
def cnt4 (a b c d : Int) : Nat := ([a, b, c, d].foldl addN (fun _ => false, 0)).2
section
variable {P : Program} {w : World} {A : Around} {E : Value → Shared → Prop} {s : Shared} {D : Addr} {S : Int → Bool} {n : Nat}
theorem setAdd_int {k : Int} {t : Tok} {Q : Shared → Prop} (p : (Int → Bool) × Nat) (hS : s.heap.SetOf (intKind P w) D p.1 p.2) (hb : p.2 + 1 < scanBound)
    (h : ∀ h', Heap.SameBut D s.heap h' → h'.SetOf (intKind P w) D (addN p k).1 (addN p k).2 → Q { s with heap := h', toks := s.toks + 1 }) :
    wpAny (model P w) A (setAdd D (.int k t)) (fun _ s' => Q s') E s := by
  unfold setAdd
  refine wpAny_holding (wpAny_bind ((intKind P w).pyHash (intKind_is P w k t) ?_))
  exact wpAny_setAddHashed_of (s := { s with toks := s.toks + 1 }) (intKind_is P w k t) rfl hS hb fun h' hsb hS' => h h' hsb hS'
end
section
variable {X : Cx}
def tLenX (t1 t2 t3 t4 : TE) : TE := fun σ H Q => t1 σ H fun x1 H1 => t2 σ H1 fun x2 H2 => t3 σ H2 fun x3 H3 => t4 σ H3 fun x4 H4 =>
  ∃ a b c d : Int, x1 = .int a ∧ x2 = .int b ∧ x3 = .int c ∧ x4 = .int d ∧ Q (.int (cnt4 a b c d : Nat)) H4
theorem pe_lenX {e1 e2 e3 e4 : Expr} {t1 t2 t3 t4 : TE} {p p2 pos : Pos} (hcode : PySem.W.kdsCode X.K X.env.code = true) (hg : L2.Gl X "len") (hm : X.mg "len" = none) (h1 : PE X e1 t1) (h2 : PE X e2 t2) (h3 : PE X e3 t3) (h4 : PE X e4 t4)
    (hp : [e1, e2, e3, e4].all PySem.W.kdsPlain = true := by rfl) (hroad : displayRoad 0 [e1, e2, e3, e4] = .oneByOne := by rfl) : PE X (.Call (.Name "len" p) [.Set [e1, e2, e3, e4] 0 p2] [] pos) (tLenX t1 t2 t3 t4) := by
  refine ⟨fun pins s σ H Q I h => ?_⟩
  refine Call_ (ld_blt I hg hm PySem.boot_len ?_)
  refine PyProof.Rows.callWith_builtin1 (PyProof.Rows.args_cons ?_ rfl) rfl rfl
  rw [arm_eval_Set]
  refine wpAny_bind (wpAny_standAt ?_)
  refine wpAny_bind (PySem.W.kds_main I.kIn hcode fun b => ?_)
  rw [PySem.W.kds_star _ hp, List.map_map]
  refine PySem.W.kds_core (ts := (evalEach [e1, e2, e3, e4] X.env).map fun t => do let v ← t; standAt p2; pure v) (by rw [hroad]; rfl) ?_ ?_ ?_ fun led => ?_
  · refine List.findIdx?_eq_none_iff.mpr fun x hx => ?_
    obtain ⟨t, _, rfl⟩ := List.mem_map.mp hx
    rfl
  · rw [List.length_map, PySem.W.kds_len]; show 4 ≤ 30; decide
  · rw [List.map_map]; try rfl
  rw [hroad]
  refine PySem.W.kds_all p2 _ _ _ ?_
  have hD : H s.heap.objs.size = none := I.hok.fresh (Nat.le_refl _)
  have lD := I.lt
  have nD := I.nofs (a := s.heap.objs.size) (Nat.le_refl _)
  have cD : ∀ x c, X.env.cells.lookup x = some c → c ≠ s.heap.objs.size := fun x c e z => by
    obtain ⟨v, o, ho, hd⟩ := I.cell x c e
    exact absurd (z ▸ Heap.lt_size ho) (Nat.lt_irrefl _)
  have pD : ∀ p ∈ X.pn ++ pins, p.1 ≠ s.heap.objs.size := fun p hp z => by
    exact absurd (z ▸ Heap.lt_size (I.pin p hp).1) (Nat.lt_irrefl _)
  have sD := I.sz
  have gD : (s.heap.push { cls := .type "set", dict := none, data := .set #[] 0 (.fresh 0 0 led) }).get? s.heap.objs.size = some { cls := .type "set", dict := none, data := .set #[] 0 (.fresh 0 0 led) } := Heap.get?_push_size _ rfl
  have I0 : Inv X pins σ H { s with heap := s.heap.push { cls := .type "set", dict := none, data := .set #[] 0 (.fresh 0 0 led) } } := I.kept (t' := s.toks) fun b u e => Heap.get?_push_of_some _ e
  have Ip : Inv X ((s.heap.objs.size, { cls := .type "set", dict := none, data := .set #[] 0 (.fresh 0 0 led) }) :: pins) σ H { s with heap := s.heap.push { cls := .type "set", dict := none, data := .set #[] 0 (.fresh 0 0 led) } } := by
    refine I0.pins_of fun p hp => ?_
    rcases List.mem_cons.mp hp with rfl | hp
    · exact ⟨gD, hD, fun z => absurd (z ▸ lD) (Nat.lt_irrefl _), nD, fun v z => by cases z⟩
    · exact I0.pin p (List.mem_append_right _ hp)
  generalize s.heap.objs.size = D at *
  refine thn (h1.run _ _ σ H _ Ip h) fun v1 s1 ⟨x1, H1, I1, r1, q1⟩ => ?_
  refine thn (h2.run _ _ σ H1 _ I1 q1) fun v2 s2 ⟨x2, H2, I2, r2, q2⟩ => ?_
  refine thn (h3.run _ _ σ H2 _ I2 q2) fun v3 s3 ⟨x3, H3, I3, r3, q3⟩ => ?_
  refine thn (h4.run _ _ σ H3 _ I3 q3) fun v4 s4 ⟨x4, H4, I4, r4, q4⟩ => ?_
  obtain ⟨a, b, c, d, rfl, rfl, rfl, rfl, q4⟩ := q4
  obtain ⟨k1, rfl⟩ := (show ∃ t, v1 = Value.int a t from r1)
  obtain ⟨k2, rfl⟩ := (show ∃ t, v2 = Value.int b t from r2)
  obtain ⟨k3, rfl⟩ := (show ∃ t, v3 = Value.int c t from r3)
  obtain ⟨k4, rfl⟩ := (show ∃ t, v4 = Value.int d t from r4)
  obtain ⟨g4, f4, l4, n4, _⟩ := I4.pin (D, _) (List.mem_append_right _ List.mem_cons_self)
  have I5 : Inv X pins σ H4 s4 := I4.pins_of fun p hp => I4.pin p (List.mem_append_right _ (List.mem_cons_of_mem _ hp))
  have S0 : s4.heap.SetOf (intKind X.prog X.w) D (fun _ => false) 0 := (setObjOf_fresh led).setOf g4 (by unfold scanBound; omega)
  have many : ∀ (p : (Int → Bool) × Nat) (k : Int), (addN p k).2 ≤ p.2 + 1 := fun p k => by unfold addN; dsimp only; split <;> omega
  have m0 : ((fun _ => false, 0) : (Int → Bool) × Nat).2 = 0 := rfl
  have m1 := many (fun _ => false, 0) a
  have m2 := many (addN (fun _ => false, 0) a) b
  have m3 := many (addN (addN (fun _ => false, 0) a) b) c
  have m4 := many (addN (addN (addN (fun _ => false, 0) a) b) c) d
  refine PySem.W.kds_fill_cons (setAdd_int (fun _ => false, 0) S0 (by unfold scanBound; decide) fun ha sa Sa => ?_)
  refine PySem.W.kds_fill_cons (setAdd_int _ Sa (by unfold scanBound; omega) fun hb sb Sb => ?_)
  refine PySem.W.kds_fill_cons (setAdd_int _ Sb (by unfold scanBound; omega) fun hc sc Sc => ?_)
  refine PySem.W.kds_fill_cons (setAdd_int _ Sc (by unfold scanBound; omega) fun hd sd Sd => ?_)
  refine PySem.W.kds_fill_nil rfl ?_
  refine PyProof.Rows.args_nil ?_
  obtain ⟨o, es, ep, t, ho, hex, hdd, _, _, _, hf, hn⟩ := Sd
  have keep : ∀ b o, b ≠ D → s4.heap.get? b = some o → hd.get? b = some o := fun b o n e => by
    exact ((sd.2 b n).trans ((sc.2 b n).trans ((sb.2 b n).trans (sa.2 b n)))).trans e
  have J := (I5.turned (h' := hd) (t' := s4.toks + 1 + 1 + 1 + 1 + 1 + 1) keep f4 l4 (.inr sD) cD pD)
  refine call_len_set ho hex hdd hf (by rw [hn] <;> omega) ⟨.int (cnt4 a b c d : Nat), H4, J, ⟨_, congrArg (fun n : Nat => Value.int n _) hn⟩, q4⟩
end
/-! ### stepping -/
section
variable {K : PySem.W.Frag} {H : Hp} {σ : L2.St} {Q : VK} {a : Addr} {C : Addr} {dx : Addr} {vs : List (Option V)} {sp : Sp} {E : XK} {xs : List V} {te : TE} {tt : TA} {QA : List V → Hp → Prop} {n : Nat} {tg : TGs} {QS : L2.St → Hp → Prop}
def lenXK (x1 x2 x3 x4 : V) (H : Hp) (Q : VK) : Prop := ∃ a b c d : Int, x1 = .int a ∧ x2 = .int b ∧ x3 = .int c ∧ x4 = .int d ∧ Q (.int (cnt4 a b c d : Nat)) H
theorem r_lenX {t1 t2 t3 t4 : TE} (h : t1 σ H fun x1 H1 => t2 σ H1 fun x2 H2 => t3 σ H2 fun x3 H3 => t4 σ H3 fun x4 H4 => lenXK x1 x2 x3 x4 H4 Q) : tLenX t1 t2 t3 t4 σ H Q := h
theorem r_lenXK {a b c d : Int} (h : Q (.int (cnt4 a b c d : Nat)) H) : lenXK (.int a) (.int b) (.int c) (.int d) H Q := ⟨a, b, c, d, rfl, rfl, rfl, rfl, h⟩
def lenSetK (K : PySem.W.Frag) (x : V) (H : Hp) (Q : VK) : Prop := ∃ (l : Addr) (ns : List Int), x = V.ref l ∧ SqL K H l (ns.map V.int) ∧ ns.length < 64 ∧ Q (.int ((firstMet (fun i => ns.getD i 0) ns.length).length : Nat)) H
theorem r_lenSetD (h : te σ H fun x H1 => lenSetK K x H1 Q) : tLenSetD K te σ H Q := h
def starK (K : PySem.W.Frag) (x : V) (tt : TA) (σ : L2.St) (H : Hp) (Q : List V → Hp → Prop) : Prop := ∃ p xs, x = V.ref p ∧ (SqT K H p xs ∨ SqL K H p xs) ∧ tt σ H fun ys H2 => Q (xs ++ ys) H2
theorem r_star (h : te σ H fun x H1 => starK K x tt σ H1 QA) : StX.tStar K te tt σ H QA := h
theorem r_starT (h : SqT K H a xs) (k : tt σ H fun ys H2 => QA (xs ++ ys) H2) : starK K (.ref a) tt σ H QA := ⟨a, xs, rfl, .inl h, k⟩
theorem r_starL (h : SqL K H a xs) (k : tt σ H fun ys H2 => QA (xs ++ ys) H2) : starK K (.ref a) tt σ H QA := ⟨a, xs, rfl, .inr h, k⟩
theorem r_lenOwn (h : SlX.Slt H a C dx vs) (k : sp [.ref a] H (fun z H' => ∃ i : Int, z = .int i ∧ (0 ≤ i ∧ i < 2 ^ 63) ∧ Q z H') E) : rLenOwn C sp E [.ref a] H Q := ⟨a, dx, vs, rfl, h, k⟩
theorem r_unl (h : SqL K H a xs) (hl : xs.length = n) (k : tg xs σ H QS) : gUnl K n tg (.ref a) σ H QS := ⟨a, xs, rfl, h, hl, k⟩
theorem r_ext {l b : Addr} {zs : List V} (h1 : H l = some (.lst xs)) (h2 : H b = some (.lst zs)) (h3 : xs.length + zs.length ≤ sizeLine) (k : Q .non (upd H l (.lst (xs ++ zs)))) : rExtend (.ref l) [.ref b] H Q := ⟨l, b, xs, zs, rfl, rfl, h1, h2, h3, k⟩
theorem r_catT {p b : Addr} {ys : List V} (h1 : SqT K H p xs) (h2 : SqT K H b ys) (hz : xs.length + ys.length ≤ sizeLine) (nx : xs ≠ []) (ny : ys ≠ []) (h : ∀ q H', H q = none → Same H H' → H' q = some (.tup (xs ++ ys)) → Q (.ref q) H') : rCatA K (.ref p) (.ref b) H Q :=
  ⟨p, b, xs, ys, rfl, rfl, h1, h2, hz, fun z => absurd z nx, fun _ z => absurd z ny, fun _ _ q hq => h q _ hq (fun c o' e => (upd_ne (ne_of_none e hq)).trans e) upd_same⟩
end
section
variable {X : Cx}
theorem in_room {k : Nat} {A : Around} (r : Room k A) : A.units + 65 < cLine := by have := r.un; omega
def rInDT (K : PySem.W.Frag) : R2 := fun x y H Q => ∃ d ds, Dp K H x d ∧ Dp K H y (.tuple ds) ∧ SeqAt.shaped d = true ∧ SeqAt.shaped (.tuple ds) = true ∧ Q (.bl (ds.any fun z => PyData.eqv z d)) H
theorem op_inDT (hu : X.A.units + 65 < cLine) : OpR X (compareOp .In) (rInDT X.K) := by
  intro pins s σ H x y v u Q I rx ry h
  obtain ⟨d, ds, hd, he, sd, se, q⟩ := h
  obtain ⟨as, r1⟩ := Dp.reads I d x v hd rx
  obtain ⟨bs, r2⟩ := Dp.reads I (.tuple ds) y u he ry
  exact SeqAt.in_tuple_reads r2 r1 (SeqAt.canLay_of_shaped se) (SeqAt.canLay_of_shaped sd) (room_in_shaped sd hu) ⟨.bl _, H, I, rfl, q⟩
end
section
variable {K : PySem.W.Frag} {H : Hp} {σ : L2.St} {Q : VK} {a : Addr} {te : TE} {tt : TT} {vs : List Nat}
/-- [e for x in a tuple if c] -/
theorem lk_filT {xs : List V} {j : Nat} (p : V → Bool) (f : V → V) (hs : SqT K H a xs) (hl : xs.length ≤ 100000) (hw : ∀ x, wipe ((wipe σ vs).set j (some x)) vs = wipe σ vs)
    (ht : ∀ x ∈ xs, ∀ H', Same H H' → ∀ R : Bool → Hp → Prop, R (p x) H' → tt ((wipe σ vs).set j (some x)) H' R)
    (he : ∀ x ∈ xs, p x = true → ∀ H', Same H H' → Val te ((wipe σ vs).set j (some x)) H' (f x))
    (h : ∀ D H', H D = none → Same H H' → H' D = some (.lst ((xs.filter p).map f)) → Q (.ref D) H') : lcK (Itt K a) (gName j) tt te vs Q σ H := by
  refine lk_it (walk_tup (xs := xs)) (fun D i H' => Same H H' ∧ H' D = some (.lst (((xs.take i).filter p).map f))) (fun D hD => ⟨fun c u e => (upd_ne (ne_of_none e hD)).trans e, upd_same⟩) (fun D i H' _ p => ?_) ?_ ?_
  · exact sqTS p.1 hs
  · rintro D i x H1 H2 hD hi ⟨sm, eD⟩ ⟨rfl, hx⟩
    refine ⟨hw x, ht x (List.mem_of_getElem? hx) _ sm _ ?_⟩
    cases hp : p x with
    | true =>
      refine iteT (he x (List.mem_of_getElem? hx) hp _ sm _ ⟨_, eD, ?_, sameMut sm hD, ?_⟩)
      · rw [List.length_map]
        refine Nat.lt_of_le_of_lt (Nat.le_trans (List.length_filter_le _ _) ?_) (show 100000 < _ by decide)
        rw [List.length_take]
        exact Nat.le_trans (Nat.min_le_right _ _) hl
      · rw [upd_same, List.take_add_one, hx, List.filter_append, List.map_append]
        simp [hp]
    | false =>
      refine iteF ⟨sm, ?_⟩
      rw [eD, List.take_add_one, hx, List.filter_append, List.map_append]
      simp [hp]
  · rintro D H1 hD ⟨sm, eD⟩
    rw [List.take_length] at eD
    exact h D H1 hD sm eD
theorem lk_mapT {xs : List V} {j : Nat} (f : V → V) (hs : SqT K H a xs) (hl : xs.length ≤ 100000) (hw : ∀ x, wipe ((wipe σ vs).set j (some x)) vs = wipe σ vs)
    (he : ∀ x ∈ xs, ∀ H', Same H H' → Val te ((wipe σ vs).set j (some x)) H' (f x))
    (h : ∀ D H', H D = none → Same H H' → H' D = some (.lst (xs.map f)) → Q (.ref D) H') : lcK (Itt K a) (gName j) tYes te vs Q σ H :=
  lk_filT (fun _ => true) f hs hl hw (fun x _ H' _ R r => r) (fun x m _ => he x m) (by rw [List.filter_eq_self.mpr fun _ _ => rfl]; exact h)
end
theorem ix_tupK {X : Cx} {K : PySem.W.Frag} (h : X.K = K) : IxR X (rIxT K) := h ▸ ix_tup
theorem ix_listK {X : Cx} {K : PySem.W.Frag} (h : X.K = K) : IxR X (rIxL K) := h ▸ ix_list
theorem r_par3 {aa : TA} {i j l : Nat} {σ : L2.St} {H : Hp} {nx : L2.St → Hp → Prop} {rt : VK} {bk ct : L2.St → Hp → Prop} (h : aa σ H fun vs H1 => ∃ u v w, vs = [u, v, w] ∧ nx (((σ.set i (some u)).set j (some v)).set l (some w)) H1) : tPar3 i j l aa ⟨nx, rt, bk, ct⟩ σ H := h
end Gl

set_option Elab.async false
set_option maxRecDepth 100000
set_option maxHeartbeats 4000000
set_option linter.all false
/-! repr of data with great ints (fewer than 4300 figures): where sys.int_max_str_digits has not been set -/
namespace Gl
open PySem PySem.Spec PyProof.Rows L2
mutual
def Wide : PyData → Prop
  | .none => True
  | .bool _ => True
  | .str _ => True
  | .int i => i.natAbs < 10 ^ 4300
  | .list xs => WideAll xs
  | .tuple xs => WideAll xs
  | .dict _ => False
def WideAll : List PyData → Prop
  | [] => True
  | x :: xs => Wide x ∧ WideAll xs
end
mutual
/-- no text of it is longer -/
def wt : PyData → Nat
  | .none => 4
  | .bool _ => 5
  | .str x => (reprText x).length
  | .int _ => 4400
  | .list xs => wtAll xs + 2
  | .tuple xs => wtAll xs + 3
  | .dict _ => 0
def wtAll : List PyData → Nat
  | [] => 0
  | x :: xs => wt x + 2 + wtAll xs
end
theorem len_app (a b : Str) : (a ++ b).length = a.length + b.length := Str.length_append a b
theorem join_le (sep : Str) (hs : sep.length ≤ 2) : ∀ ts : List Str, (Str.join sep ts).length ≤ (ts.map fun t => t.length + 2).sum
  | [] => by
    show (Str.ofString "").length ≤ 0
    decide
  | [x] => by
    show x.length ≤ x.length + 2 + 0
    omega
  | x :: y :: r => by
    have ih := join_le sep hs (y :: r)
    show (x ++ sep ++ Str.join sep (y :: r)).length ≤ x.length + 2 + ((y :: r).map fun t => t.length + 2).sum
    rw [len_app, len_app]
    omega
theorem listText_le (ts : List Str) : (listText ts).length ≤ (ts.map fun t => t.length + 2).sum + 2 := by
  have key : ∀ (ts : List Str) (i : Nat) (acc : Str), (textFrom i acc ts).length ≤ acc.length + (ts.map fun t => t.length + 2).sum := by
    intro ts
    induction ts with
    | nil => intro i acc; exact Nat.le_refl _
    | cons t r ih =>
      intro i acc
      unfold textFrom
      refine Nat.le_trans (ih _ _) ?_
      have e2 : (Str.ofString ", ").length = 2 := by decide
      have e0 : (Str.ofString "").length = 0 := by decide
      rw [len_app, len_app]
      simp only [List.map_cons, List.sum_cons]
      split <;> (first | rw [e2] | rw [e0]) <;> omega
  show (textFrom 0 "[" ts ++ "]").length ≤ _
  rw [len_app]
  have h := key ts 0 "["
  have e1 : (Str.ofString "[").length = 1 := by decide
  have e2 : (Str.ofString "]").length = 1 := by decide
  rw [e1] at h
  rw [e2]
  omega
theorem tupleText_le (ts : List Str) : (tupleText ts).length ≤ (ts.map fun t => t.length + 2).sum + 3 := by
  have h := join_le ", " (by decide) ts
  unfold tupleText
  rw [len_app, len_app]
  have e1 : (Str.ofString "(").length = 1 := by decide
  have e2 : (Str.ofString ",)").length = 2 := by decide
  have e3 : (Str.ofString ")").length = 1 := by decide
  rw [e1]
  split <;> (first | rw [e2] | rw [e3]) <;> omega
mutual
theorem shown_le : ∀ d : PyData, Wide d → d.shown.length ≤ wt d
  | .none, _ => by decide
  | .bool b, _ => by cases b <;> decide
  | .str x, _ => Nat.le_refl _
  | .int i, h => by
    have e := int_text_length_le10 (k := 4300) (by decide) h
    show (Str.ofString (toString i)).length ≤ 4400
    rw [PySem.ofString_length]
    omega
  | .list xs, h => Nat.le_trans (listText_le _) (Nat.add_le_add_right (shownAll_le xs h) 2)
  | .tuple xs, h => Nat.le_trans (tupleText_le _) (Nat.add_le_add_right (shownAll_le xs h) 3)
  | .dict _, h => h.elim
theorem shownAll_le : ∀ xs : List PyData, WideAll xs → ((PyData.shownAll xs).map fun t => t.length + 2).sum ≤ wtAll xs
  | [], _ => Nat.le_refl _
  | x :: xs, h => by
    have h1 := shown_le x h.1
    have h2 := shownAll_le xs h.2
    show (x.shown.length + 2) + ((PyData.shownAll xs).map fun t => t.length + 2).sum ≤ wt x + 2 + wtAll xs
    omega
end
section
variable {prog : Program} {w : World} {h₀ : Heap}
theorem int_repr_call {A : Around} {E : Value → Shared → Prop} {s : Shared} {a : Int} {t : Tok} {Q : Value → Shared → Prop} (hn : s.heap.NoDigits) (ha : a.natAbs < 10 ^ 4300)
    (h : Q (.str (toString a) s.toks) { s with toks := s.toks + 1 }) : wpAny (model prog w) A (call (.builtin "int.__repr__") [.int a t]) Q E s := by
  refine wpAny_call_entry F.slot_int_repr (typeIs_int s a t) F.entry_int_repr ?_ (F.args_int_repr_1 _)
  unfold Builtin.«int.__repr__»
  show wpAny _ _ (do let r ← Builtin.overDigitLimit? a; _) _ _ s
  refine wpAny_bind (overDigitLimit_any hn (fun hlt => ?_) (fun hge => absurd ha (Nat.not_lt.mpr hge)))
  exact wpAny_bind (wpAny_mkStr (wpAny_pure ⟨_, rfl, h⟩) (int_text_fits10 hlt))
theorem reprK_int {as : List Addr} {d : Nat} {a : Int} (t : Tok) (hn : h₀.NoDigits) (ha : a.natAbs < 10 ^ 4300) : ReprK prog w as h₀ d (.int a t) (toString a) := by
  intro base hb A g E s Q hg hcl hu hk hQ
  rw [pyReprUnder_leaf (v := .int a t) (by omega) (fun _ e => nomatch e)]
  unfold pyRepr
  refine wpAny_bind (wpAny_pyReprObj_slot (by omega) (typeIs_int s a t) F.slot_int_repr.toG (int_repr_call (hn.keeps hk) ha ⟨_, _, rfl, ?_⟩))
  exact wpAny_pure (hQ s.heap _ fun _ _ e => e)
mutual
theorem repr_wide (hn : h₀.NoDigits) : ∀ {v : Value} {d : PyData} {as : List Addr}, Reads h₀ v d as → Wide d → d.shown.length ≤ sizeLine →
    ∃ bs, ReadAtMost h₀ d.depth bs ∧ ReprK prog w bs h₀ d.depth v d.shown
  | _, _, _, .none, _, _ => ⟨[], (fun _ h => nomatch h), ReprK.of_is ReprIs.none _ _ _⟩
  | _, _, _, .bool b, _, _ => ⟨[], (fun _ h => nomatch h), ReprK.of_is (ReprIs.bool b) _ _ _⟩
  | _, _, _, .int i t, hw, _ => ⟨[], (fun _ h => nomatch h), reprK_int t hn hw⟩
  | _, _, _, .str x t, _, hz => ⟨[], (fun _ h => nomatch h), ReprK.of_is (ReprIs.str x t hz) _ _ _⟩
  | _, _, _, .list (a := a) (vs := vs) (xs := xs) h1 h2 h3 h4, hw, hz => by
    have hz' : (listText (PyData.shownAll xs)).length ≤ sizeLine := hz
    obtain ⟨bs, hb, hk⟩ := repr_wideAll hn h4 hw (fun t ht => Nat.le_trans (listText_mem_le ht) hz')
    have r : Reads h₀ (.ref a) (.list xs) _ := Reads.list h1 h2 h3 h4
    have deep : PyData.depthAll xs < (PyData.list xs).depth := by
      simp only [PyData.depth]
      omega
    refine ⟨a :: bs, ReadAtMost.cons r (Nat.le_of_lt deep) hb, ?_⟩
    have hna := not_mem_of_deeper r deep hb
    show ReprK prog w (a :: bs) h₀ (PyData.list xs).depth (.ref a) (listText (PyData.shownAll xs))
    simp only [PyData.depth]
    obtain ⟨l⟩ := vs
    match l, h3, h4, hk with
    | [], h3, h4, _ =>
      have h4' : ReadsAll h₀ [] xs _ := h4
      cases h4'
      exact ReprK.listEmpty h1 h2 h3
    | x :: l, h3, h4, hk => exact ReprK.list h1 h2 h3 hna (by simpa using hk.length_eq) (fun i y e => hk.item i y (by simpa using e))
  | _, _, _, .tuple (a := a) (xs := xs) h1 h2 h3 h4, hw, hz => by
    have hz' : (tupleText (PyData.shownAll xs)).length ≤ sizeLine := hz
    obtain ⟨bs, hb, hk⟩ := repr_wideAll hn h4 hw (fun t ht => Nat.le_trans (tupleText_mem_le ht) hz')
    have r : Reads h₀ (.ref a) (.tuple xs) _ := Reads.tuple h1 h2 h3 h4
    have deep : PyData.depthAll xs < (PyData.tuple xs).depth := by
      simp only [PyData.depth]
      omega
    refine ⟨a :: bs, ReadAtMost.cons r (Nat.le_of_lt deep) hb, ?_⟩
    have hna := not_mem_of_deeper r deep hb
    show ReprK prog w (a :: bs) h₀ (PyData.tuple xs).depth (.ref a) (tupleText (PyData.shownAll xs))
    simp only [PyData.depth]
    exact ReprK.tuple h1 h2 h3 hna hk
  | _, _, _, .dict _ _ _ _ _, hw, _ => hw.elim
theorem repr_wideAll (hn : h₀.NoDigits) : ∀ {vs : List Value} {ds : List PyData} {as : List Addr}, ReadsAll h₀ vs ds as → WideAll ds → (∀ t ∈ PyData.shownAll ds, t.length ≤ sizeLine) →
    ∃ bs, ReadAtMost h₀ (PyData.depthAll ds) bs ∧ ReprAllK prog w bs h₀ (PyData.depthAll ds) vs (PyData.shownAll ds)
  | _, _, _, .nil, _, _ => ⟨[], (fun _ h => nomatch h), .nil⟩
  | _, _, _, .cons (d := d) (ds := ds) r rs, hw, hz => by
    have z1 : d.shown ∈ PyData.shownAll (d :: ds) := List.mem_cons_self ..
    obtain ⟨b1, hb1, k1⟩ := repr_wide hn r hw.1 (hz _ z1)
    obtain ⟨b2, hb2, k2⟩ := repr_wideAll hn rs hw.2 (fun t ht => hz t (List.mem_cons_of_mem d.shown ht))
    have m1 : d.depth ≤ PyData.depthAll (d :: ds) := by
      simp only [PyData.depthAll]
      omega
    have m2 : PyData.depthAll ds ≤ PyData.depthAll (d :: ds) := by
      simp only [PyData.depthAll]
      omega
    refine ⟨b1 ++ b2, (hb1.mono m1).append (hb2.mono m2), ?_⟩
    exact ReprAllK.cons ((k1.more fun b hb => List.mem_append_left _ hb).level_le m1) (k2.more_le (fun b hb => List.mem_append_right _ hb) m2)
end
end
def rReprW (K : PySem.W.Frag) : List V → Hp → VK → Prop := fun xs H Q => ∃ x d, xs = [x] ∧ Dp K H x d ∧ Wide d ∧ d.depth ≤ 30 ∧ wt d ≤ sizeLine ∧ Q (.str d.shown) H
theorem call_reprW {X : Cx} {k : Nat} (hr : Room k X.A) (hG : X.A.guards = some []) (nd : X.base.NoDigits) : CallR X (.builtin "repr") (rReprW X.K) := by
  intro pins s σ H xs us Q I r h
  obtain ⟨x, d, rfl, hd, hw, hdep, hwt, q⟩ := h
  obtain ⟨u, rfl, r1⟩ := vals1 r
  obtain ⟨as, rd⟩ := Dp.reads I d x u hd r1
  have hn : s.heap.NoDigits := nd.keeps I.bk
  have hsz : d.shown.length ≤ sizeLine := Nat.le_trans (shown_le d hw) hwt
  have hu := hr.units
  obtain ⟨bs, hb, hk⟩ := repr_wide (prog := X.prog) (w := X.w) hn rd hw hsz
  cases hd with
  | non => cases r1; exact P.repr_of_none ⟨.str _, H, I.tok _, ⟨_, rfl⟩, q⟩
  | bl b => cases r1; exact P.repr_of_bool ⟨.str _, H, I.tok _, ⟨_, rfl⟩, q⟩
  | int i =>
    obtain ⟨t, rfl⟩ := r1
    exact call_repr_slot (by omega) (typeIs_int s i t) F.slot_int_repr.toG (int_repr_call hn hw ⟨_, _, rfl, .str _, H, I.tok _, ⟨_, rfl⟩, q⟩)
  | str z =>
    obtain ⟨t, rfl⟩ := r1
    exact P.repr_of_str ⟨.str _, H, I.tok _, ⟨_, rfl⟩, q⟩ hsz
  | lst h1 h2 =>
    cases r1
    cases rd with
    | list g1 g2 g3 g4 =>
      rename_i ds o vs n bs0
      obtain ⟨bs, hb, hk⟩ := repr_wideAll (prog := X.prog) (w := X.w) hn g4 hw (fun t ht => Nat.le_trans (listText_mem_le ht) hsz)
      have r : Reads s.heap (.ref _) (.list ds) _ := Reads.list g1 g2 g3 g4
      have deep : PyData.depthAll ds < (PyData.list ds).depth := by
        simp only [PyData.depth]
        omega
      have hna := not_mem_of_deeper r deep hb
      have hdep' : PyData.depthAll ds + 1 ≤ 30 := Nat.le_trans deep hdep
      refine call_repr_slot (by omega) ⟨o, g1, g2⟩ F.slot_list_repr.toG ?_
      obtain ⟨l⟩ := vs
      match l, g3, g4, hk with
      | [], g3, g4, _ =>
        have g4' : ReadsAll s.heap [] ds _ := g4
        cases g4'
        exact call_list_repr_empty ⟨o, g1, g2⟩ g1 g3 ⟨_, _, rfl, .str _, H, I.tok _, ⟨_, rfl⟩, q⟩
      | x :: l, g3, g4, hk =>
        exact call_list_reprK g1 g2 g3 hna (by simpa using hk.length_eq) (fun i y e => hk.item i y (by simpa using e)) hG (fun b _ => Clear.nil b)
          (by show X.A.units + 1 + (PyData.depthAll ds + 1) < cLine; omega) (fun _ _ e => e) (fun h' u tk hk => ⟨_, _, rfl, .str _, H, I.kept hk, ⟨_, rfl⟩, q⟩) hsz
  | tup h1 h2 =>
    cases r1
    cases rd with
    | tuple g1 g2 g3 g4 =>
      rename_i ds o vs n
      obtain ⟨bs, hb, hk⟩ := repr_wideAll (prog := X.prog) (w := X.w) hn g4 hw (fun t ht => Nat.le_trans (tupleText_mem_le ht) hsz)
      have r : Reads s.heap (.ref _) (.tuple ds) _ := Reads.tuple g1 g2 g3 g4
      have deep : PyData.depthAll ds < (PyData.tuple ds).depth := by
        simp only [PyData.depth]
        omega
      have hna := not_mem_of_deeper r deep hb
      have hdep' : PyData.depthAll ds + 1 ≤ 30 := Nat.le_trans deep hdep
      refine call_repr_slot (by omega) ⟨o, g1, g2⟩ F.slot_tuple_repr ?_
      exact call_tuple_reprK g1 g2 g3 hna hk hG (fun b _ => Clear.nil b)
        (by show X.A.units + 1 + (PyData.depthAll ds + 1) < cLine; omega) (fun _ _ e => e) (fun h' u tk hk => ⟨_, _, rfl, .str _, H, I.kept hk, ⟨_, rfl⟩, q⟩) hsz
theorem r_reprW {K : PySem.W.Frag} {H : Hp} {x : V} {Q : VK} (e : PyData) (hd : Dp K H x e) (hw : Wide e) (hp : e.depth ≤ 30) (hl : wt e ≤ sizeLine) (h : Q (.str e.shown) H) : rReprW K [x] H Q := ⟨x, e, rfl, hd, hw, hp, hl, h⟩
end Gl

set_option Elab.async false
set_option maxRecDepth 100000
set_option maxHeartbeats 4000000
set_option linter.all false
/-! the mirror layer: plain data, stores, and what a reading does to them -/
namespace Md
open PySem PySem.Spec PyProof.Rows L2

/-- plain data -/
inductive D where
  | non | bl (b : Bool) | int (i : Int) | str (x : Str)
  | lst (xs : List D) | tup (xs : List D) | dic (kvs : List (Key × D))
  | ins (c : Nat) (fs : List D) | raw (v : V) | cell (n : Nat) | scr (ns : List Int) | ktp (xs : List D)
/-- what a cell of the store holds -/
inductive Cl where
  | dead | lst (xs : List D) | dic (kvs : List (Key × D)) | ins (c : Nat) (fs : List (Option D))
abbrev Sto := List Cl
abbrev DSt := List (Option D)
inductive Out (α : Type) where
  | ok (a : α) (s : Sto) | err (c : Nat) (p : Option (Str × D)) (s : Sto) | bad
def Out.bind {α β : Type} (o : Out α) (f : α → Sto → Out β) : Out β := match o with
  | .ok a s => f a s
  | .err c p s => .err c p s
  | .bad => .bad
inductive SOut where
  | nx (ds : DSt) (s : Sto) | rt (d : D) (s : Sto) | bk (ds : DSt) (s : Sto) | ct (ds : DSt) (s : Sto) | err (c : Nat) (p : Option (Str × D)) (ds : DSt) (s : Sto) | bad
abbrev FE := DSt → Sto → Out D
abbrev FA := DSt → Sto → Out (List D)
abbrev FT := DSt → Sto → Out Bool
abbrev FS := DSt → Sto → SOut
/-- a def's meaning -/
abbrev Fn := List D → Sto → Out D
def kD : Key → D
  | .inl i => .int i
  | .inr x => .str x

/-! ### values and data -/
/-- not a cell -/
def nc : D → Bool
  | .cell _ => false
  | _ => true
def ncA (xs : List D) : Bool := xs.all nc
mutual
inductive Rp (K : PySem.W.Frag) (Γ : Nat → Addr) (F : Hp) : List Addr → V → D → Prop
  | non {ι : List Addr} : Rp K Γ F ι .non .non
  | bl {ι : List Addr} (b : Bool) : Rp K Γ F ι (.bl b) (.bl b)
  | int {ι : List Addr} (i : Int) : Rp K Γ F ι (.int i) (.int i)
  | str {ι : List Addr} (x : Str) : Rp K Γ F ι (.str x) (.str x)
  | lst {ι : List Addr} {a : Addr} {xs : List V} {ds : List D} : F a = some (.lst xs) → RpA K Γ F [] xs ds → Rp K Γ F ι (.ref a) (.lst ds)
  | scr {ι : List Addr} {a : Addr} {ns : List Int} : SqL K F a (ns.map V.int) → Rp K Γ F ι (.ref a) (.scr ns)
  | tup {ι : List Addr} {a : Addr} {xs : List V} {ds : List D} : SqT K F a xs → RpA K Γ F [] xs ds → Rp K Γ F ι (.ref a) (.tup ds)
  | dK {ι : List Addr} {a : Addr} {o : Obj} {kvs : List (Key × V)} {ds : List (Key × D)} : F a = some (.frz o (.dK kvs)) → RpK K Γ F [] kvs ds → Rp K Γ F ι (.ref a) (.dic ds)
  | ins {ι : List Addr} {a dx : Addr} {c : Nat} {xs : List V} {vs : List (Option V)} {ds : List D} : SlX.Slt F a (Γ c) dx vs → (∀ (i : Nat) (x : V), xs[i]? = some x → vs[i]? = some (some x)) → RpA K Γ F [] xs ds → Rp K Γ F ι (.ref a) (.ins c ds)
  | raw {ι : List Addr} (v : V) : Rp K Γ F ι v (.raw v)
  | cell {ι : List Addr} {a : Addr} {n : Nat} : ι[n]? = some a → Rp K Γ F ι (.ref a) (.cell n)
  | ktp {ι : List Addr} {a : Addr} {xs : List V} {ds : List D} : (∃ o, K.lookup a = some o ∧ o.cls = .type "tuple" ∧ o.dict = none) → SqT K F a xs → RpA K Γ F [] xs ds → Rp K Γ F ι (.ref a) (.ktp ds)
inductive RpA (K : PySem.W.Frag) (Γ : Nat → Addr) (F : Hp) : List Addr → List V → List D → Prop
  | nil {ι : List Addr} : RpA K Γ F ι [] []
  | cons {ι : List Addr} {v : V} {d : D} {vs : List V} {ds : List D} : Rp K Γ F ι v d → RpA K Γ F ι vs ds → RpA K Γ F ι (v :: vs) (d :: ds)
inductive RpK (K : PySem.W.Frag) (Γ : Nat → Addr) (F : Hp) : List Addr → List (Key × V) → List (Key × D) → Prop
  | nil {ι : List Addr} : RpK K Γ F ι [] []
  | cons {ι : List Addr} {k : Key} {v : V} {d : D} {vs : List (Key × V)} {ds : List (Key × D)} : Rp K Γ F ι v d → RpK K Γ F ι vs ds → RpK K Γ F ι ((k, v) :: vs) ((k, d) :: ds)
end
/-- more is frozen, more cells are there -/
structure Ext (F : Hp) (ι : List Addr) (F' : Hp) (ι' : List Addr) : Prop where
  same : Same F F'
  pre : ∀ (n : Nat) (a : Addr), ι[n]? = some a → ι'[n]? = some a
theorem Ext.refl {F : Hp} {ι : List Addr} : Ext F ι F ι := ⟨fun _ _ e => e, fun _ _ e => e⟩
theorem Ext.trans {F F1 F2 : Hp} {ι ι1 ι2 : List Addr} (a : Ext F ι F1 ι1) (b : Ext F1 ι1 F2 ι2) : Ext F ι F2 ι2 :=
  ⟨fun c o e => b.same c o (a.same c o e), fun n c e => b.pre n c (a.pre n c e)⟩
theorem slt_same {F F' : Hp} {a C dx : Addr} {vs : List (Option V)} (s : Same F F') (h : SlX.Slt F a C dx vs) : SlX.Slt F' a C dx vs := by
  rcases h with ⟨h, e⟩ | ⟨h, g⟩
  · exact Or.inl ⟨s _ _ h, e⟩
  · exact Or.inr ⟨s _ _ h, s _ _ g⟩
section
variable {K : PySem.W.Frag} {Γ : Nat → Addr} {F F' : Hp} {ι ι' : List Addr}
theorem Ext.nil (x : Ext F ι F' ι') : Ext F [] F' [] := ⟨x.same, fun _ _ e => by simp at e⟩
mutual
theorem Rp.ext {ι ι' : List Addr} (x : Ext F ι F' ι') : ∀ {d : D} {v : V}, Rp K Γ F ι v d → Rp K Γ F' ι' v d
  | .non, _, .non => .non
  | .bl _, _, .bl b => .bl b
  | .int _, _, .int i => .int i
  | .str _, _, .str z => .str z
  | .lst _, _, .lst h g => .lst (x.same _ _ h) (RpA.ext x.nil g)
  | .scr _, _, .scr h => .scr (Gl.sqLS x.same h)
  | .tup _, _, .tup h g => .tup (Gl.sqTS x.same h) (RpA.ext x.nil g)
  | .dic _, _, .dK h g => .dK (x.same _ _ h) (RpK.ext x.nil g)
  | .ins _ _, _, .ins h k g => .ins (slt_same x.same h) k (RpA.ext x.nil g)
  | .raw _, _, .raw v => .raw v
  | .cell _, _, .cell e => .cell (x.pre _ _ e)
  | .ktp _, _, .ktp k h g => .ktp k (Gl.sqTS x.same h) (RpA.ext x.nil g)
theorem RpA.ext {ι ι' : List Addr} (x : Ext F ι F' ι') : ∀ {ds : List D} {vs : List V}, RpA K Γ F ι vs ds → RpA K Γ F' ι' vs ds
  | [], _, .nil => .nil
  | _ :: _, _, .cons h g => .cons (Rp.ext x h) (RpA.ext x g)
theorem RpK.ext {ι ι' : List Addr} (x : Ext F ι F' ι') : ∀ {ds : List (Key × D)} {vs : List (Key × V)}, RpK K Γ F ι vs ds → RpK K Γ F' ι' vs ds
  | [], _, .nil => .nil
  | _ :: _, _, .cons h g => .cons (Rp.ext x h) (RpK.ext x g)
end
/-- frozen data stand anywhere -/
theorem Rp.up {v : V} {d : D} (h : Rp K Γ F [] v d) : Rp K Γ F ι v d := h.ext ⟨fun _ _ e => e, fun _ _ e => by simp at e⟩
theorem RpA.up {vs : List V} {ds : List D} (h : RpA K Γ F [] vs ds) : RpA K Γ F ι vs ds := h.ext ⟨fun _ _ e => e, fun _ _ e => by simp at e⟩
theorem RpK.up {vs : List (Key × V)} {ds : List (Key × D)} (h : RpK K Γ F [] vs ds) : RpK K Γ F ι vs ds := h.ext ⟨fun _ _ e => e, fun _ _ e => by simp at e⟩
theorem Rp.fz {v : V} {d : D} (h : Rp K Γ F ι v d) (n : nc d = true) : Rp K Γ F ι' v d := by
  cases h with
  | cell e => cases n
  | non => exact .non
  | bl b => exact .bl b
  | int i => exact .int i
  | str z => exact .str z
  | lst h g => exact .lst h g
  | scr h => exact .scr h
  | tup h g => exact .tup h g
  | dK h g => exact .dK h g
  | ins h k g => exact .ins h k g
  | raw v => exact .raw v
  | ktp k h g => exact .ktp k h g
theorem RpA.fz : ∀ {vs : List V} {ds : List D}, RpA K Γ F ι vs ds → ncA ds = true → RpA K Γ F ι' vs ds
  | _, _, .nil, _ => .nil
  | _, _, .cons h g, n => by
    unfold ncA at n
    rw [List.all_cons, Bool.and_eq_true] at n
    exact .cons (h.fz n.1) (RpA.fz g n.2)
theorem RpA.length : ∀ {vs : List V} {ds : List D}, RpA K Γ F ι vs ds → vs.length = ds.length
  | _, _, .nil => rfl
  | _, _, .cons _ g => congrArg (· + 1) (RpA.length g)
theorem RpA.append : ∀ {vs ws : List V} {ds es : List D}, RpA K Γ F ι vs ds → RpA K Γ F ι ws es → RpA K Γ F ι (vs ++ ws) (ds ++ es)
  | _, _, _, _, .nil, g => g
  | _, _, _, _, .cons h t, g => .cons h (RpA.append t g)
theorem RpA.get : ∀ {vs : List V} {ds : List D}, RpA K Γ F ι vs ds → ∀ {i : Nat} {d : D}, ds[i]? = some d → ∃ v, vs[i]? = some v ∧ Rp K Γ F ι v d
  | _, _, .nil, i, d, e => by simp at e
  | _, _, .cons h _, 0, d, e => by cases e; exact ⟨_, rfl, h⟩
  | _, _, .cons _ t, i + 1, d, e => by
    obtain ⟨v, e1, r⟩ := RpA.get t (i := i) (d := d) e
    exact ⟨v, e1, r⟩
theorem RpA.getV : ∀ {vs : List V} {ds : List D}, RpA K Γ F ι vs ds → ∀ {i : Nat} {v : V}, vs[i]? = some v → ∃ d, ds[i]? = some d ∧ Rp K Γ F ι v d
  | _, _, .nil, i, d, e => by simp at e
  | _, _, .cons h _, 0, d, e => by cases e; exact ⟨_, rfl, h⟩
  | _, _, .cons _ t, i + 1, d, e => by
    obtain ⟨v, e1, r⟩ := RpA.getV t (i := i) (v := d) e
    exact ⟨v, e1, r⟩
theorem RpA.take : ∀ {vs : List V} {ds : List D}, RpA K Γ F ι vs ds → ∀ n, RpA K Γ F ι (vs.take n) (ds.take n)
  | _, _, h, 0 => .nil
  | _, _, .nil, _ + 1 => .nil
  | _, _, .cons h t, n + 1 => .cons h (RpA.take t n)
theorem RpA.drop : ∀ {vs : List V} {ds : List D}, RpA K Γ F ι vs ds → ∀ n, RpA K Γ F ι (vs.drop n) (ds.drop n)
  | _, _, h, 0 => h
  | _, _, .nil, _ + 1 => .nil
  | _, _, .cons h t, n + 1 => RpA.drop t n
theorem RpA.set : ∀ {vs : List V} {ds : List D}, RpA K Γ F ι vs ds → ∀ {v : V} {d : D}, Rp K Γ F ι v d → ∀ n, RpA K Γ F ι (vs.set n v) (ds.set n d)
  | _, _, .nil, _, _, _, _ => .nil
  | _, _, .cons _ t, _, _, h, 0 => .cons h t
  | _, _, .cons g t, _, _, h, n + 1 => .cons g (RpA.set t h n)
theorem RpA.reverse {vs : List V} {ds : List D} (h : RpA K Γ F ι vs ds) : RpA K Γ F ι vs.reverse ds.reverse := by
  induction vs generalizing ds with
  | nil => cases h; exact .nil
  | cons v vs ih =>
    cases h with
    | cons h t =>
      rw [List.reverse_cons, List.reverse_cons]
      exact (ih t).append (.cons h .nil)
end

/-! ### slots, stores -/
def RS (K : PySem.W.Frag) (Γ : Nat → Addr) (F : Hp) (ι : List Addr) (σ : L2.St) (ds : DSt) : Prop :=
  σ.length = ds.length ∧ ∀ (i : Nat) (d : D), ds[i]? = some (some d) → ∃ v, σ[i]? = some (some v) ∧ Rp K Γ F ι v d
/-- an instance that is being made: new, or stored into -/
def InsAt (G F H : Hp) (a C dx : Addr) (vs : List (Option V)) : Prop :=
  (H a = some (.ins C dx []) ∧ vs = [] ∧ H dx = some (.own a) ∧ F dx = none ∧ G dx = none) ∨ (H a = some (SlX.SlO a C dx vs) ∧ H dx = some (.xd []) ∧ G dx = none)
def CellOk (K : PySem.W.Frag) (Γ : Nat → Addr) (G F H : Hp) (ι : List Addr) (a : Addr) : Cl → Prop
  | .dead => True
  | .lst ds => F a = none ∧ ∃ xs, H a = some (.lst xs) ∧ RpA K Γ F [] xs ds
  | .dic ds => F a = none ∧ ∃ kvs, H a = some (.dK kvs) ∧ RpK K Γ F ι kvs ds
  | .ins c fs => F a = none ∧ ∃ dx vs, InsAt G F H a (Γ c) dx vs ∧ ∀ (i : Nat) (d : D), fs[i]? = some (some d) → ∃ v, vs[i]? = some (some v) ∧ Rp K Γ F ι v d
/-- G: what stands aside; F: what is frozen; ι: where the cells stand -/
structure Rel (K : PySem.W.Frag) (Γ : Nat → Addr) (G F H : Hp) (ι : List Addr) (s : Sto) : Prop where
  sub : Same F H
  aside : Same G H
  apart : ∀ a o, G a = some o → F a = none
  nd : ι.Nodup
  len : ι.length = s.length
  free : ∀ a ∈ ι, G a = none ∧ (H a).isSome = true
  at_ : ∀ (n : Nat) (c : Cl) (a : Addr), s[n]? = some c → ι[n]? = some a → CellOk K Γ G F H ι a c
section
variable {K : PySem.W.Frag} {Γ : Nat → Addr} {G F F' H H' : Hp} {ι ι' : List Addr} {s : Sto} {σ : L2.St} {ds : DSt} {p : Addr} {o : HO}
theorem RS.ext (x : Ext F ι F' ι') (h : RS K Γ F ι σ ds) : RS K Γ F' ι' σ ds := ⟨h.1, fun i d e => let ⟨v, e1, r⟩ := h.2 i d e; ⟨v, e1, r.ext x⟩⟩
theorem RS.set {v : V} {d : D} (h : RS K Γ F ι σ ds) (r : Rp K Γ F ι v d) (i : Nat) : RS K Γ F ι (σ.set i (some v)) (ds.set i (some d)) := by
  refine ⟨by rw [List.length_set, List.length_set]; exact h.1, fun j e q => ?_⟩
  by_cases hj : i = j
  · subst hj
    by_cases hi : i < ds.length
    · rw [List.getElem?_set_self hi] at q
      cases q
      exact ⟨v, by rw [List.getElem?_set_self (by rw [h.1]; exact hi)], r⟩
    · rw [List.getElem?_eq_none (by rw [List.length_set]; omega)] at q
      cases q
  · rw [List.getElem?_set_ne hj] at q
    obtain ⟨w, e1, r1⟩ := h.2 j e q
    exact ⟨w, by rw [List.getElem?_set_ne hj]; exact e1, r1⟩
theorem same_new (h : H p = none) : Same H (upd H p o) := fun c u e => (upd_ne (ne_of_none e h)).trans e
theorem same_newF (h : Same F H) (hp : H p = none) : F p = none := by
  cases e : F p with
  | none => rfl
  | some u => rw [h _ _ e] at hp; cases hp
theorem same_upd2 (h : Same F H) : Same (upd F p o) (upd H p o) := fun c u e => by
  by_cases hc : c = p
  · subst hc; rw [upd_same] at e ⊢; exact e
  · rw [upd_ne hc] at e ⊢; exact h c u e
theorem InsAt.keep {a C dx : Addr} {vs : List (Option V)} (h : InsAt G F H a C dx vs) (k : ∀ b u, H b = some u → b = a ∨ b = dx → H' b = some u) (f : ∀ b, H b = some (.own a) → F b = none → F' b = none) : InsAt G F' H' a C dx vs := by
  rcases h with ⟨h1, h2, h3, h4, h5⟩ | ⟨h1, h2, h3⟩
  · exact Or.inl ⟨k _ _ h1 (Or.inl rfl), h2, k _ _ h3 (Or.inr rfl), f _ h3 h4, h5⟩
  · exact Or.inr ⟨k _ _ h1 (Or.inl rfl), k _ _ h2 (Or.inr rfl), h3⟩
/-- what a cell knows stays, if what it leans on stays -/
theorem CellOk.keep {a : Addr} {c : Cl} (h : CellOk K Γ G F H ι a c) (x : Ext F ι F' ι') (k : ∀ b u, H b = some u → b = a ∨ u = .own a ∨ u = .xd [] → H' b = some u)
    (fa : F a = none → F' a = none) (fo : ∀ b, H b = some (.own a) → F b = none → F' b = none) : CellOk K Γ G F' H' ι' a c := by
  cases c with
  | dead => trivial
  | lst es =>
    obtain ⟨n, xs, e, r⟩ := h
    exact ⟨fa n, xs, k _ _ e (Or.inl rfl), r.ext x.nil⟩
  | dic es =>
    obtain ⟨n, xs, e, r⟩ := h
    exact ⟨fa n, xs, k _ _ e (Or.inl rfl), r.ext x⟩
  | ins c fs =>
    obtain ⟨n, dx, vs, i, r⟩ := h
    refine ⟨fa n, dx, vs, i.keep (fun b u e hb => ?_) fo, fun j d e => let ⟨v, e1, r1⟩ := r j d e; ⟨v, e1, r1.ext x⟩⟩
    rcases hb with hb | hb
    · exact k b u e (Or.inl hb)
    · subst hb
      rcases i with ⟨_, _, h3, _⟩ | ⟨_, h3, _⟩
      · rw [h3] at e; cases e; exact k _ _ h3 (Or.inr (Or.inl rfl))
      · rw [h3] at e; cases e; exact k _ _ h3 (Or.inr (Or.inr rfl))
/-- a new thing, frozen at once -/
theorem Rel.new (r : Rel K Γ G F H ι s) (hp : H p = none) : Rel K Γ G (upd F p o) (upd H p o) ι s ∧ Ext F ι (upd F p o) ι := by
  have hF := same_newF r.sub hp
  have x : Ext F ι (upd F p o) ι := ⟨same_new hF, fun _ _ e => e⟩
  have np : ∀ b u, H b = some u → b ≠ p := fun b u e => ne_of_none e hp
  refine ⟨⟨same_upd2 r.sub, fun c u e => (upd_ne (np _ _ (r.aside _ _ e))).trans (r.aside _ _ e), fun a u e => ?_, r.nd, r.len, fun a ha => ⟨(r.free a ha).1, ?_⟩, fun n c a e1 e2 => ?_⟩, x⟩
  · rw [upd_ne (np _ _ (r.aside _ _ e))]; exact r.apart a u e
  · obtain ⟨u, hu⟩ := Option.isSome_iff_exists.mp (r.free a ha).2
    rw [upd_ne (np _ _ hu), hu]; rfl
  · have hu := Option.isSome_iff_exists.mp (r.free a (List.mem_of_getElem? e2)).2
    obtain ⟨u, hu⟩ := hu
    refine (r.at_ n c a e1 e2).keep x (fun b u e _ => (upd_ne (np _ _ e)).trans e) (fun h => (upd_ne (np _ _ hu)).trans h) (fun b e h => (upd_ne (np _ _ e)).trans h)
/-- a new cell -/
theorem Rel.push (r : Rel K Γ G F H ι s) (hp : H p = none) {c : Cl} (hc : CellOk K Γ G F (upd H p o) (ι ++ [p]) p c) : Rel K Γ G F (upd H p o) (ι ++ [p]) (s ++ [c]) ∧ Ext F ι F (ι ++ [p]) := by
  have hF := same_newF r.sub hp
  have hG := same_newF r.aside hp
  have x : Ext F ι F (ι ++ [p]) := ⟨fun _ _ e => e, fun n a e => by rw [List.getElem?_append_left (List.getElem?_eq_some_iff.mp e).1]; exact e⟩
  have np : ∀ b u, H b = some u → b ≠ p := fun b u e => ne_of_none e hp
  have hi : p ∉ ι := fun z => by have q := (r.free p z).2; rw [hp] at q; cases q
  refine ⟨⟨fun c u e => (upd_ne (np _ _ (r.sub _ _ e))).trans (r.sub _ _ e), fun c u e => (upd_ne (np _ _ (r.aside _ _ e))).trans (r.aside _ _ e), r.apart, ?_, by rw [List.length_append, List.length_append, r.len]; rfl, fun a ha => ?_, fun n d a e1 e2 => ?_⟩, x⟩
  · exact List.nodup_append.mpr ⟨r.nd, by simp, fun a ha b hb => by rw [List.mem_singleton] at hb; subst hb; exact fun z => hi (z ▸ ha)⟩
  · rcases List.mem_append.mp ha with h | h
    · obtain ⟨u, hu⟩ := Option.isSome_iff_exists.mp (r.free a h).2
      exact ⟨(r.free a h).1, by rw [upd_ne (np _ _ hu), hu]; rfl⟩
    · rw [List.mem_singleton] at h; subst h
      exact ⟨hG, by rw [upd_same]; rfl⟩
  · by_cases hn : n < s.length
    · rw [List.getElem?_append_left hn] at e1
      rw [List.getElem?_append_left (by rw [r.len]; exact hn)] at e2
      exact (r.at_ n d a e1 e2).keep x (fun b u e _ => (upd_ne (np _ _ e)).trans e) (fun h => h) (fun b e h => h)
    · have hn' : n = s.length := by
        have := (List.getElem?_eq_some_iff.mp e1).1
        rw [List.length_append] at this
        have h1 : [c].length = 1 := rfl
        omega
      subst hn'
      rw [List.getElem?_append_right (Nat.le_refl _), Nat.sub_self] at e1
      rw [List.getElem?_append_right (by rw [r.len]; exact Nat.le_refl _), r.len, Nat.sub_self] at e2
      cases e1; cases e2
      exact hc
/-- a cell is written -/
theorem Rel.write {n : Nat} {a : Addr} {c : Cl} {u : HO} (r : Rel K Γ G F H ι s) (ha : ι[n]? = some a) (hu : H a = some u) (n1 : ∀ b, u ≠ .own b) (n2 : u ≠ .xd []) (hF : F a = none) (hc : CellOk K Γ G F (upd H a o) ι a c) : Rel K Γ G F (upd H a o) ι (s.set n c) := by
  have hm := List.mem_of_getElem? ha
  have hG := (r.free a hm).1
  refine ⟨fun b v e => ?_, fun b v e => ?_, r.apart, r.nd, by rw [List.length_set]; exact r.len, fun b hb => ⟨(r.free b hb).1, ?_⟩, fun m d b e1 e2 => ?_⟩
  · rw [upd_ne (ne_of_none e hF)]; exact r.sub b v e
  · rw [upd_ne (ne_of_none e hG)]; exact r.aside b v e
  · by_cases h : b = a
    · subst h; rw [upd_same]; rfl
    · rw [upd_ne h]; exact (r.free b hb).2
  · by_cases h : n = m
    · subst h
      rw [ha] at e2; cases e2
      have hn : n < s.length := by rw [← r.len]; exact (List.getElem?_eq_some_iff.mp ha).1
      rw [List.getElem?_set_self hn] at e1; cases e1
      exact hc
    · rw [List.getElem?_set_ne h] at e1
      have hb : b ≠ a := by
        rintro rfl
        obtain ⟨h1, e3⟩ := List.getElem?_eq_some_iff.mp ha
        obtain ⟨h2, e4⟩ := List.getElem?_eq_some_iff.mp e2
        exact h ((List.getElem_inj r.nd).mp (e3.trans e4.symm))
      refine (r.at_ m d b e1 e2).keep Ext.refl (fun b' v e hb' => ?_) (fun h => h) (fun _ _ h => h)
      refine (upd_ne ?_).trans e
      rintro rfl
      rw [hu] at e; cases e
      rcases hb' with z | z | z
      · exact hb z.symm
      · exact n1 _ z
      · exact n2 z
/-- a cell of a list is frozen -/
theorem Rel.freezeL {n : Nat} {a : Addr} {es : List D} (r : Rel K Γ G F H ι s) (ha : ι[n]? = some a) (hn : s[n]? = some (.lst es)) :
    ∃ F', Rel K Γ G F' H ι (s.set n .dead) ∧ Ext F ι F' ι ∧ Rp K Γ F' ι (.ref a) (.lst es) := by
  obtain ⟨hF, xs, hx, rx⟩ := r.at_ n _ a hn ha
  have hm := List.mem_of_getElem? ha
  have x : Ext F ι (upd F a (.lst xs)) ι := ⟨same_new hF, fun _ _ e => e⟩
  refine ⟨upd F a (.lst xs), ⟨fun b v e => ?_, r.aside, fun b v e => ?_, r.nd, by rw [List.length_set]; exact r.len, r.free, fun m d b e1 e2 => ?_⟩, x, .lst upd_same (rx.ext x.nil)⟩
  · by_cases h : b = a
    · subst h; rw [upd_same] at e; cases e; exact hx
    · rw [upd_ne h] at e; exact r.sub b v e
  · have h : b ≠ a := by rintro rfl; rw [(r.free _ hm).1] at e; cases e
    rw [upd_ne h]; exact r.apart b v e
  · by_cases h : n = m
    · subst h
      rw [List.getElem?_set_self (List.getElem?_eq_some_iff.mp hn).1] at e1; cases e1
      trivial
    · rw [List.getElem?_set_ne h] at e1
      have hb : b ≠ a := by
        rintro rfl
        obtain ⟨h1, e3⟩ := List.getElem?_eq_some_iff.mp ha
        obtain ⟨h2, e4⟩ := List.getElem?_eq_some_iff.mp e2
        exact h ((List.getElem_inj r.nd).mp (e3.trans e4.symm))
      exact (r.at_ m d b e1 e2).keep x (fun _ _ e _ => e) (fun h => (upd_ne hb).trans h) (fun b' e h => (upd_ne (ne_of e hx (by intro z; cases z))).trans h)
/-- a new thing stands aside -/
theorem Rel.put (r : Rel K Γ G F H ι s) (n0 : H p = none) : Rel K Γ (upd G p o) F (upd H p o) ι s := by
  have nF : F p = none := same_newF r.sub n0
  have nι : p ∉ ι := fun z => by have q := (r.free p z).2; rw [n0] at q; cases q
  have np : ∀ b u, H b = some u → b ≠ p := fun b u e => ne_of_none e n0
  refine ⟨fun c u e => (upd_ne (np _ _ (r.sub _ _ e))).trans (r.sub _ _ e), same_upd2 r.aside, fun a u e => ?_, r.nd, r.len, fun a ha => ?_, fun n c a e1 e2 => ?_⟩
  · by_cases h : a = p
    · rw [h]; exact nF
    · rw [upd_ne h] at e; exact r.apart a u e
  · have h : a ≠ p := fun z => nι (z ▸ ha)
    rw [upd_ne h, upd_ne h]
    exact r.free a ha
  · have ck := r.at_ n c a e1 e2
    have ck' : CellOk K Γ (upd G p o) F H ι a c := by
      cases c with
      | dead => trivial
      | lst es => exact ck
      | dic es => exact ck
      | ins cc fs =>
        obtain ⟨n1, dx, vs, i1, r1⟩ := ck
        refine ⟨n1, dx, vs, ?_, r1⟩
        rcases i1 with ⟨h1, h2, h3, h4, h5⟩ | ⟨h1, h2, h3⟩
        · exact Or.inl ⟨h1, h2, h3, h4, (upd_ne (np _ _ h3)).trans h5⟩
        · exact Or.inr ⟨h1, h2, (upd_ne (np _ _ h2)).trans h3⟩
    exact ck'.keep Ext.refl (fun b u e _ => (upd_ne (np _ _ e)).trans e) (fun h => h) (fun _ _ h => h)
/-- it stands aside no more -/
theorem Rel.back (r : Rel K Γ (upd G p o) F H ι s) (nG : G p = none) (o1 : ∀ b, o ≠ .own b) (o2 : o ≠ .xd []) : ∃ H3, H3 p = none ∧ (∀ u, upd H3 p u = upd H p u) ∧ Rel K Γ G F H3 ι s ∧ H p = some o := by
  have e2 : H p = some o := r.aside p _ upd_same
  have f2 : F p = none := r.apart p _ upd_same
  have i2 : p ∉ ι := fun z => by have q := (r.free p z).1; rw [upd_same] at q; cases q
  have kp : ∀ b u, H b = some u → b ≠ p → (fun b => if b = p then none else H b) b = some u := fun b u e h => by show (if b = p then none else H b) = some u; rw [if_neg h]; exact e
  refine ⟨fun b => if b = p then none else H b, if_pos rfl, fun u => ?_, ⟨fun b u e => kp b u (r.sub b u e) (ne_of_none e f2), fun b u e => ?_, fun b u e => ?_, r.nd, r.len, fun a ha => ?_, fun n c a e1 e3 => ?_⟩, e2⟩
  · funext b
    unfold upd
    by_cases h : b = p
    · rw [if_pos h, if_pos h]
    · rw [if_neg h, if_neg h]
      exact if_neg h
  · have h : b ≠ p := ne_of_none e nG
    exact kp b u (r.aside b u ((upd_ne h).trans e)) h
  · have h : b ≠ p := ne_of_none e nG
    exact r.apart b u ((upd_ne h).trans e)
  · have h : a ≠ p := fun z => i2 (z ▸ ha)
    have q := r.free a ha
    rw [upd_ne h] at q
    refine ⟨q.1, ?_⟩
    show (if a = p then none else H a).isSome = true
    rw [if_neg h]
    exact q.2
  · have h : a ≠ p := fun z => i2 (z ▸ List.mem_of_getElem? e3)
    have ck := r.at_ n c a e1 e3
    have ck' : CellOk K Γ G F H ι a c := by
      cases c with
      | dead => trivial
      | lst es => exact ck
      | dic es => exact ck
      | ins cc fs =>
        obtain ⟨n1, dx, vs, i1, r1⟩ := ck
        refine ⟨n1, dx, vs, ?_, r1⟩
        rcases i1 with ⟨h1, h2, h3, h4, h5⟩ | ⟨h1, h2, h3⟩
        · have hd : dx ≠ p := fun z => by rw [z, upd_same] at h5; cases h5
          rw [upd_ne hd] at h5
          exact Or.inl ⟨h1, h2, h3, h4, h5⟩
        · have hd : dx ≠ p := fun z => by rw [z, upd_same] at h3; cases h3
          rw [upd_ne hd] at h3
          exact Or.inr ⟨h1, h2, h3⟩
    refine ck'.keep Ext.refl (fun b u e hb => kp b u e ?_) (fun h => h) (fun _ _ h => h)
    rintro rfl
    rw [e2] at e; cases e
    rcases hb with z | z | z
    · exact h z.symm
    · exact o1 _ z
    · exact o2 z
/-- a new thing that no one needs -/
theorem Rel.junk (r : Rel K Γ G F H ι s) (hp : H p = none) : Rel K Γ G F (upd H p o) ι s := by
  have np : ∀ b u, H b = some u → b ≠ p := fun b u e => ne_of_none e hp
  refine ⟨fun c u e => (upd_ne (np _ _ (r.sub _ _ e))).trans (r.sub _ _ e), fun c u e => (upd_ne (np _ _ (r.aside _ _ e))).trans (r.aside _ _ e), r.apart, r.nd, r.len, fun a ha => ?_, fun n c a e1 e2 => ?_⟩
  · obtain ⟨u, hu⟩ := Option.isSome_iff_exists.mp (r.free a ha).2
    exact ⟨(r.free a ha).1, by rw [upd_ne (np _ _ hu), hu]; rfl⟩
  · exact (r.at_ n c a e1 e2).keep Ext.refl (fun b u e _ => (upd_ne (np _ _ e)).trans e) (fun h => h) (fun _ _ h => h)
end
end Md

set_option Elab.async false
set_option maxRecDepth 100000
set_option maxHeartbeats 4000000
set_option linter.all false
/-! the mirror layer: readings and their data -/
namespace Md
open PySem PySem.Spec PyProof.Rows L2
/-- an exception's payload -/
def ErrAt (K : PySem.W.Frag) (Γ : Nat → Addr) (F H : Hp) (ι : List Addr) (dd : Option Addr) (p : Option (Str × D)) : Prop :=
  match p with
  | none => True
  | some (f, d) => ∃ a v, dd = some a ∧ H a = some (.xd [(f, v)]) ∧ Rp K Γ F ι v d
section
variable (K : PySem.W.Frag) (Γ : Nat → Addr) (W : WX) (σ : L2.St) (G F : Hp) (ι : List Addr)
/-- behind an outcome -/
def Post {α β : Type} (R : Hp → List Addr → α → β → Prop) (Q : α → Hp → Prop) : Out β → Prop
  | .ok d s => ∀ v H' F' ι', Ext F ι F' ι' → Rel K Γ G F' H' ι' s → R F' ι' v d → Q v H'
  | .err c p s => ∀ dd H' F' ι', Ext F ι F' ι' → Rel K Γ G F' H' ι' s → ErrAt K Γ F' H' ι' dd p → W (.ref (Γ c)) dd σ H'
  | .bad => False
end
abbrev RV (K : PySem.W.Frag) (Γ : Nat → Addr) : Hp → List Addr → V → D → Prop := Rp K Γ
abbrev RA (K : PySem.W.Frag) (Γ : Nat → Addr) : Hp → List Addr → List V → List D → Prop := RpA K Γ
abbrev RB : Hp → List Addr → Bool → Bool → Prop := fun _ _ a b => a = b
section
variable {K : PySem.W.Frag} {Γ : Nat → Addr} {W : WX} {σ : L2.St} {G F F' : Hp} {ι ι' : List Addr} {α β : Type} {R : Hp → List Addr → α → β → Prop} {Q Q' : α → Hp → Prop} {o : Out β}
theorem Post.ext (x : Ext F ι F' ι') (h : Post K Γ W σ G F ι R Q o) : Post K Γ W σ G F' ι' R Q o := by
  cases o with
  | ok d s => exact fun v H' F2 ι2 y => h v H' F2 ι2 (x.trans y)
  | err c p s => exact fun v H' F2 ι2 y => h v H' F2 ι2 (x.trans y)
  | bad => exact h
theorem Post.mono (h : Post K Γ W σ G F ι R Q o) (k : ∀ v H, Q v H → Q' v H) : Post K Γ W σ G F ι R Q' o := by
  cases o with
  | ok d s => exact fun v H' F2 ι2 y r q => k _ _ (h v H' F2 ι2 y r q)
  | err c p s => exact h
  | bad => exact h
end
/-- a reading's data: of an expression, arguments, a test -/
def GdX (K : PySem.W.Frag) (Γ : Nat → Addr) (W : WX) {α β : Type} (R : Hp → List Addr → α → β → Prop) (t : L2.St → Hp → (α → Hp → Prop) → Prop) (φ : DSt → Sto → Out β) : Prop :=
  ∀ (σ : L2.St) (H : Hp) (Q : α → Hp → Prop) (G F : Hp) (ι : List Addr) (s : Sto) (ds : DSt), RS K Γ F ι σ ds → Rel K Γ G F H ι s → Post K Γ W σ G F ι R Q (φ ds s) → t σ H Q
abbrev Gd (K : PySem.W.Frag) (Γ : Nat → Addr) (W : WX) (t : TE) (φ : FE) : Prop := GdX K Γ W (RV K Γ) t φ
abbrev Ga (K : PySem.W.Frag) (Γ : Nat → Addr) (W : WX) (t : TA) (φ : FA) : Prop := GdX K Γ W (RA K Γ) t φ
abbrev Gt (K : PySem.W.Frag) (Γ : Nat → Addr) (W : WX) (t : TT) (φ : FT) : Prop := GdX K Γ W RB t φ
structure DE (X : Cx) (K : PySem.W.Frag) (Γ : Nat → Addr) (W : WX) (e : Expr) (t : TE) (φ : FE) : Prop where
  pe : PE X e t
  gd : Gd K Γ W t φ
structure DA (X : Cx) (K : PySem.W.Frag) (Γ : Nat → Addr) (W : WX) (es : List Expr) (t : TA) (φ : FA) : Prop where
  pa : PA X es t
  gd : Ga K Γ W t φ
structure DT (X : Cx) (K : PySem.W.Frag) (Γ : Nat → Addr) (W : WX) (e : Expr) (t : TT) (φ : FT) : Prop where
  pt : PT X e t
  gd : Gt K Γ W t φ
structure DW (X : Cx) (K : PySem.W.Frag) (Γ : Nat → Addr) (W : WX) (e : Expr) (t : TT) (φ : FT) : Prop where
  pw : PW X e t
  gd : Gt K Γ W t φ
def bindX {α β : Type} (φ : DSt → Sto → Out α) (k : DSt → α → Sto → Out β) : DSt → Sto → Out β := fun ds s => (φ ds s).bind (k ds)
section
variable {X : Cx} {K : PySem.W.Frag} {Γ : Nat → Addr} {W : WX} {σ : L2.St} {H G F : Hp} {ι : List Addr} {s : Sto} {ds : DSt}
/-- one reading, then what follows -/
theorem GdX.step {α β α' β' : Type} {R : Hp → List Addr → α → β → Prop} {R' : Hp → List Addr → α' → β' → Prop} {t : L2.St → Hp → (α → Hp → Prop) → Prop} {φ : DSt → Sto → Out β} {Q : α → Hp → Prop} {Q' : α' → Hp → Prop} {k : β → Sto → Out β'}
    (g : GdX K Γ W R t φ) (hs : RS K Γ F ι σ ds) (hr : Rel K Γ G F H ι s) (hp : Post K Γ W σ G F ι R' Q' ((φ ds s).bind k))
    (hk : ∀ d s1 v H1 F1 ι1, Ext F ι F1 ι1 → Rel K Γ G F1 H1 ι1 s1 → R F1 ι1 v d → RS K Γ F1 ι1 σ ds → Post K Γ W σ G F1 ι1 R' Q' (k d s1) → Q v H1) : t σ H Q := by
  refine g σ H Q G F ι s ds hs hr ?_
  cases e : φ ds s with
  | ok d s1 =>
    rw [e] at hp
    exact fun v H1 F1 ι1 x r q => hk d s1 v H1 F1 ι1 x r q (hs.ext x) (hp.ext x)
  | err c p s1 => rw [e] at hp; exact hp
  | bad => rw [e] at hp; exact hp
end

/-! ### names and constants -/
def varD (i : Nat) : FE := fun ds s => match ds[i]? with
  | some (some d) => .ok d s
  | _ => .bad
def cD (d : D) : FE := fun _ s => .ok d s
section
variable {X : Cx} {K : PySem.W.Frag} {Γ : Nat → Addr} {W : WX} {pos : Pos}
theorem gd_var {i : Nat} : Gd K Γ W (tVar i) (varD i) := by
  intro σ H Q G F ι s ds hs hr hp
  unfold varD at hp
  split at hp
  · rename_i d e
    obtain ⟨v, e1, r⟩ := hs.2 i d e
    exact ⟨v, e1, hp v H F ι Ext.refl hr r⟩
  · exact hp.elim
theorem gd_c {v : V} {d : D} (h : ∀ F ι, Rp K Γ F ι v d) : Gd K Γ W (tC v) (cD d) := fun σ H Q G F ι s ds hs hr hp => hp v H F ι Ext.refl hr (h F ι)
theorem de_int {i : Int} {j} : DE X K Γ W (.Constant (.int i) j pos) (tC (.int i)) (cD (.int i)) := ⟨pe_int, gd_c fun _ _ => .int _⟩
theorem de_bl {b : Bool} {j} : DE X K Γ W (.Constant (.bool b) j pos) (tC (.bl b)) (cD (.bl b)) := ⟨pe_bl, gd_c fun _ _ => .bl _⟩
theorem de_non {j} : DE X K Γ W (.Constant .none j pos) (tC .non) (cD .non) := ⟨pe_non, gd_c fun _ _ => .non⟩
theorem de_str {x : Str} {j} : DE X K Γ W (.Constant (.str x) j pos) (tC (.str x)) (cD (.str x)) := ⟨pe_str, gd_c fun _ _ => .str _⟩
theorem de_glob {x : Str} {v : V} {d : D} (hg : L2.Gl X x) (hm : ∃ u, X.mg x = some u ∧ RelV v u) (hd : ∀ F ι, Rp K Γ F ι v d) (hx : (x == ("__debug__" : Str)) = false := by decide) : DE X K Γ W (.Name x pos) (tC v) (cD d) :=
  ⟨Gl.pe_globV hg hm hx, gd_c hd⟩
theorem de_globR {x : Str} {a : Addr} (hg : L2.Gl X x) (hm : X.mg x = some (.ref a)) (hx : (x == ("__debug__" : Str)) = false := by decide) : DE X K Γ W (.Name x pos) (tC (.ref a)) (cD (.raw (.ref a))) :=
  ⟨pe_glob hg hm rfl hx, gd_c fun _ _ => .raw _⟩
theorem de_ty {x : Str} {T : String} (hg : L2.Gl X x) (hm : X.mg x = none) (hv : bootBuiltins x = some (.type T)) (hn : x ≠ "__name__" := by decide) (hx : (x == ("__debug__" : Str)) = false := by decide) : DE X K Γ W (.Name x pos) (tC (.ty T)) (cD (.raw (.ty T))) :=
  ⟨pe_bltn hg hm hv rfl hn hx, gd_c fun _ _ => .raw _⟩
end

/-! ### argument lists, displays -/
def nilD : FA := fun _ s => .ok [] s
def consD (φ : FE) (ψ : FA) : FA := bindX φ fun ds x s => (ψ ds s).bind fun xs s => .ok (x :: xs) s
def tupD (φ : FA) : FE := bindX φ fun _ xs s => if (decide (xs.length ≤ sizeLine) && ncA xs) = true then .ok (.tup xs) s else .bad
def lstD (φ : FA) : FE := bindX φ fun _ xs s => if (decide (xs.length ≤ sizeLine) && ncA xs) = true then .ok (.lst xs) s else .bad
/-- a display that is a cell -/
def lstC (φ : FA) : FE := bindX φ fun _ xs s => if (decide (xs.length ≤ sizeLine) && ncA xs) = true then .ok (.cell s.length) (s ++ [.lst xs]) else .bad
section
variable {X : Cx} {K : PySem.W.Frag} {Γ : Nat → Addr} {W : WX} {pos : Pos} {e : Expr} {es : List Expr} {te : TE} {ta : TA} {φ : FE} {ψ : FA}
theorem da_nil : DA X K Γ W [] tNil nilD := ⟨pa_nil, fun σ H Q G F ι s ds hs hr hp => hp [] H F ι Ext.refl hr .nil⟩
theorem ga_cons (h1 : Gd K Γ W te φ) (h2 : Ga K Γ W ta ψ) : Ga K Γ W (tCons te ta) (consD φ ψ) := by
  intro σ H Q G F ι s ds hs hr hp
  refine h1.step hs hr hp fun d s1 v H1 F1 ι1 x1 r1 q1 hs1 hp1 => ?_
  refine h2.step hs1 r1 hp1 fun es s2 vs H2 F2 ι2 x2 r2 q2 hs2 hp2 => ?_
  exact hp2 (v :: vs) H2 F2 ι2 Ext.refl r2 (.cons (q1.ext x2) q2)
theorem da_cons (h1 : DE X K Γ W e te φ) (h2 : DA X K Γ W es ta ψ) (hs : starEach (e :: es) X.env = (false, eval e X.env) :: starEach es X.env := by rfl) : DA X K Γ W (e :: es) (tCons te ta) (consD φ ψ) :=
  ⟨pa_cons h1.pe h2.pa hs, ga_cons h1.gd h2.gd⟩
theorem de_tup {x1} (h : DA X K Γ W es ta ψ) : DE X K Γ W (.Tuple es x1 pos) (tTup ta) (tupD ψ) := by
  refine ⟨pe_tup h.pa, fun σ H Q G F ι s ds hs hr hp => h.gd.step hs hr hp fun xs s1 vs H1 F1 ι1 x1 r1 q1 hs1 hp1 => ?_⟩
  dsimp only at hp1
  split at hp1
  · rename_i hz
    rw [Bool.and_eq_true, decide_eq_true_eq] at hz
    refine ⟨by rw [q1.length]; exact hz.1, fun p np => ?_⟩
    obtain ⟨r2, x2⟩ := r1.new (o := .tup vs) np
    exact hp1 _ _ _ _ x2 r2 (.tup (SqT.of upd_same) ((q1.fz hz.2).ext x2.nil))
  · exact hp1.elim
theorem de_lst (h : DA X K Γ W es ta ψ) : DE X K Γ W (.List es pos) (tLst ta) (lstD ψ) := by
  refine ⟨pe_lst h.pa, fun σ H Q G F ι s ds hs hr hp => h.gd.step hs hr hp fun xs s1 vs H1 F1 ι1 x1 r1 q1 hs1 hp1 => ?_⟩
  dsimp only at hp1
  split at hp1
  · rename_i hz
    rw [Bool.and_eq_true, decide_eq_true_eq] at hz
    refine ⟨by rw [q1.length]; exact hz.1, fun p np => ?_⟩
    obtain ⟨r2, x2⟩ := r1.new (o := .lst vs) np
    exact hp1 _ _ _ _ x2 r2 (.lst upd_same ((q1.fz hz.2).ext x2.nil))
  · exact hp1.elim
theorem de_lstC (h : DA X K Γ W es ta ψ) : DE X K Γ W (.List es pos) (tLst ta) (lstC ψ) := by
  refine ⟨pe_lst h.pa, fun σ H Q G F ι s ds hs hr hp => h.gd.step hs hr hp fun xs s1 vs H1 F1 ι1 x1 r1 q1 hs1 hp1 => ?_⟩
  dsimp only at hp1
  split at hp1
  · rename_i hz
    rw [Bool.and_eq_true, decide_eq_true_eq] at hz
    refine ⟨by rw [q1.length]; exact hz.1, fun p np => ?_⟩
    have x2 : Ext F1 ι1 F1 (ι1 ++ [p]) := ⟨fun _ _ e => e, fun n a e => by rw [List.getElem?_append_left (List.getElem?_eq_some_iff.mp e).1]; exact e⟩
    obtain ⟨r2, x2⟩ := r1.push (o := .lst vs) (c := .lst xs) np ⟨same_newF r1.sub np, vs, upd_same, q1.fz hz.2⟩
    refine hp1 _ _ _ _ x2 r2 (.cell ?_)
    rw [List.getElem?_append_right (by rw [r1.len]; exact Nat.le_refl _), r1.len, Nat.sub_self]
    rfl
  · exact hp1.elim
end

/-! ### operators -/
/-- what an operator does to data -/
def OpG (K : PySem.W.Frag) (Γ : Nat → Addr) (r : R2) (f : D → D → Sto → Out D) : Prop :=
  ∀ (W : WX) (σ : L2.St) (H : Hp) (Q : VK) (G F : Hp) (ι : List Addr) (s : Sto) (x y : D) (v u : V), Rel K Γ G F H ι s → Rp K Γ F ι v x → Rp K Γ F ι u y → Post K Γ W σ G F ι (RV K Γ) Q (f x y s) → r v u H Q
def op2 (f : D → D → Sto → Out D) (φ ψ : FE) : FE := bindX φ fun ds x s => (ψ ds s).bind fun y s => f x y s
theorem OpR.or {X : Cx} {f : Value → Value → Sem Value} {r r' : R2} (h : OpR X f r) (h' : OpR X f r') : OpR X f (fun x y H Q => r x y H Q ∨ r' x y H Q) := by
  intro pins s σ H x y v u Q I rx ry q
  rcases q with q | q
  · exact h pins s σ H x y v u Q I rx ry q
  · exact h' pins s σ H x y v u Q I rx ry q
section
variable {X : Cx} {K : PySem.W.Frag} {Γ : Nat → Addr} {W : WX} {pos : Pos} {a b c : Expr} {ta tb tc : TE} {φ ψ χ : FE} {r r' : R2} {f f' : D → D → Sto → Out D}
theorem gd_op (g : OpG K Γ r f) (ha : Gd K Γ W ta φ) (hb : Gd K Γ W tb ψ) : Gd K Γ W (tOp r ta tb) (op2 f φ ψ) := by
  intro σ H Q G F ι s ds hs hr hp
  refine ha.step hs hr hp fun x s1 v H1 F1 ι1 x1 r1 q1 hs1 hp1 => ?_
  refine hb.step hs1 r1 hp1 fun y s2 u H2 F2 ι2 x2 r2 q2 hs2 hp2 => ?_
  exact g W σ H2 Q G F2 ι2 s2 x y v u r2 (q1.ext x2) q2 hp2
theorem de_op {op : Operator} (ho : OpR X (binaryOp op) r) (g : OpG K Γ r f) (ha : DE X K Γ W a ta φ) (hb : DE X K Γ W b tb ψ) : DE X K Γ W (.BinOp a op b pos) (tOp r ta tb) (op2 f φ ψ) := ⟨pe_op ho ha.pe hb.pe, gd_op g ha.gd hb.gd⟩
theorem de_cmp {op : CmpOp} (ho : OpR X (compareOp op) r) (g : OpG K Γ r f) (ha : DE X K Γ W a ta φ) (hb : DE X K Γ W b tb ψ) (hm : behindInMarks op b = false) : DE X K Γ W (.Compare a [op] [b] pos) (tOp r ta tb) (op2 f φ ψ) := ⟨pe_cmpR ho ha.pe hb.pe hm, gd_op g ha.gd hb.gd⟩
/-- a value that is a bool, as a test -/
def testD (φ : FE) : FT := bindX φ fun _ x s => match x with
  | .bl b => .ok b s
  | _ => .bad
theorem gt_test (h : Gd K Γ W ta φ) : Gt K Γ W (tTest ta) (testD φ) := by
  intro σ H Q G F ι s ds hs hr hp
  refine h.step hs hr hp fun x s1 v H1 F1 ι1 x1 r1 q1 hs1 hp1 => ?_
  cases x <;> first | exact hp1.elim | skip
  cases q1
  exact ⟨_, rfl, hp1 _ _ _ _ Ext.refl r1 rfl⟩
theorem dt_cmp {op : CmpOp} (ho : OpR X (compareOp op) r) (g : OpG K Γ r f) (ha : DE X K Γ W a ta φ) (hb : DE X K Γ W b tb ψ) (hm : behindInMarks op b = false) : DT X K Γ W (.Compare a [op] [b] pos) (tTest (tOp r ta tb)) (testD (op2 f φ ψ)) := ⟨pt_cmpR ho ha.pe hb.pe hm, gt_test (gd_op g ha.gd hb.gd)⟩
theorem dt_val (h : DE X K Γ W a ta φ) (he : ∀ whole, isTrue a X.env whole = (do let v ← whole; standAt a.pos; holding [v] (truthy v)) := by intro _; rfl) : DT X K Γ W a (tB ta) (testD φ) := ⟨pt_val h.pe he, gt_test h.gd⟩
/-- a < b < c -/
def chainD (f f' : D → D → Sto → Out D) (φ ψ χ : FE) : FE := bindX φ fun ds x s => (ψ ds s).bind fun y s => (f x y s).bind fun z s => match z with
  | .bl true => (χ ds s).bind fun w s => f' y w s
  | .bl false => .ok (.bl false) s
  | _ => .bad
theorem gd_chain (g : OpG K Γ r f) (g' : OpG K Γ r' f') (ha : Gd K Γ W ta φ) (hb : Gd K Γ W tb ψ) (hc : Gd K Γ W tc χ) : Gd K Γ W (tChain r r' ta tb tc) (chainD f f' φ ψ χ) := by
  intro σ H Q G F ι s ds hs hr hp
  refine ha.step hs hr hp fun x s1 v H1 F1 ι1 x1 r1 q1 hs1 hp1 => ?_
  refine hb.step hs1 r1 hp1 fun y s2 u H2 F2 ι2 x2 r2 q2 hs2 hp2 => ?_
  refine g W σ H2 _ G F2 ι2 s2 x y v u r2 (q1.ext x2) q2 ?_
  cases e : f x y s2 with
  | bad => rw [e] at hp2; exact hp2
  | err c p s3 => rw [e] at hp2; exact hp2
  | ok z s3 =>
    rw [e] at hp2
    intro w H3 F3 ι3 x3 r3 q3
    replace hp2 := hp2.ext x3
    cases z <;> first | exact hp2.elim | skip
    rename_i k
    cases q3
    refine ⟨k, rfl, ?_⟩
    cases k with
    | false => exact hp2 _ _ _ _ Ext.refl r3 (.bl _)
    | true =>
      refine hc.step (hs2.ext x3) r3 hp2 fun z s4 w H4 F4 ι4 x4 r4 q4 hs4 hp4 => ?_
      exact g' W σ H4 Q G F4 ι4 s4 y z u w r4 (q2.ext (x3.trans x4)) q4 hp4
theorem de_chain {op op' : CmpOp} (ho : OpR X (compareOp op) r) (g : OpG K Γ r f) (ho' : OpR X (compareOp op') r') (g' : OpG K Γ r' f') (ha : DE X K Γ W a ta φ) (hb : DE X K Γ W b tb ψ) (hc : DE X K Γ W c tc χ)
    (hm : lastMarks [op, op'] [b, c] = false := by with_unfolding_all rfl) : DE X K Γ W (.Compare a [op, op'] [b, c] pos) (tChain r r' ta tb tc) (chainD f f' φ ψ χ) := ⟨pe_chain ho ho' ha.pe hb.pe hc.pe hm, gd_chain g g' ha.gd hb.gd hc.gd⟩
theorem dt_chain {op op' : CmpOp} (ho : OpR X (compareOp op) r) (g : OpG K Γ r f) (ho' : OpR X (compareOp op') r') (g' : OpG K Γ r' f') (ha : DE X K Γ W a ta φ) (hb : DE X K Γ W b tb ψ) (hc : DE X K Γ W c tc χ)
    (hm : lastMarks [op, op'] [b, c] = false := by with_unfolding_all rfl) : DT X K Γ W (.Compare a [op, op'] [b, c] pos) (tTest (tChain r r' ta tb tc)) (testD (chainD f f' φ ψ χ)) := ⟨pt_chain ho ho' ha.pe hb.pe hc.pe hm, gt_test (gd_chain g g' ha.gd hb.gd hc.gd)⟩
end
/-! ### and, or, not, x if c else y -/
def notD (x : D) (s : Sto) : Out D := match x with
  | .bl b => .ok (.bl (!b)) s
  | _ => .bad
def andD (φ ψ : FE) : FE := bindX φ fun ds x s => match x with
  | .bl true => ψ ds s
  | .bl false => .ok (.bl false) s
  | _ => .bad
def orD (φ ψ : FE) : FE := bindX φ fun ds x s => match x with
  | .bl false => ψ ds s
  | .bl true => .ok (.bl true) s
  | _ => .bad
def andT (φ ψ : FT) : FT := bindX φ fun ds x s => match x with
  | true => ψ ds s
  | false => .ok false s
def orT (φ ψ : FT) : FT := bindX φ fun ds x s => match x with
  | false => ψ ds s
  | true => .ok true s
def notT (φ : FT) : FT := bindX φ fun _ x s => .ok (!x) s
def ifD (c : FT) (φ ψ : FE) : FE := bindX c fun ds x s => match x with
  | true => φ ds s
  | false => ψ ds s
section
variable {X : Cx} {K : PySem.W.Frag} {Γ : Nat → Addr} {W : WX} {pos : Pos} {a b : Expr} {rest : List Expr} {ta tb : TE} {φ ψ : FE} {tt tu : TT} {μ ν : FT}
theorem de_one {op} (h : DE X K Γ W a ta φ) : DE X K Γ W (.BoolOp op [a] pos) ta φ := ⟨pe_one h.pe, h.gd⟩
theorem de_and (h1 : DE X K Γ W a ta φ) (h2 : DE X K Γ W (.BoolOp .And (b :: rest) pos) tb ψ) : DE X K Γ W (.BoolOp .And (a :: b :: rest) pos) (tAndV ta tb) (andD φ ψ) := by
  refine ⟨pe_and h1.pe h2.pe, fun σ H Q G F ι s ds hs hr hp => h1.gd.step hs hr hp fun x s1 v H1 F1 ι1 x1 r1 q1 hs1 hp1 => ?_⟩
  cases x <;> first | exact hp1.elim | skip
  rename_i k
  cases q1
  refine ⟨k, rfl, ?_⟩
  cases k with
  | true => exact iteT (h2.gd σ H1 Q G F1 ι1 s1 ds hs1 r1 hp1)
  | false => exact iteF (hp1 _ _ _ _ Ext.refl r1 (.bl _))
theorem de_or (h1 : DE X K Γ W a ta φ) (h2 : DE X K Γ W (.BoolOp .Or (b :: rest) pos) tb ψ) : DE X K Γ W (.BoolOp .Or (a :: b :: rest) pos) (tOrV ta tb) (orD φ ψ) := by
  refine ⟨pe_or h1.pe h2.pe, fun σ H Q G F ι s ds hs hr hp => h1.gd.step hs hr hp fun x s1 v H1 F1 ι1 x1 r1 q1 hs1 hp1 => ?_⟩
  cases x <;> first | exact hp1.elim | skip
  rename_i k
  cases q1
  refine ⟨k, rfl, ?_⟩
  cases k with
  | true => exact iteT (hp1 _ _ _ _ Ext.refl r1 (.bl _))
  | false => exact iteF (h2.gd σ H1 Q G F1 ι1 s1 ds hs1 r1 hp1)
theorem de_not (h : DE X K Γ W a ta φ) : DE X K Γ W (.UnaryOp .Not a pos) (tNotV ta) (bindX φ fun _ => notD) := by
  refine ⟨pe_not h.pe, fun σ H Q G F ι s ds hs hr hp => h.gd.step hs hr hp fun x s1 v H1 F1 ι1 x1 r1 q1 hs1 hp1 => ?_⟩
  cases x <;> first | exact hp1.elim | skip
  rename_i k
  cases q1
  exact ⟨k, rfl, hp1 _ _ _ _ Ext.refl r1 (.bl _)⟩
def negD (x : D) (s : Sto) : Out D := match x with
  | .int i => .ok (.int (-i)) s
  | _ => .bad
theorem de_neg (h : DE X K Γ W a ta φ) : DE X K Γ W (.UnaryOp .USub a pos) (tUn (rU fun i => .int (-i)) ta) (bindX φ fun _ => negD) := by
  refine ⟨pe_un un_neg h.pe, fun σ H Q G F ι s ds hs hr hp => h.gd.step hs hr hp fun x s1 v H1 F1 ι1 x1 r1 q1 hs1 hp1 => ?_⟩
  cases x <;> first | exact hp1.elim | skip
  cases q1
  exact ⟨_, rfl, hp1 _ _ _ _ Ext.refl r1 (.int _)⟩
theorem dw_and1 (h : DT X K Γ W a tt μ) : DW X K Γ W (.BoolOp .And [a] pos) tt μ := ⟨pw_and1 h.pt, h.gd⟩
theorem dw_or1 (h : DT X K Γ W a tt μ) : DW X K Γ W (.BoolOp .Or [a] pos) tt μ := ⟨pw_or1 h.pt, h.gd⟩
theorem dw_and (h1 : DT X K Γ W a tt μ) (h2 : DW X K Γ W (.BoolOp .And (b :: rest) pos) tu ν) : DW X K Γ W (.BoolOp .And (a :: b :: rest) pos) (tAnd tt tu) (andT μ ν) := by
  refine ⟨pw_and h1.pt h2.pw, fun σ H Q G F ι s ds hs hr hp => h1.gd.step hs hr hp fun x s1 v H1 F1 ι1 x1 r1 q1 hs1 hp1 => ?_⟩
  cases (show v = x from q1)
  cases x with
  | true => exact iteT (h2.gd σ H1 Q G F1 ι1 s1 ds hs1 r1 hp1)
  | false => exact iteF (hp1 _ _ _ _ Ext.refl r1 rfl)
theorem dw_or (h1 : DT X K Γ W a tt μ) (h2 : DW X K Γ W (.BoolOp .Or (b :: rest) pos) tu ν) : DW X K Γ W (.BoolOp .Or (a :: b :: rest) pos) (tOr tt tu) (orT μ ν) := by
  refine ⟨pw_or h1.pt h2.pw, fun σ H Q G F ι s ds hs hr hp => h1.gd.step hs hr hp fun x s1 v H1 F1 ι1 x1 r1 q1 hs1 hp1 => ?_⟩
  cases (show v = x from q1)
  cases x with
  | true => exact iteT (hp1 _ _ _ _ Ext.refl r1 rfl)
  | false => exact iteF (h2.gd σ H1 Q G F1 ι1 s1 ds hs1 r1 hp1)
theorem DW.dt (h : DW X K Γ W a tt μ) : DT X K Γ W a tt μ := ⟨h.pw.pt, h.gd⟩
theorem dt_not (h : DT X K Γ W a tt μ) : DT X K Γ W (.UnaryOp .Not a pos) (tNot tt) (notT μ) := by
  refine ⟨pt_not h.pt, fun σ H Q G F ι s ds hs hr hp => h.gd.step hs hr hp fun x s1 v H1 F1 ι1 x1 r1 q1 hs1 hp1 => ?_⟩
  cases (show v = x from q1)
  exact hp1 _ _ _ _ Ext.refl r1 rfl
theorem de_if {c : Expr} (hc : DT X K Γ W c tt μ) (h1 : DE X K Γ W a ta φ) (h2 : DE X K Γ W b tb ψ) : DE X K Γ W (.IfExp c a b pos) (tIf tt ta tb) (ifD μ φ ψ) := by
  refine ⟨pe_ifExp hc.pt h1.pe h2.pe, fun σ H Q G F ι s ds hs hr hp => hc.gd.step hs hr hp fun x s1 v H1 F1 ι1 x1 r1 q1 hs1 hp1 => ?_⟩
  cases (show v = x from q1)
  cases x with
  | true => exact iteT (h1.gd σ H1 Q G F1 ι1 s1 ds hs1 r1 hp1)
  | false => exact iteF (h2.gd σ H1 Q G F1 ι1 s1 ds hs1 r1 hp1)
end
end Md

set_option Elab.async false
set_option maxRecDepth 100000
set_option maxHeartbeats 4000000
set_option linter.all false
/-! the mirror layer: operators over data -/
namespace Md
open PySem PySem.Spec PyProof.Rows L2
/-- the items of a list, frozen or a cell -/
def viewL : D → Sto → Option (List D)
  | .lst xs, _ => some xs
  | .cell n, s => match s[n]? with
    | some (.lst xs) => some xs
    | _ => none
  | _, _ => none
section
variable {K : PySem.W.Frag} {Γ : Nat → Addr} {W : WX} {σ : L2.St} {H G F : Hp} {ι : List Addr} {s : Sto} {x y : D} {v u : V} {xs : List D}
theorem Rel.view (r : Rel K Γ G F H ι s) (h : Rp K Γ F ι v x) (e : viewL x s = some xs) : ∃ a vs, v = .ref a ∧ H a = some (.lst vs) ∧ RpA K Γ F [] vs xs := by
  cases x <;> first | (cases e; done) | skip
  · cases e
    cases h with
    | lst h g => exact ⟨_, _, rfl, r.sub _ _ h, g⟩
  · rename_i n
    cases h with
    | cell h =>
      have e' : (match s[n]? with | some (.lst xs) => some xs | _ => none) = some xs := e
      split at e'
      · rename_i q
        cases e'
        obtain ⟨_, vs, e1, g⟩ := r.at_ n _ _ q h
        exact ⟨_, vs, rfl, e1, g⟩
      · cases e'
end
/-! ### + -/
def addD (x y : D) (s : Sto) : Out D := match x, y with
  | .int a, .int b => .ok (.int (a + b)) s
  | .str a, .str b => if a.length + b.length ≤ sizeLine then .ok (.str (a ++ b)) s else .bad
  | .tup a, .tup b => if a.length + b.length ≤ sizeLine then .ok (.tup (a ++ b)) s else .bad
  | x, y => match viewL x s, viewL y s with
    | some a, some b => if a.length + b.length ≤ sizeLine then .ok (.lst (a ++ b)) s else .bad
    | _, _ => .bad
def subD (x y : D) (s : Sto) : Out D := match x, y with
  | .int a, .int b => .ok (.int (a - b)) s
  | _, _ => .bad
/-- a size that products may have -/
def smB (x : Int) : Bool := decide (x.natAbs.log2 < 100000)
/-- a factor that asks nothing of the other -/
def sm64 (x : Int) : Bool := decide (-(2 ^ 64) < x) && decide (x < 2 ^ 64)
def mulB (a b : Int) : Bool := sm64 a || (sm64 b || (smB a && smB b))
def mulD (x y : D) (s : Sto) : Out D := match x, y with
  | .int a, .int b => if mulB a b = true then .ok (.int (a * b)) s else .bad
  | x, .int k => match viewL x s with
    | some a => if (decide (-1000 ≤ k) && decide (k ≤ 1000) && decide (a.length ≤ 1000)) = true then .ok (.lst (List.replicate k.toNat a).flatten) s else .bad
    | none => .bad
  | _, _ => .bad
def divD (x y : D) (s : Sto) : Out D := match x, y with
  | .int a, .int b => if (decide (0 < b) && decide (b < Gl.B9)) = true then .ok (.int (a / b)) s else .bad
  | _, _ => .bad
def modD (x y : D) (s : Sto) : Out D := match x, y with
  | .int a, .int b => if 0 < b then .ok (.int (a % b)) s else .bad
  | _, _ => .bad
def powD (x y : D) (s : Sto) : Out D := match x, y with
  | .int a, .int b => if (decide (0 ≤ b) && decide ((Builtin.Int.intBits a : Int) * b ≤ 2 ^ 27)) = true then .ok (.int (a ^ b.toNat)) s else .bad
  | _, _ => .bad
def cmpD (f : Int → Int → Bool) (g : Str → Str → Bool) (x y : D) (s : Sto) : Out D := match x, y with
  | .int a, .int b => .ok (.bl (f a b)) s
  | .str a, .str b => .ok (.bl (g a b)) s
  | _, _ => .bad
def ltD : D → D → Sto → Out D := cmpD (fun a b => decide (a < b)) fun a b => decide (a.cps.toList < b.cps.toList)
def leD : D → D → Sto → Out D := cmpD (fun a b => decide (a ≤ b)) fun a b => !decide (b.cps.toList < a.cps.toList)
def gtD : D → D → Sto → Out D := cmpD (fun a b => decide (b < a)) fun a b => decide (b.cps.toList < a.cps.toList)
def geD : D → D → Sto → Out D := cmpD (fun a b => decide (b ≤ a)) fun a b => !decide (a.cps.toList < b.cps.toList)
section
variable {X : Cx} {K : PySem.W.Frag} {Γ : Nat → Addr}
def rStr2 (C : Str → Str → Prop) (g : Str → Str → V) : R2 := fun x y H Q => ∃ i j, x = .str i ∧ y = .str j ∧ C i j ∧ Q (g i j) H
def rAddA (K : PySem.W.Frag) : R2 := fun x y H Q => (rI0 (fun i j => .int (i + j)) x y H Q) ∨ (rStr2 (fun i j => i.length + j.length ≤ sizeLine) (fun i j => .str (i ++ j)) x y H Q) ∨ (rCatA K x y H Q) ∨ (rCat x y H Q)
theorem op_addA (hK : X.K = K := by rfl) : OpR X (binaryOp .Add) (rAddA K) := by
  subst hK
  exact op_add.or (op_add_str.or (op_catA.or op_cat))
theorem og_add : OpG K Γ (rAddA K) addD := by
  intro W σ H Q G F ι s x y v u r h1 h2 hp
  unfold addD at hp
  split at hp
  · cases h1; cases h2
    exact Or.inl ⟨_, _, rfl, rfl, hp _ _ _ _ Ext.refl r (.int _)⟩
  · cases h1; cases h2
    split at hp
    · rename_i hz
      exact Or.inr (Or.inl ⟨_, _, rfl, rfl, hz, hp _ _ _ _ Ext.refl r (.str _)⟩)
    · exact hp.elim
  · split at hp
    · rename_i a b hz
      cases h1 with
      | tup t1 g1 =>
        cases h2 with
        | tup t2 g2 =>
          refine Or.inr (Or.inr (Or.inl ⟨_, _, _, _, rfl, rfl, Gl.sqTS r.sub t1, Gl.sqTS r.sub t2, by rw [g1.length, g2.length]; exact hz, fun e => ?_, fun _ e => ?_, fun _ _ p np => ?_⟩))
          · subst e; cases g1
            exact hp _ _ _ _ Ext.refl r (.tup t2 g2)
          · subst e; cases g2
            rw [List.append_nil] at hp
            exact hp _ _ _ _ Ext.refl r (.tup t1 g1)
          · obtain ⟨r2, x2⟩ := r.new (o := .tup _) np
            exact hp _ _ _ _ x2 r2 (.tup (SqT.of upd_same) ((g1.append g2).ext x2.nil))
    · exact hp.elim
  · split at hp
    · rename_i e1 e2
      obtain ⟨a1, vs1, rfl, m1, g1⟩ := r.view h1 e1
      obtain ⟨a2, vs2, rfl, m2, g2⟩ := r.view h2 e2
      split at hp
      · rename_i hz
        refine Or.inr (Or.inr (Or.inr ⟨_, _, _, _, rfl, rfl, m1, m2, by rw [g1.length, g2.length]; exact hz, fun p np => ?_⟩))
        obtain ⟨r2, x2⟩ := r.new (o := .lst _) np
        exact hp _ _ _ _ x2 r2 (.lst upd_same ((g1.append g2).ext x2.nil))
      · exact hp.elim
    · exact hp.elim
theorem og_sub : OpG K Γ (rI0 fun i j => .int (i - j)) subD := by
  intro W σ H Q G F ι s x y v u r h1 h2 hp
  unfold subD at hp
  split at hp
  · cases h1; cases h2
    exact ⟨_, _, rfl, rfl, hp _ _ _ _ Ext.refl r (.int _)⟩
  · exact hp.elim
theorem flat_rep {F : Hp} {ι : List Addr} {vs : List V} {ds : List D} (h : RpA K Γ F ι vs ds) : ∀ n, RpA K Γ F ι (List.replicate n vs).flatten (List.replicate n ds).flatten
  | 0 => .nil
  | n + 1 => by
    rw [List.replicate_succ, List.flatten_cons, List.replicate_succ, List.flatten_cons]
    exact h.append (flat_rep h n)
def rMulA : R2 := fun x y H Q => (rI Gl.CMulA (fun i j => .int (i * j)) x y H Q) ∨ rRep x y H Q
theorem op_mulAA : OpR X (binaryOp .Mult) rMulA := Gl.op_mulA.or op_rep
theorem og_mul : OpG K Γ rMulA mulD := by
  intro W σ H Q G F ι s x y v u r h1 h2 hp
  unfold mulD at hp
  split at hp
  · cases h1; cases h2
    split at hp
    · rename_i hc
      refine Or.inl ⟨_, _, rfl, rfl, ?_, hp _ _ _ _ Ext.refl r (.int _)⟩
      unfold mulB sm64 smB at hc
      simp only [Bool.or_eq_true, Bool.and_eq_true, decide_eq_true_eq] at hc
      rcases hc with c | c | c
      · exact Gl.cmulL c.1 c.2
      · exact Gl.cmulR c.1 c.2
      · exact Gl.cmulS c.1 c.2
    · exact hp.elim
  · rename_i k hk
    cases h2
    split at hp
    · rename_i a e1
      obtain ⟨a1, vs1, rfl, m1, g1⟩ := r.view h1 e1
      split at hp
      · rename_i hc
        simp only [Bool.and_eq_true, decide_eq_true_eq] at hc
        obtain ⟨⟨c1, c2⟩, c3⟩ := hc
        have hz : vs1.length * k.toNat ≤ 1000 * 1000 := Nat.mul_le_mul (by rw [g1.length]; exact c3) (by omega)
        refine Or.inr ⟨_, _, _, rfl, rfl, m1, by omega, by omega, Nat.le_trans hz (by decide), fun p np => ?_⟩
        obtain ⟨r2, x2⟩ := r.new (o := .lst _) np
        exact hp _ _ _ _ x2 r2 (.lst upd_same ((flat_rep g1 _).ext x2.nil))
      · exact hp.elim
    · exact hp.elim
  · exact hp.elim
theorem og_div : OpG K Γ (rI Gl.CDivA fun i j => .int (i / j)) divD := by
  intro W σ H Q G F ι s x y v u r h1 h2 hp
  unfold divD at hp
  split at hp
  · cases h1; cases h2
    split at hp
    · rename_i hc
      simp only [Bool.and_eq_true, decide_eq_true_eq] at hc
      exact ⟨_, _, rfl, rfl, hc, hp _ _ _ _ Ext.refl r (.int _)⟩
    · exact hp.elim
  · exact hp.elim
theorem og_mod : OpG K Γ (rI (fun _ j => 0 < j) fun i j => .int (i % j)) modD := by
  intro W σ H Q G F ι s x y v u r h1 h2 hp
  unfold modD at hp
  split at hp
  · cases h1; cases h2
    split at hp
    · rename_i hc
      exact ⟨_, _, rfl, rfl, hc, hp _ _ _ _ Ext.refl r (.int _)⟩
    · exact hp.elim
  · exact hp.elim
theorem og_pow : OpG K Γ (rI Gl.CPowA fun i j => .int (i ^ j.toNat)) powD := by
  intro W σ H Q G F ι s x y v u r h1 h2 hp
  unfold powD at hp
  split at hp
  · cases h1; cases h2
    split at hp
    · rename_i hc
      simp only [Bool.and_eq_true, decide_eq_true_eq] at hc
      exact ⟨_, _, rfl, rfl, hc, hp _ _ _ _ Ext.refl r (.int _)⟩
    · exact hp.elim
  · exact hp.elim
def rCmp (f : Int → Int → Bool) (g : Str → Str → Bool) : R2 := fun x y H Q => (rI0 (fun i j => .bl (f i j)) x y H Q) ∨ ∃ i j, x = .str i ∧ y = .str j ∧ Q (.bl (g i j)) H
theorem og_cmp {f : Int → Int → Bool} {g : Str → Str → Bool} : OpG K Γ (rCmp f g) (cmpD f g) := by
  intro W σ H Q G F ι s x y v u r h1 h2 hp
  unfold cmpD at hp
  split at hp
  · cases h1; cases h2
    exact Or.inl ⟨_, _, rfl, rfl, hp _ _ _ _ Ext.refl r (.bl _)⟩
  · cases h1; cases h2
    exact Or.inr ⟨_, _, rfl, rfl, hp _ _ _ _ Ext.refl r (.bl _)⟩
  · exact hp.elim
theorem op_ltA : OpR X (compareOp .Lt) (rCmp (fun a b => decide (a < b)) fun a b => decide (a.cps.toList < b.cps.toList)) := op_lt.or op_lt_str
theorem op_leA : OpR X (compareOp .LtE) (rCmp (fun a b => decide (a ≤ b)) fun a b => !decide (b.cps.toList < a.cps.toList)) := op_le.or op_le_str
theorem op_gtA : OpR X (compareOp .Gt) (rCmp (fun a b => decide (b < a)) fun a b => decide (b.cps.toList < a.cps.toList)) := op_gt.or op_gt_str
theorem op_geA : OpR X (compareOp .GtE) (rCmp (fun a b => decide (b ≤ a)) fun a b => !decide (a.cps.toList < b.cps.toList)) := op_ge.or op_ge_str
/-! is None -/
def isND (x y : D) (s : Sto) : Out D := match x, y with
  | .raw _, _ => .bad
  | .non, .non => .ok (.bl true) s
  | _, .non => .ok (.bl false) s
  | _, _ => .bad
def isNotND (x y : D) (s : Sto) : Out D := match x, y with
  | .raw _, _ => .bad
  | .non, .non => .ok (.bl false) s
  | _, .non => .ok (.bl true) s
  | _, _ => .bad
theorem Rp.non_iff {F : Hp} {ι : List Addr} {v : V} {x : D} (h : Rp K Γ F ι v x) (hr : ∀ w, x ≠ .raw w) : (v = .non ↔ x = .non) := by
  constructor
  · rintro rfl
    cases h with
    | non => rfl
    | raw => exact absurd rfl (hr _)
  · rintro rfl
    cases h
    rfl
theorem og_isN : OpG K Γ (fun x y H Q => y = .non ∧ Q (.bl (decide (x = .non))) H) isND := by
  intro W σ H Q G F ι s x y v u r h1 h2 hp
  unfold isND at hp
  split at hp
  · exact hp.elim
  · cases h1; cases h2
    exact ⟨rfl, hp _ _ _ _ Ext.refl r (.bl _)⟩
  · rename_i n1 n2
    cases h2
    refine ⟨rfl, ?_⟩
    rw [decide_eq_false fun e => n2 ((h1.non_iff n1).mp e)]
    exact hp _ _ _ _ Ext.refl r (.bl _)
  · exact hp.elim
theorem og_isNotN : OpG K Γ (fun x y H Q => y = .non ∧ Q (.bl (!decide (x = .non))) H) isNotND := by
  intro W σ H Q G F ι s x y v u r h1 h2 hp
  unfold isNotND at hp
  split at hp
  · exact hp.elim
  · cases h1; cases h2
    exact ⟨rfl, hp _ _ _ _ Ext.refl r (.bl _)⟩
  · rename_i n1 n2
    cases h2
    refine ⟨rfl, ?_⟩
    rw [decide_eq_false fun e => n2 ((h1.non_iff n1).mp e)]
    exact hp _ _ _ _ Ext.refl r (.bl _)
  · exact hp.elim
end
end Md

set_option Elab.async false
set_option maxRecDepth 100000
set_option maxHeartbeats 4000000
set_option linter.all false
/-! the mirror layer: data that is compared, looked into, cut, shown -/
namespace Md
open PySem PySem.Spec PyProof.Rows L2
/-! ### plain data of the library -/
mutual
def D.py : D → Option PyData
  | .non => some .none
  | .bl b => some (.bool b)
  | .int i => some (.int i)
  | .str x => some (.str x)
  | .lst xs => match pyA xs with
    | some ys => some (.list ys)
    | none => none
  | .tup xs => match pyA xs with
    | some ys => some (.tuple ys)
    | none => none
  | _ => none
def pyA : List D → Option (List PyData)
  | [] => some []
  | x :: xs => match x.py, pyA xs with
    | some y, some ys => some (y :: ys)
    | _, _ => none
end
/-- a cell's list as it stands -/
def vw (x : D) (s : Sto) : D := match x with
  | .cell n => match s[n]? with
    | some (.lst xs) => .lst xs
    | some (.dic kvs) => .dic kvs
    | _ => .cell n
  | x => x
section
variable {K : PySem.W.Frag} {Γ : Nat → Addr} {F H G : Hp} {ι : List Addr} {s : Sto}
mutual
theorem Rp.dp (sm : Same F H) : ∀ {ι : List Addr} {d : D} {v : V} {q : PyData}, Rp K Γ F ι v d → d.py = some q → Dp K H v q
  | _, .non, _, _, .non, e => by cases e; exact .non
  | _, .bl _, _, _, .bl b, e => by cases e; exact .bl b
  | _, .int _, _, _, .int i, e => by cases e; exact .int i
  | _, .str _, _, _, .str z, e => by cases e; exact .str z
  | _, .lst ds, _, q, .lst h g, e => by
    unfold D.py at e
    split at e
    · rename_i ys e1
      cases e
      exact .lst (SqL.of (sm _ _ h)) (RpA.dp sm g e1)
    · cases e
  | _, .tup ds, _, q, .tup h g, e => by
    unfold D.py at e
    split at e
    · rename_i ys e1
      cases e
      exact .tup (Gl.sqTS sm h) (RpA.dp sm g e1)
    · cases e
theorem RpA.dp (sm : Same F H) : ∀ {ι : List Addr} {ds : List D} {vs : List V} {qs : List PyData}, RpA K Γ F ι vs ds → pyA ds = some qs → DpAll K H vs qs
  | _, [], _, _, .nil, e => by cases e; exact .nil
  | _, d :: ds, _, qs, .cons h g, e => by
    unfold pyA at e
    split at e
    · rename_i y ys e1 e2
      cases e
      exact .cons (Rp.dp sm h e1) (RpA.dp sm g e2)
    · cases e
end
theorem Rel.viewP (r : Rel K Γ G F H ι s) {x : D} {v : V} {q : PyData} (h : Rp K Γ F ι v x) (e : (vw x s).py = some q) : Dp K H v q := by
  cases x <;> first | exact h.dp r.sub e | skip
  rename_i n
  cases h with
  | cell h =>
    have e' : (match s[n]? with | some (.lst xs) => D.lst xs | some (.dic kvs) => .dic kvs | _ => .cell n).py = some q := e
    split at e'
    · rename_i xs en
      obtain ⟨_, vs, e1, g⟩ := r.at_ n _ _ en h
      unfold D.py at e'
      split at e'
      · rename_i ys e2
        cases e'
        exact .lst (SqL.of e1) (g.dp r.sub e2)
      · cases e'
    · cases e'
    · cases e'
end
/-! ### == and != -/
def eqP (x y : D) (s : Sto) (k : Bool → Bool) : Out D := match (vw x s).py, (vw y s).py with
  | some p, some q => if (SeqAt.shaped p && SeqAt.shaped q) = true then .ok (.bl (k (PyData.eqv p q))) s else .bad
  | _, _ => .bad
def eqD (x y : D) (s : Sto) : Out D := match x, y with
  | .int a, .int b => .ok (.bl (decide (a = b))) s
  | .str a, .str b => .ok (.bl (decide (a = b))) s
  | .bl a, .bl b => .ok (.bl (decide (a = b))) s
  | x, y => eqP x y s id
def neD (x y : D) (s : Sto) : Out D := match x, y with
  | .int a, .int b => .ok (.bl (!decide (a = b))) s
  | .str a, .str b => .ok (.bl (!decide (a = b))) s
  | .bl a, .bl b => .ok (.bl (!decide (a = b))) s
  | x, y => eqP x y s not
section
variable {X : Cx} {K : PySem.W.Frag} {Γ : Nat → Addr}
def rEqA (K : PySem.W.Frag) : R2 := fun x y H Q => rEq x y H Q ∨ rEqD K x y H Q
def rNeA (K : PySem.W.Frag) : R2 := fun x y H Q => rNe x y H Q ∨ rNeD K x y H Q
theorem op_eqA {k : Nat} (hr : Room k X.A) (hK : X.K = K := by rfl) : OpR X (compareOp .Eq) (rEqA K) := by
  subst hK
  exact op_eq.or (op_eqD hr.units)
theorem op_neA {k : Nat} (hr : Room k X.A) (hK : X.K = K := by rfl) : OpR X (compareOp .NotEq) (rNeA K) := by
  subst hK
  exact op_ne.or (op_neD hr.units)
theorem dec_int (a b : Int) : decide (V.int a = V.int b) = decide (a = b) := by
  by_cases h : a = b
  · subst h; simp
  · rw [decide_eq_false h, decide_eq_false (fun e => h (V.int.inj e))]
theorem dec_str (a b : Str) : decide (V.str a = V.str b) = decide (a = b) := by
  by_cases h : a = b
  · subst h; simp
  · rw [decide_eq_false h, decide_eq_false (fun e => h (V.str.inj e))]
theorem dec_bl (a b : Bool) : decide (V.bl a = V.bl b) = decide (a = b) := by cases a <;> cases b <;> rfl
theorem og_eq : OpG K Γ (rEqA K) eqD := by
  intro W σ H Q G F ι s x y v u r h1 h2 hp
  unfold eqD at hp
  split at hp
  · cases h1; cases h2
    exact Or.inl ⟨rfl, by rw [dec_int]; exact hp _ _ _ _ Ext.refl r (.bl _)⟩
  · cases h1; cases h2
    exact Or.inl ⟨rfl, by rw [dec_str]; exact hp _ _ _ _ Ext.refl r (.bl _)⟩
  · cases h1; cases h2
    exact Or.inl ⟨rfl, by rw [dec_bl]; exact hp _ _ _ _ Ext.refl r (.bl _)⟩
  · unfold eqP at hp
    split at hp
    · rename_i p q e1 e2
      split at hp
      · rename_i hc
        rw [Bool.and_eq_true] at hc
        exact Or.inr ⟨p, q, r.viewP h1 e1, r.viewP h2 e2, hc.1, hc.2, hp _ _ _ _ Ext.refl r (.bl _)⟩
      · exact hp.elim
    · exact hp.elim
theorem og_ne : OpG K Γ (rNeA K) neD := by
  intro W σ H Q G F ι s x y v u r h1 h2 hp
  unfold neD at hp
  split at hp
  · cases h1; cases h2
    exact Or.inl ⟨rfl, by rw [dec_int]; exact hp _ _ _ _ Ext.refl r (.bl _)⟩
  · cases h1; cases h2
    exact Or.inl ⟨rfl, by rw [dec_str]; exact hp _ _ _ _ Ext.refl r (.bl _)⟩
  · cases h1; cases h2
    exact Or.inl ⟨rfl, by rw [dec_bl]; exact hp _ _ _ _ Ext.refl r (.bl _)⟩
  · unfold eqP at hp
    split at hp
    · rename_i p q e1 e2
      split at hp
      · rename_i hc
        rw [Bool.and_eq_true] at hc
        exact Or.inr ⟨p, q, r.viewP h1 e1, r.viewP h2 e2, hc.1, hc.2, hp _ _ _ _ Ext.refl r (.bl _)⟩
      · exact hp.elim
    · exact hp.elim
end
/-! ### in, not in -/
def keyOf : D → Option Key
  | .int i => some (.inl i)
  | .str x => some (.inr x)
  | _ => none
def valD (kvs : List (Key × D)) (k : Key) : Option D := (kvs.find? fun kv => decide (kv.1 = k)).map (·.2)
def inP (x y : D) (s : Sto) (k : Bool → Bool) : Out D := match vw y s with
  | .dic kvs => match keyOf x with
    | some q => .ok (.bl (k (valD kvs q).isSome)) s
    | none => .bad
  | .str b => match x with
    | .str a => .ok (.bl (k (!(Builtin.Str.occurrences b a 0 b.length 1).isEmpty))) s
    | _ => .bad
  | .lst ys => match (vw x s).py, pyA ys with
    | some p, some qs => if (SeqAt.shaped p && SeqAt.shaped (.list qs)) = true then .ok (.bl (k (qs.any fun z => PyData.eqv z p))) s else .bad
    | _, _ => .bad
  | .tup ys => match (vw x s).py, pyA ys with
    | some p, some qs => if (SeqAt.shaped p && SeqAt.shaped (.tuple qs)) = true then .ok (.bl (k (qs.any fun z => PyData.eqv z p))) s else .bad
    | _, _ => .bad
  | _ => .bad
def inD (x y : D) (s : Sto) : Out D := inP x y s id
def ninD (x y : D) (s : Sto) : Out D := inP x y s not
section
variable {X : Cx} {K : PySem.W.Frag} {Γ : Nat → Addr} {H G F : Hp} {ι : List Addr} {s : Sto}
theorem RpK.val : ∀ {kvs : List (Key × V)} {ds : List (Key × D)}, RpK K Γ F ι kvs ds → ∀ (k : Key), (valV kvs k = none ∧ valD ds k = none) ∨ ∃ v d, valV kvs k = some v ∧ valD ds k = some d ∧ Rp K Γ F ι v d
  | _, _, .nil, k => Or.inl ⟨rfl, rfl⟩
  | _, _, .cons (k := k') (v := v) (d := d) h g, k => by
    by_cases e : k' = k
    · exact Or.inr ⟨v, d, valV_pos e, by simp [valD, List.find?_cons, e], h⟩
    · have e1 : ∀ r, valD ((k', d) :: r) k = valD r k := fun r => by simp only [valD, List.find?_cons, decide_eq_false e]
      rw [valV_neg (p := (k', v)) e, e1]
      exact RpK.val g k
theorem keyOf_rp {x : D} {v : V} {k : Key} (h : Rp K Γ F ι v x) (e : keyOf x = some k) : v = kV k := by
  cases x <;> first | (cases e; done) | skip
  · cases e; cases h; rfl
  · cases e; cases h; rfl
/-- a dict, frozen or a cell -/
theorem Rel.viewD (r : Rel K Γ G F H ι s) {x : D} {v : V} {kvs : List (Key × D)} (h : Rp K Γ F ι v x) (e : vw x s = .dic kvs) : ∃ a ks, v = .ref a ∧ Rd H a (.dK ks) ∧ RpK K Γ F ι ks kvs := by
  cases x <;> first | (cases e; done) | skip
  · cases e
    cases h with
    | dK h g => exact ⟨_, _, rfl, Or.inr ⟨_, r.sub _ _ h⟩, g.up⟩
  · rename_i n
    cases h with
    | cell h =>
      have e' : (match s[n]? with | some (.lst xs) => D.lst xs | some (.dic kvs) => .dic kvs | _ => .cell n) = .dic kvs := e
      split at e'
      · cases e'
      · rename_i q
        cases e'
        obtain ⟨_, ks, e1, g⟩ := r.at_ n _ _ q h
        exact ⟨_, ks, rfl, Or.inl e1, g⟩
      · cases e'
theorem view_str {x : D} {z : Str} (e : vw x s = .str z) : x = .str z := by
  cases x <;> first | exact e | skip
  rename_i n
  have e' : (match s[n]? with | some (.lst xs) => D.lst xs | some (.dic kvs) => .dic kvs | _ => .cell n) = .str z := e
  split at e' <;> cases e'
theorem view_tup {x : D} {z : List D} (e : vw x s = .tup z) : x = .tup z := by
  cases x <;> first | exact e | skip
  rename_i n
  have e' : (match s[n]? with | some (.lst xs) => D.lst xs | some (.dic kvs) => .dic kvs | _ => .cell n) = .tup z := e
  split at e' <;> cases e'
theorem view_lst {x : D} {z : List D} (e : vw x s = .lst z) : viewL x s = some z := by
  cases x <;> first | (cases e; done) | skip
  · cases e; rfl
  · rename_i n
    have e' : (match s[n]? with | some (.lst xs) => D.lst xs | some (.dic kvs) => .dic kvs | _ => .cell n) = .lst z := e
    show (match s[n]? with | some (.lst xs) => some xs | _ => none) = some z
    split at e'
    · rename_i q; cases e'; rw [q]
    · cases e'
    · cases e'
def rDIn (k : Bool → Bool) : R2 := fun y x H Q => ∃ a ov, x = .ref a ∧ DGet H a y ov ∧ Q (.bl (k ov.isSome)) H
theorem op_dIn (hu : X.A.units + 1 < cLine) : OpR X (compareOp .In) (rDIn id) := by
  intro pins s σ H y x iv u Q I ry rx h
  obtain ⟨a, ov, rfl, g, q⟩ := h
  obtain rfl : u = Value.ref a := rx
  exact d_in hu I g ry fun s3 I3 => ⟨.bl ov.isSome, H, I3, rfl, q⟩
theorem op_dNotIn (hu : X.A.units + 1 < cLine) : OpR X (compareOp .NotIn) (rDIn not) := by
  intro pins s σ H y x iv u Q I ry rx h
  obtain ⟨a, ov, rfl, g, q⟩ := h
  obtain rfl : u = Value.ref a := rx
  exact d_notIn hu I g ry fun s3 I3 => ⟨.bl (!ov.isSome), H, I3, rfl, q⟩
def rNotInDT (K : PySem.W.Frag) : R2 := fun x y H Q => ∃ d ds, Dp K H x d ∧ Dp K H y (.tuple ds) ∧ SeqAt.shaped d = true ∧ SeqAt.shaped (.tuple ds) = true ∧ Q (.bl (!ds.any fun z => PyData.eqv z d)) H
theorem op_notInDT (hu : X.A.units + 65 < cLine) : OpR X (compareOp .NotIn) (rNotInDT X.K) := by
  intro pins s σ H x y v u Q I rx ry h
  obtain ⟨d, ds, hd, he, sd, se, q⟩ := h
  obtain ⟨as, r1⟩ := Dp.reads I d x v hd rx
  obtain ⟨bs, r2⟩ := Dp.reads I (.tuple ds) y u he ry
  exact SeqAt.notIn_tuple_reads r2 r1 (SeqAt.canLay_of_shaped se) (SeqAt.canLay_of_shaped sd) (room_in_shaped sd hu) ⟨.bl _, H, I, rfl, q⟩
def rInS (k : Bool → Bool) : R2 := fun x y H Q => ∃ i j, x = .str i ∧ y = .str j ∧ Q (.bl (k (!(Builtin.Str.occurrences j i 0 j.length 1).isEmpty))) H
def rInA (K : PySem.W.Frag) : R2 := fun x y H Q => rDIn id x y H Q ∨ rInS id x y H Q ∨ rInD K x y H Q ∨ Gl.rInDT K x y H Q
def rNinA (K : PySem.W.Frag) : R2 := fun x y H Q => rDIn not x y H Q ∨ rInS not x y H Q ∨ rNotInD K x y H Q ∨ rNotInDT K x y H Q
theorem op_inA {k : Nat} (hr : Room k X.A) (hK : X.K = K := by rfl) : OpR X (compareOp .In) (rInA K) := by
  subst hK
  have hu := Gl.in_room hr
  exact (op_dIn (by omega)).or (op_in_str.or ((op_inD hu).or (Gl.op_inDT hu)))
theorem op_ninA {k : Nat} (hr : Room k X.A) (hK : X.K = K := by rfl) : OpR X (compareOp .NotIn) (rNinA K) := by
  subst hK
  have hu := Gl.in_room hr
  exact (op_dNotIn (by omega)).or (op_notin_str.or ((op_notInD hu).or (op_notInDT hu)))
theorem og_inP {k : Bool → Bool} {r : R2} (h1 : ∀ x y H Q, rDIn k x y H Q → r x y H Q) (h2 : ∀ x y H Q, rInS k x y H Q → r x y H Q)
    (h3 : ∀ x y H Q, (∃ d ds, Dp K H x d ∧ Dp K H y (.list ds) ∧ SeqAt.shaped d = true ∧ SeqAt.shaped (.list ds) = true ∧ Q (.bl (k (ds.any fun z => PyData.eqv z d))) H) → r x y H Q)
    (h4 : ∀ x y H Q, (∃ d ds, Dp K H x d ∧ Dp K H y (.tuple ds) ∧ SeqAt.shaped d = true ∧ SeqAt.shaped (.tuple ds) = true ∧ Q (.bl (k (ds.any fun z => PyData.eqv z d))) H) → r x y H Q) : OpG K Γ r (fun x y s => inP x y s k) := by
  intro W σ H Q G F ι s x y v u rr g1 g2 hp
  dsimp only at hp
  unfold inP at hp
  split at hp
  · rename_i kvs e
    split at hp
    · rename_i q eq
      obtain ⟨a, ks, rfl, ha, gk⟩ := rr.viewD g2 e
      have ev := keyOf_rp g1 eq
      subst ev
      refine h1 _ _ _ _ ⟨a, valV ks q, rfl, Or.inl ⟨ks, q, ha, rfl, rfl⟩, ?_⟩
      have e2 : (valV ks q).isSome = (valD kvs q).isSome := by
        rcases gk.val q with ⟨a1, a2⟩ | ⟨_, _, a1, a2, _⟩ <;> rw [a1, a2] <;> rfl
      rw [e2]
      exact hp _ _ _ _ Ext.refl rr (.bl _)
    · exact hp.elim
  · rename_i b e
    have ey := view_str e
    subst ey
    cases g2
    split at hp
    · cases g1
      exact h2 _ _ _ _ ⟨_, _, rfl, rfl, hp _ _ _ _ Ext.refl rr (.bl _)⟩
    · exact hp.elim
  · rename_i ys e
    split at hp
    · rename_i p qs e1 e2
      split at hp
      · rename_i hc
        rw [Bool.and_eq_true] at hc
        refine h3 _ _ _ _ ⟨p, qs, rr.viewP g1 e1, rr.viewP g2 ?_, hc.1, hc.2, hp _ _ _ _ Ext.refl rr (.bl _)⟩
        rw [e]
        unfold D.py
        rw [e2]
      · exact hp.elim
    · exact hp.elim
  · rename_i ys e
    split at hp
    · rename_i p qs e1 e2
      split at hp
      · rename_i hc
        rw [Bool.and_eq_true] at hc
        refine h4 _ _ _ _ ⟨p, qs, rr.viewP g1 e1, rr.viewP g2 ?_, hc.1, hc.2, hp _ _ _ _ Ext.refl rr (.bl _)⟩
        rw [e]
        unfold D.py
        rw [e2]
      · exact hp.elim
    · exact hp.elim
  · exact hp.elim
theorem og_in : OpG K Γ (rInA K) inD := og_inP (fun _ _ _ _ h => Or.inl h) (fun _ _ _ _ h => Or.inr (Or.inl h)) (fun _ _ _ _ h => Or.inr (Or.inr (Or.inl h))) (fun _ _ _ _ h => Or.inr (Or.inr (Or.inr h)))
theorem og_nin : OpG K Γ (rNinA K) ninD := og_inP (fun _ _ _ _ h => Or.inl h) (fun _ _ _ _ h => Or.inr (Or.inl h)) (fun _ _ _ _ h => Or.inr (Or.inr (Or.inl h))) (fun _ _ _ _ h => Or.inr (Or.inr (Or.inr h)))
end
end Md

set_option Elab.async false
set_option maxRecDepth 100000
set_option maxHeartbeats 4000000
set_option linter.all false
/-! the mirror layer: subscripts, slices, built-in functions -/
namespace Md
open PySem PySem.Spec PyProof.Rows L2
/-! ### subscripts -/
def ixD (x y : D) (s : Sto) : Out D := match vw x s with
  | .dic kvs => match keyOf y with
    | some k => match valD kvs k with
      | some d => .ok d s
      | none => .bad
    | none => .bad
  | .lst xs => match y with
    | .int i => match atI xs i with
      | some d => .ok d s
      | none => .bad
    | _ => .bad
  | .tup xs => match y with
    | .int i => match atI xs i with
      | some d => .ok d s
      | none => .bad
    | _ => .bad
  | .scr xs => match y with
    | .int i => match atI xs i with
      | some d => .ok (.int d) s
      | none => .bad
    | _ => .bad
  | .str z => match y with
    | .int i => if z.length ≤ sizeLine then match atI z.cps.toList i with
      | some c => .ok (.str ⟨#[c]⟩) s
      | none => .bad
      else .bad
    | _ => .bad
  | _ => .bad
section
variable {X : Cx} {K : PySem.W.Frag} {Γ : Nat → Addr} {H G F : Hp} {ι : List Addr} {s : Sto} {W : WX} {pos : Pos} {a b : Expr} {ta tb : TE} {φ ψ : FE}
theorem atI_len {α β : Type} {xs : List α} {ys : List β} (h : xs.length = ys.length) {i : Int} {y : β} (e : atI ys i = some y) : ∃ j : Nat, ys[j]? = some y ∧ ∀ x, xs[j]? = some x → atI xs i = some x := by
  unfold atI at e ⊢
  rw [h]
  cases q : ixN ys.length i with
  | none => rw [q] at e; cases e
  | some j =>
    rw [q] at e
    exact ⟨j, e, fun x ex => ex⟩
theorem RpA.atI {vs : List V} {ds : List D} (h : RpA K Γ F ι vs ds) {i : Int} {d : D} (e : L2.atI ds i = some d) : ∃ v, L2.atI vs i = some v ∧ Rp K Γ F ι v d := by
  obtain ⟨j, e1, k⟩ := atI_len (xs := vs) h.length e
  obtain ⟨v, e2, r⟩ := h.get e1
  exact ⟨v, k v e2, r⟩
def rIxDic : R2 := fun x y H Q => ∃ a v, x = .ref a ∧ DGet H a y (some v) ∧ Q v H
theorem ix_dic {k : Nat} (hr : Room k X.A) : IxR X rIxDic := by
  intro value slice pins s σ H x y v u Q I rx ry h hs
  obtain ⟨a, z, rfl, g, q⟩ := h
  obtain rfl : v = Value.ref a := rx
  have hu := Gl.in_room hr
  exact tail_any (dict_typeIs I g) PySem.F.slot_dict_getitem.lookup (d_getItem (by omega) I g ry fun w' s3 I3 rw' => ⟨z, H, I3, rw', q⟩) hs
def rIxA (K : PySem.W.Frag) : R2 := fun x y H Q => rIxDic x y H Q ∨ rIx K x y H Q
theorem ix_A {k : Nat} (hr : Room k X.A) (hK : X.K = K := by rfl) : IxR X (rIxA K) := by
  subst hK
  exact (ix_dic hr).or ix_seq
theorem vw_scr {x : D} {z : List Int} (e : vw x s = .scr z) : x = .scr z := by
  cases x <;> first | exact e | skip
  rename_i n
  have e' : (match s[n]? with | some (.lst xs) => D.lst xs | some (.dic kvs) => .dic kvs | _ => .cell n) = .scr z := e
  split at e' <;> cases e'
theorem og_ix : OpG K Γ (rIxA K) ixD := by
  intro W σ H Q G F ι s x y v u r g1 g2 hp
  unfold ixD at hp
  split at hp
  · rename_i kvs e
    split at hp
    · rename_i k ek
      split at hp
      · rename_i d ed
        obtain ⟨a, ks, rfl, ha, gk⟩ := r.viewD g1 e
        have ev := keyOf_rp g2 ek
        subst ev
        rcases gk.val k with ⟨_, a2⟩ | ⟨w, d', a1, a2, rw'⟩
        · rw [a2] at ed; cases ed
        · rw [a2] at ed; cases ed
          refine Or.inl ⟨a, w, rfl, ?_, hp _ _ _ _ Ext.refl r rw'⟩
          exact Or.inl ⟨ks, k, ha, rfl, a1.symm⟩
      · exact hp.elim
    · exact hp.elim
  · rename_i xs e
    split at hp
    · split at hp
      · rename_i d ed
        obtain ⟨a, vs, rfl, ha, gk⟩ := r.view g1 (view_lst e)
        cases g2
        obtain ⟨w, ew, rw'⟩ := gk.atI ed
        exact Or.inr (Or.inl ⟨a, vs, _, w, rfl, rfl, SqL.of ha, ew, hp _ _ _ _ Ext.refl r rw'.up⟩)
      · exact hp.elim
    · exact hp.elim
  · rename_i xs e
    split at hp
    · split at hp
      · rename_i d ed
        have ex := view_tup e
        subst ex
        cases g1 with
        | tup t1 gk =>
          cases g2
          obtain ⟨w, ew, rw'⟩ := gk.atI ed
          exact Or.inr (Or.inr (Or.inl ⟨_, _, _, w, rfl, rfl, Gl.sqTS r.sub t1, ew, hp _ _ _ _ Ext.refl r rw'.up⟩))
      · exact hp.elim
    · exact hp.elim
  · rename_i xs e
    split at hp
    · split at hp
      · rename_i d ed
        have ex := vw_scr e
        subst ex
        cases g1 with
        | scr t1 =>
          cases g2
          obtain ⟨j, e1, k⟩ := atI_len (xs := xs.map V.int) (by simp) ed
          exact Or.inr (Or.inl ⟨_, _, _, .int d, rfl, rfl, Gl.sqLS r.sub t1, k _ (by rw [List.getElem?_map, e1]; rfl), hp _ _ _ _ Ext.refl r (.int _)⟩)
      · exact hp.elim
    · exact hp.elim
  · rename_i z e
    split at hp
    · split at hp
      · rename_i hz
        split at hp
        · rename_i c ec
          have ex := view_str e
          subst ex
          cases g1
          cases g2
          exact Or.inr (Or.inr (Or.inr ⟨_, _, c, rfl, rfl, hz, ec, hp _ _ _ _ Ext.refl r (.str _)⟩))
        · exact hp.elim
      · exact hp.elim
    · exact hp.elim
  · exact hp.elim
theorem de_ix {k : Nat} (hr : Room k X.A) (ha : DE X K Γ W a ta φ) (hb : DE X K Γ W b tb ψ) (hK : X.K = K := by rfl) (hs : PlainIx b := by exact (fun _ _ => rfl)) : DE X K Γ W (.Subscript a b pos) (tOp (rIxA K) ta tb) (op2 ixD φ ψ) :=
  ⟨pe_ix (ix_A hr hK) ha.pe hb.pe hs, gd_op og_ix ha.gd hb.gd⟩
end
end Md

set_option Elab.async false
set_option maxRecDepth 100000
set_option maxHeartbeats 4000000
set_option linter.all false
/-! the mirror layer: slices, built-in functions -/
namespace Md
open PySem PySem.Spec PyProof.Rows L2
/-! ### slices -/
abbrev FO := DSt → Sto → Out (Option Int)
abbrev RO : Hp → List Addr → Option Int → Option Int → Prop := fun _ _ a b => a = b
structure DO (X : Cx) (K : PySem.W.Frag) (Γ : Nat → Addr) (W : WX) (e : Option Expr) (t : TO) (φ : FO) : Prop where
  po : PO X e t
  gd : GdX K Γ W RO t φ
def noneO : FO := fun _ s => .ok none s
def someO (φ : FE) : FO := bindX φ fun _ x s => match x with
  | .int i => .ok (some i) s
  | _ => .bad
def cutD (xs : List D) (lo hi : Option Int) : List D := (xs.drop (HT.sIx xs.length 0 lo)).take (HT.sIx xs.length xs.length hi - HT.sIx xs.length 0 lo)
def sliceD (x : D) (lo hi : Option Int) (s : Sto) : Out D := match vw x s with
  | .lst xs => .ok (.lst (cutD xs lo hi)) s
  | .tup xs => .ok (.tup (cutD xs lo hi)) s
  | .str z => if z.length ≤ sizeLine then .ok (.str (cutS z lo hi)) s else .bad
  | _ => .bad
def slD (φ : FE) (l u : FO) : FE := bindX φ fun ds x s => (l ds s).bind fun lo s => (u ds s).bind fun hi s => sliceD x lo hi s
def revD (x : D) (s : Sto) : Out D := match vw x s with
  | .lst xs => .ok (.lst xs.reverse) s
  | _ => .bad
section
variable {X : Cx} {K : PySem.W.Frag} {Γ : Nat → Addr} {H G F : Hp} {ι : List Addr} {s : Sto} {W : WX} {pos p2 : Pos} {e : Expr} {te : TE} {φ : FE} {lo hi : Option Expr} {tl th : TO} {l u : FO}
theorem do_none : DO X K Γ W none tNoPart noneO := ⟨po_none, fun σ H Q G F ι s ds hs hr hp => hp _ _ _ _ Ext.refl hr rfl⟩
theorem do_some (h : DE X K Γ W e te φ) : DO X K Γ W (some e) (tPart te) (someO φ) := by
  refine ⟨po_some h.pe, fun σ H Q G F ι s ds hs hr hp => h.gd.step hs hr hp fun x s1 v H1 F1 ι1 x1 r1 q1 hs1 hp1 => ?_⟩
  cases x <;> first | exact hp1.elim | skip
  cases q1
  exact ⟨_, rfl, hp1 _ _ _ _ Ext.refl r1 rfl⟩
def rSlAA (K : PySem.W.Frag) : V → Option Int → Option Int → Hp → VK → Prop := fun x lo hi H Q => rSlL K x lo hi H Q ∨ rSlA K x lo hi H Q ∨ rSlS x lo hi H Q
theorem sl_A (hK : X.K = K := by rfl) : L2.SlR X (rSlAA K) := by
  subst hK
  exact sl_list.or (sl_tupA.or sl_str)
theorem cut_rp {vs : List V} {ds : List D} (g : RpA K Γ F ι vs ds) (lo hi : Option Int) : RpA K Γ F ι (cutV vs lo hi) (cutD ds lo hi) := by
  unfold cutV cutD
  rw [g.length]
  exact (g.drop _).take _
theorem cutD_whole {ds : List D} {lo hi : Option Int} (h1 : HT.sIx ds.length 0 lo = 0) (h2 : HT.sIx ds.length ds.length hi = ds.length) : cutD ds lo hi = ds := by
  unfold cutD
  rw [h1, h2, List.drop_zero, Nat.sub_zero, List.take_length]
theorem slice_rp {W : WX} {σ : L2.St} {Q : VK} {x : D} {v : V} {lo hi : Option Int} (r : Rel K Γ G F H ι s) (g : Rp K Γ F ι v x) (hp : Post K Γ W σ G F ι (RV K Γ) Q (sliceD x lo hi s)) : rSlAA K v lo hi H Q := by
  unfold sliceD at hp
  split at hp
  · rename_i xs e1
    obtain ⟨a, vs, rfl, ha, gk⟩ := r.view g (view_lst e1)
    refine Or.inl ⟨a, vs, rfl, SqL.of ha, fun p np => ?_⟩
    obtain ⟨r2, x2⟩ := r.new (o := .lst _) np
    exact hp _ _ _ _ x2 r2 (.lst upd_same ((cut_rp gk lo hi).ext x2.nil))
  · rename_i xs e1
    have ex := view_tup e1
    subst ex
    cases g with
    | tup t1 gk =>
      refine Or.inr (Or.inl ⟨_, _, rfl, Gl.sqTS r.sub t1, fun hw => ?_, fun hw p np => ?_⟩)
      · rw [gk.length] at hw
        rw [cutD_whole hw.1 hw.2] at hp
        exact hp _ _ _ _ Ext.refl r (.tup t1 gk)
      · obtain ⟨r2, x2⟩ := r.new (o := .tup _) np
        exact hp _ _ _ _ x2 r2 (.tup (SqT.of upd_same) ((cut_rp gk lo hi).ext x2.nil))
  · rename_i z e1
    have ex := view_str e1
    subst ex
    cases g
    split at hp
    · rename_i hz
      exact Or.inr (Or.inr ⟨_, rfl, hz, hp _ _ _ _ Ext.refl r (.str _)⟩)
    · exact hp.elim
  · exact hp.elim
theorem de_slice (he : DE X K Γ W e te φ) (hl : DO X K Γ W lo tl l) (hu : DO X K Γ W hi th u) (hK : X.K = K := by rfl) : DE X K Γ W (.Subscript e (.Slice lo hi none p2) pos) (L2.tSl (rSlAA K) te tl th) (slD φ l u) := by
  refine ⟨pe_slice (sl_A hK) he.pe hl.po hu.po, fun σ H Q G F ι s ds hs hr hp => ?_⟩
  refine he.gd.step hs hr hp fun x s1 v H1 F1 ι1 x1 r1 q1 hs1 hp1 => ?_
  refine hl.gd.step hs1 r1 hp1 fun a s2 a' H2 F2 ι2 x2 r2 q2 hs2 hp2 => ?_
  refine hu.gd.step hs2 r2 hp2 fun b s3 b' H3 F3 ι3 x3 r3 q3 hs3 hp3 => ?_
  cases (show a' = a from q2)
  cases (show b' = b from q3)
  exact slice_rp r3 (q1.ext (x2.trans x3)) hp3
theorem de_revL {k : Nat} {p1 p3 p4 : Pos} (he : DE X K Γ W e te φ) (hK : X.K = K := by rfl) : DE X K Γ W (.Subscript e (.Slice none none (some (.UnaryOp .USub (.Constant (.int 1) k p1) p3)) p4) pos) (tRevL K te) (bindX φ fun _ => revD) := by
  subst hK
  refine ⟨pe_revL he.pe, fun σ H Q G F ι s ds hs hr hp => he.gd.step hs hr hp fun x s1 v H1 F1 ι1 x1 r1 q1 hs1 hp1 => ?_⟩
  dsimp only at hp1
  unfold revD at hp1
  split at hp1
  · rename_i xs e1
    obtain ⟨a, vs, rfl, ha, gk⟩ := r1.view q1 (view_lst e1)
    refine ⟨a, vs, rfl, SqL.of ha, fun p np => ?_⟩
    obtain ⟨r2, x2⟩ := r1.new (o := .lst _) np
    exact hp1 _ _ _ _ x2 r2 (.lst upd_same (gk.reverse.ext x2.nil))
  · exact hp1.elim
end
/-! ### calls of built-in functions -/
def CallG (K : PySem.W.Frag) (Γ : Nat → Addr) (r : List V → Hp → VK → Prop) (f : List D → Sto → Out D) : Prop :=
  ∀ (W : WX) (σ : L2.St) (H : Hp) (Q : VK) (G F : Hp) (ι : List Addr) (s : Sto) (xs : List D) (vs : List V), Rel K Γ G F H ι s → RpA K Γ F ι vs xs → Post K Γ W σ G F ι (RV K Γ) Q (f xs s) → r vs H Q
def callB (f : List D → Sto → Out D) (ψ : FA) : FE := bindX ψ fun _ xs s => f xs s
theorem CallR.or {X : Cx} {f : Value} {r r' : List V → Hp → VK → Prop} (h : CallR X f r) (h' : CallR X f r') : CallR X f (fun xs H Q => r xs H Q ∨ r' xs H Q) := by
  intro pins s σ H xs us Q I rx q
  rcases q with q | q
  · exact h pins s σ H xs us Q I rx q
  · exact h' pins s σ H xs us Q I rx q
section
variable {X : Cx} {K : PySem.W.Frag} {Γ : Nat → Addr} {H G F : Hp} {ι : List Addr} {s : Sto} {W : WX} {pos p : Pos} {e : Expr} {es : List Expr} {ta : TA} {ψ : FA} {r r' : List V → Hp → VK → Prop} {f : List D → Sto → Out D} {x : Str} {id T : String}
theorem gd_callB (g : CallG K Γ r f) (ha : Ga K Γ W ta ψ) : Gd K Γ W (tCB r ta) (callB f ψ) := by
  intro σ H Q G F ι s ds hs hr hp
  exact ha.step hs hr hp fun xs s1 vs H1 F1 ι1 x1 r1 q1 hs1 hp1 => g W σ H1 Q G F1 ι1 s1 xs vs r1 q1 hp1
theorem de_callB (hc : CallR X (.builtin id) r) (g : CallG K Γ r f) (hg : L2.Gl X x) (hm : X.mg x = none) (hv : bootBuiltins x = some (.builtin id)) (ha : DA X K Γ W (e :: es) ta ψ) (hn : x ≠ "__name__" := by decide) (hdb : (x == ("__debug__" : Str)) = false := by decide)
    (he : starEach (e :: es) X.env = (false, eval e X.env) :: starEach es X.env := by rfl) (hpl : (backTo pos (starEach es X.env)).any (·.1) = false := by rfl) : DE X K Γ W (.Call (.Name x p) (e :: es) [] pos) (tCB r ta) (callB f ψ) :=
  ⟨pe_callB hc hg hm hv ha.pa hn hdb he hpl, gd_callB g ha.gd⟩
theorem de_callTy (hc : CallR X (.type T) r) (g : CallG K Γ r f) (hg : L2.Gl X x) (hm : X.mg x = none) (hv : bootBuiltins x = some (.type T)) (ha : DA X K Γ W (e :: es) ta ψ) (hn : x ≠ "__name__" := by decide) (hdb : (x == ("__debug__" : Str)) = false := by decide)
    (he : starEach (e :: es) X.env = (false, eval e X.env) :: starEach es X.env := by rfl) (hpl : (backTo pos (starEach es X.env)).any (·.1) = false := by rfl) : DE X K Γ W (.Call (.Name x p) (e :: es) [] pos) (tCB r ta) (callB f ψ) :=
  ⟨pe_callTy hc hg hm hv ha.pa hn hdb he hpl, gd_callB g ha.gd⟩
/-! len -/
def lenD (xs : List D) (s : Sto) : Out D := match xs with
  | [x] => match vw x s with
    | .lst ys => .ok (.int ys.length) s
    | .tup ys => .ok (.int ys.length) s
    | .scr ys => .ok (.int ys.length) s
    | .dic ys => .ok (.int ys.length) s
    | .str z => if z.length ≤ sizeLine then .ok (.int z.length) s else .bad
    | _ => .bad
  | _ => .bad
theorem RpK.length : ∀ {vs : List (Key × V)} {ds : List (Key × D)}, RpK K Γ F ι vs ds → vs.length = ds.length
  | _, _, .nil => rfl
  | _, _, .cons _ g => congrArg (· + 1) (RpK.length g)
def rLenA (K : PySem.W.Frag) : List V → Hp → VK → Prop := fun xs H Q => Gl.rLen K xs H Q ∨ ∃ a kvs, xs = [V.ref a] ∧ Rd H a (.dK kvs) ∧ Q (.int kvs.length) H
theorem call_lenDR : CallR X (.builtin "len") (fun xs H Q => ∃ a kvs, xs = [V.ref a] ∧ Rd H a (.dK kvs) ∧ Q (.int kvs.length) H) := by
  intro pins s σ H xs us Q I r h
  obtain ⟨a, kvs, rfl, ha, q⟩ := h
  obtain ⟨u, rfl, ru⟩ := vals1 r
  cases ru
  exact d_len I ha fun t s' I' => ⟨.int kvs.length, H, I', ⟨t, rfl⟩, q⟩
theorem call_lenAA (hK : X.K = K := by rfl) : CallR X (.builtin "len") (rLenA K) := by
  subst hK
  exact CallR.or Gl.call_lenA call_lenDR
theorem one_rp {vs : List V} {x : D} (h : RpA K Γ F ι vs [x]) : ∃ v, vs = [v] ∧ Rp K Γ F ι v x := by
  cases h with
  | cons h t => cases t; exact ⟨_, rfl, h⟩
theorem two_rp {vs : List V} {x y : D} (h : RpA K Γ F ι vs [x, y]) : ∃ v w, vs = [v, w] ∧ Rp K Γ F ι v x ∧ Rp K Γ F ι w y := by
  cases h with
  | cons h t => obtain ⟨w, rfl, r⟩ := one_rp t; exact ⟨_, w, rfl, h, r⟩
theorem cg_len : CallG K Γ (rLenA K) lenD := by
  intro W σ H Q G F ι s xs vs r g hp
  unfold lenD at hp
  split at hp
  · rename_i x
    obtain ⟨v, rfl, gx⟩ := one_rp g
    split at hp
    · rename_i ys e
      obtain ⟨a, ws, rfl, ha, gk⟩ := r.view gx (view_lst e)
      refine Or.inl ⟨_, _, rfl, Or.inl ⟨_, SqL.of ha, rfl⟩, ?_⟩
      rw [gk.length]
      exact hp _ _ _ _ Ext.refl r (.int _)
    · rename_i ys e
      have ex := view_tup e
      subst ex
      cases gx with
      | tup t1 gk =>
        refine Or.inl ⟨_, _, rfl, Or.inr ⟨_, Gl.sqTS r.sub t1, rfl⟩, ?_⟩
        rw [gk.length]
        exact hp _ _ _ _ Ext.refl r (.int _)
    · rename_i ys e
      have ex := vw_scr e
      subst ex
      cases gx with
      | scr t1 =>
        refine Or.inl ⟨_, _, rfl, Or.inl ⟨_, Gl.sqLS r.sub t1, rfl⟩, ?_⟩
        rw [List.length_map]
        exact hp _ _ _ _ Ext.refl r (.int _)
    · rename_i ys e
      obtain ⟨a, ks, rfl, ha, gk⟩ := r.viewD gx e
      refine Or.inr ⟨a, ks, rfl, ha, ?_⟩
      rw [gk.length]
      exact hp _ _ _ _ Ext.refl r (.int _)
    · rename_i z e
      have ex := view_str e
      subst ex
      cases gx
      split at hp
      · rename_i hz
        exact Or.inl ⟨_, _, rfl, ⟨hz, rfl⟩, hp _ _ _ _ Ext.refl r (.int _)⟩
      · exact hp.elim
    · exact hp.elim
  · exact hp.elim
/-! abs, int, bool, max, min, str(int) -/
def absD (xs : List D) (s : Sto) : Out D := match xs with
  | [.int i] => .ok (.int (if i < 0 then -i else i)) s
  | _ => .bad
theorem cg_abs : CallG K Γ (fun xs H Q => ∃ i, xs = [.int i] ∧ Q (.int (if i < 0 then -i else i)) H) absD := by
  intro W σ H Q G F ι s xs vs r g hp
  unfold absD at hp
  split at hp
  · obtain ⟨v, rfl, gx⟩ := one_rp g
    cases gx
    exact ⟨_, rfl, hp _ _ _ _ Ext.refl r (.int _)⟩
  · exact hp.elim
def intD (xs : List D) (s : Sto) : Out D := match xs with
  | [.int i] => .ok (.int i) s
  | [.bl b] => .ok (.int (if b then 1 else 0)) s
  | _ => .bad
theorem cg_int : CallG K Γ (fun xs H Q => (∃ i, xs = [.int i] ∧ Q (.int i) H) ∨ ∃ k, xs = [.bl k] ∧ Q (.int (if k then 1 else 0)) H) intD := by
  intro W σ H Q G F ι s xs vs r g hp
  unfold intD at hp
  split at hp
  · obtain ⟨v, rfl, gx⟩ := one_rp g
    cases gx
    exact Or.inl ⟨_, rfl, hp _ _ _ _ Ext.refl r (.int _)⟩
  · obtain ⟨v, rfl, gx⟩ := one_rp g
    cases gx
    exact Or.inr ⟨_, rfl, hp _ _ _ _ Ext.refl r (.int _)⟩
  · exact hp.elim
def maxD (xs : List D) (s : Sto) : Out D := match xs with
  | [.int i, .int j] => .ok (.int (if j > i then j else i)) s
  | _ => .bad
def minD (xs : List D) (s : Sto) : Out D := match xs with
  | [.int i, .int j] => .ok (.int (if j < i then j else i)) s
  | _ => .bad
theorem cg_max : CallG K Γ (fun xs H Q => ∃ i j, xs = [.int i, .int j] ∧ Q (.int (if j > i then j else i)) H) maxD := by
  intro W σ H Q G F ι s xs vs r g hp
  unfold maxD at hp
  split at hp
  · obtain ⟨v, w, rfl, gx, gy⟩ := two_rp g
    cases gx; cases gy
    exact ⟨_, _, rfl, hp _ _ _ _ Ext.refl r (.int _)⟩
  · exact hp.elim
theorem cg_min : CallG K Γ (fun xs H Q => ∃ i j, xs = [.int i, .int j] ∧ Q (.int (if j < i then j else i)) H) minD := by
  intro W σ H Q G F ι s xs vs r g hp
  unfold minD at hp
  split at hp
  · obtain ⟨v, w, rfl, gx, gy⟩ := two_rp g
    cases gx; cases gy
    exact ⟨_, _, rfl, hp _ _ _ _ Ext.refl r (.int _)⟩
  · exact hp.elim
/-! tuple, list -/
def tupleD (xs : List D) (s : Sto) : Out D := match xs with
  | [x] => match vw x s with
    | .lst ys => .ok (.tup ys) s
    | .tup ys => .ok (.tup ys) s
    | _ => .bad
  | _ => .bad
def listD (xs : List D) (s : Sto) : Out D := match xs with
  | [x] => match vw x s with
    | .lst ys => .ok (.lst ys) s
    | .tup ys => .ok (.lst ys) s
    | _ => .bad
  | _ => .bad
def rTupOf (K : PySem.W.Frag) : List V → Hp → VK → Prop := fun xs H Q => ∃ p ys, xs = [.ref p] ∧ ((SqL K H p ys ∧ ∀ l, H l = none → Q (.ref l) (upd H l (.tup ys))) ∨ (SqT K H p ys ∧ Q (.ref p) H))
def rLstOf (K : PySem.W.Frag) : List V → Hp → VK → Prop := fun xs H Q => ∃ p ys, xs = [.ref p] ∧ (SqL K H p ys ∨ SqT K H p ys) ∧ ∀ l, H l = none → Q (.ref l) (upd H l (.lst ys))
theorem call_tupA (hK : X.K = K := by rfl) : CallR X (.type "tuple") (rTupOf K) := by subst hK; exact call_tuple_of
theorem call_lstA (hK : X.K = K := by rfl) : CallR X (.type "list") (rLstOf K) := by subst hK; exact call_list_of
theorem cg_tuple : CallG K Γ (rTupOf K) tupleD := by
  intro W σ H Q G F ι s xs vs r g hp
  unfold tupleD at hp
  split at hp
  · obtain ⟨v, rfl, gx⟩ := one_rp g
    split at hp
    · rename_i ys e
      obtain ⟨a, ws, rfl, ha, gk⟩ := r.view gx (view_lst e)
      refine ⟨a, ws, rfl, Or.inl ⟨SqL.of ha, fun p np => ?_⟩⟩
      obtain ⟨r2, x2⟩ := r.new (o := .tup _) np
      exact hp _ _ _ _ x2 r2 (.tup (SqT.of upd_same) (gk.ext x2.nil))
    · rename_i ys e
      have ex := view_tup e
      subst ex
      cases gx with
      | tup t1 gk => exact ⟨_, _, rfl, Or.inr ⟨Gl.sqTS r.sub t1, hp _ _ _ _ Ext.refl r (.tup t1 gk)⟩⟩
    · exact hp.elim
  · exact hp.elim
theorem cg_list : CallG K Γ (rLstOf K) listD := by
  intro W σ H Q G F ι s xs vs r g hp
  unfold listD at hp
  split at hp
  · obtain ⟨v, rfl, gx⟩ := one_rp g
    split at hp
    · rename_i ys e
      obtain ⟨a, ws, rfl, ha, gk⟩ := r.view gx (view_lst e)
      refine ⟨a, ws, rfl, Or.inl (SqL.of ha), fun p np => ?_⟩
      obtain ⟨r2, x2⟩ := r.new (o := .lst _) np
      exact hp _ _ _ _ x2 r2 (.lst upd_same (gk.ext x2.nil))
    · rename_i ys e
      have ex := view_tup e
      subst ex
      cases gx with
      | tup t1 gk =>
        refine ⟨_, _, rfl, Or.inr (Gl.sqTS r.sub t1), fun p np => ?_⟩
        obtain ⟨r2, x2⟩ := r.new (o := .lst _) np
        exact hp _ _ _ _ x2 r2 (.lst upd_same (gk.ext x2.nil))
    · exact hp.elim
  · exact hp.elim
/-! sum, any, all -/
def intsD : List D → Option (List Int)
  | [] => some []
  | .int i :: r => (intsD r).map (i :: ·)
  | _ => none
def blsD : List D → Option (List Bool)
  | [] => some []
  | .bl i :: r => (blsD r).map (i :: ·)
  | _ => none
theorem ints_rp : ∀ {ds : List D} {vs : List V} {ns : List Int}, RpA K Γ F ι vs ds → intsD ds = some ns → vs = ns.map V.int
  | [], _, _, .nil, e => by cases e; rfl
  | .int i :: r, _, ns, .cons h g, e => by
    unfold intsD at e
    cases q : intsD r with
    | none => rw [q] at e; cases e
    | some m =>
      rw [q] at e
      cases e
      cases h
      rw [ints_rp g q]
      rfl
theorem bls_rp : ∀ {ds : List D} {vs : List V} {ns : List Bool}, RpA K Γ F ι vs ds → blsD ds = some ns → vs = ns.map V.bl
  | [], _, _, .nil, e => by cases e; rfl
  | .bl i :: r, _, ns, .cons h g, e => by
    unfold blsD at e
    cases q : blsD r with
    | none => rw [q] at e; cases e
    | some m =>
      rw [q] at e
      cases e
      cases h
      rw [bls_rp g q]
      rfl
def sumD (xs : List D) (s : Sto) : Out D := match xs with
  | [x] => match vw x s with
    | .lst ys => match intsD ys with
      | some ns => .ok (.int ns.sum) s
      | none => .bad
    | _ => .bad
  | _ => .bad
def anyD (xs : List D) (s : Sto) : Out D := match xs with
  | [x] => match vw x s with
    | .lst ys => match blsD ys with
      | some ns => .ok (.bl (ns.any _root_.id)) s
      | none => .bad
    | _ => .bad
  | _ => .bad
def allD (xs : List D) (s : Sto) : Out D := match xs with
  | [x] => match vw x s with
    | .lst ys => match blsD ys with
      | some ns => .ok (.bl (ns.all _root_.id)) s
      | none => .bad
    | _ => .bad
  | _ => .bad
theorem call_sumA (hc : X.calm = true) (hK : X.K = K := by rfl) : CallR X (.builtin "sum") (rSum K) := by subst hK; exact cr_sum hc
theorem call_anyA (hc : X.calm = true) (hK : X.K = K := by rfl) : CallR X (.builtin "any") (rAny K) := by subst hK; exact cr_any hc
theorem call_allA (hc : X.calm = true) (hK : X.K = K := by rfl) : CallR X (.builtin "all") (rAll K) := by subst hK; exact cr_all hc
theorem cg_sum : CallG K Γ (rSum K) sumD := by
  intro W σ H Q G F ι s xs vs r g hp
  unfold sumD at hp
  split at hp
  · obtain ⟨v, rfl, gx⟩ := one_rp g
    split at hp
    · rename_i ys e
      split at hp
      · rename_i ns en
        obtain ⟨a, ws, rfl, ha, gk⟩ := r.view gx (view_lst e)
        have ew := ints_rp gk en
        subst ew
        exact ⟨a, ns, rfl, SqL.of ha, hp _ _ _ _ Ext.refl r (.int _)⟩
      · exact hp.elim
    · exact hp.elim
  · exact hp.elim
theorem cg_any : CallG K Γ (rAny K) anyD := by
  intro W σ H Q G F ι s xs vs r g hp
  unfold anyD at hp
  split at hp
  · obtain ⟨v, rfl, gx⟩ := one_rp g
    split at hp
    · rename_i ys e
      split at hp
      · rename_i ns en
        obtain ⟨a, ws, rfl, ha, gk⟩ := r.view gx (view_lst e)
        have ew := bls_rp gk en
        subst ew
        exact ⟨a, ns, rfl, SqL.of ha, hp _ _ _ _ Ext.refl r (.bl _)⟩
      · exact hp.elim
    · exact hp.elim
  · exact hp.elim
theorem cg_all : CallG K Γ (rAll K) allD := by
  intro W σ H Q G F ι s xs vs r g hp
  unfold allD at hp
  split at hp
  · obtain ⟨v, rfl, gx⟩ := one_rp g
    split at hp
    · rename_i ys e
      split at hp
      · rename_i ns en
        obtain ⟨a, ws, rfl, ha, gk⟩ := r.view gx (view_lst e)
        have ew := bls_rp gk en
        subst ew
        exact ⟨a, ns, rfl, SqL.of ha, hp _ _ _ _ Ext.refl r (.bl _)⟩
      · exact hp.elim
    · exact hp.elim
  · exact hp.elim
end
/-! ### repr -/
mutual
def wideB : PyData → Bool
  | .none => true
  | .bool _ => true
  | .str _ => true
  | .int i => decide (i.natAbs < 10 ^ 4300)
  | .list xs => wideA xs
  | .tuple xs => wideA xs
  | .dict _ => false
def wideA : List PyData → Bool
  | [] => true
  | x :: xs => wideB x && wideA xs
end
mutual
theorem wide_of : ∀ d : PyData, wideB d = true → Gl.Wide d
  | .none, _ => trivial
  | .bool _, _ => trivial
  | .str _, _ => trivial
  | .int i, h => of_decide_eq_true (p := i.natAbs < 10 ^ 4300) h
  | .list xs, h => wide_all xs h
  | .tuple xs, h => wide_all xs h
theorem wide_all : ∀ ds : List PyData, wideA ds = true → Gl.WideAll ds
  | [], _ => trivial
  | x :: xs, h => by
    unfold wideA at h
    rw [Bool.and_eq_true] at h
    exact ⟨wide_of x h.1, wide_all xs h.2⟩
end
/-- data that may be shown -/
def canShow (q : PyData) : Bool := wideB q && (decide (q.depth ≤ 30) && decide (Gl.wt q ≤ sizeLine))
def reprD (xs : List D) (s : Sto) : Out D := match xs with
  | [x] => match (vw x s).py with
    | some q => if canShow q = true then .ok (.str q.shown) s else .bad
    | none => .bad
  | _ => .bad
section
variable {X : Cx} {K : PySem.W.Frag} {Γ : Nat → Addr}
theorem call_reprA {k : Nat} (hr : Room k X.A) (hG : X.A.guards = some []) (hn : X.base.NoDigits) (hK : X.K = K := by rfl) : CallR X (.builtin "repr") (Gl.rReprW K) := by
  subst hK
  exact Gl.call_reprW hr hG hn
theorem cg_repr : CallG K Γ (Gl.rReprW K) reprD := by
  intro W σ H Q G F ι s xs vs r g hp
  unfold reprD at hp
  split at hp
  · obtain ⟨v, rfl, gx⟩ := one_rp g
    split at hp
    · rename_i q e
      split at hp
      · rename_i hc
        unfold canShow at hc
        simp only [Bool.and_eq_true, decide_eq_true_eq] at hc
        exact Gl.r_reprW q (r.viewP gx e) (wide_of q hc.1) hc.2.1 hc.2.2 (hp _ _ _ _ Ext.refl r (.str _))
      · exact hp.elim
    · exact hp.elim
  · exact hp.elim
/-! ### isinstance -/
def kindD (x : D) (s : Sto) : Option String := match vw x s with
  | .non => some "NoneType"
  | .bl _ => some "bool"
  | .int _ => some "int"
  | .str _ => some "str"
  | .lst _ => some "list"
  | .scr _ => some "list"
  | .tup _ => some "tuple"
  | .dic _ => some "dict"
  | _ => none
theorem kind_rp {H G F : Hp} {ι : List Addr} {s : Sto} {x : D} {v : V} {n : String} (r : Rel K Γ G F H ι s) (g : Rp K Γ F ι v x) (e : kindD x s = some n) : Gl.Knd K H v n := by
  unfold kindD at e
  split at e
  · rename_i q
    cases e
    cases x <;> first | (cases q; done) | skip
    · cases g; exact .non
    · rename_i m
      have e' : (match s[m]? with | some (.lst xs) => D.lst xs | some (.dic kvs) => .dic kvs | _ => .cell m) = .non := q
      split at e' <;> cases e'
  · rename_i q
    cases e
    cases x <;> first | (cases q; done) | skip
    · cases g; exact .bl _
    · rename_i m
      have e' : (match s[m]? with | some (.lst xs) => D.lst xs | some (.dic kvs) => .dic kvs | _ => .cell m) = .bl _ := q
      split at e' <;> cases e'
  · rename_i q
    cases e
    cases x <;> first | (cases q; done) | skip
    · cases g; exact .int _
    · rename_i m
      have e' : (match s[m]? with | some (.lst xs) => D.lst xs | some (.dic kvs) => .dic kvs | _ => .cell m) = .int _ := q
      split at e' <;> cases e'
  · rename_i q
    cases e
    have ex := view_str q
    subst ex
    cases g; exact .str _
  · rename_i q
    cases e
    obtain ⟨a, ws, rfl, ha, gk⟩ := r.view g (view_lst q)
    exact .lst (SqL.of ha)
  · rename_i q
    cases e
    have ex := vw_scr q
    subst ex
    cases g with
    | scr t => exact .lst (Gl.sqLS r.sub t)
  · rename_i q
    cases e
    have ex := view_tup q
    subst ex
    cases g with
    | tup t _ => exact .tup (Gl.sqTS r.sub t)
  · rename_i q
    cases e
    obtain ⟨a, ks, rfl, ha, gk⟩ := r.viewD g q
    rcases ha with ha | ⟨o, ha⟩
    · exact .dK ha
    · exact .dF ha
  · cases e
/-- what is known of the classes cs -/
structure Cls (K : PySem.W.Frag) (Γ : Nat → Addr) (cs : List Nat) : Prop where
  sc : ∀ c ∈ cs, SlX.SCls K (Γ c)
  si : ∀ c ∈ cs, SlX.SIsi K (Γ c)
  toB : ∀ c ∈ cs, ∀ T ∈ Gl.asked, PySem.W.kitOne K (.ref (Γ c)) (.type T) = some false
  ofB : ∀ c ∈ cs, ∀ n ∈ Gl.kinds, PySem.W.kitOne K (.type n) (.ref (Γ c)) = some false
  own : ∀ c ∈ cs, ∀ k ∈ cs, PySem.W.kitOne K (.ref (Γ c)) (.ref (Γ k)) = some (c == k)
  nf : ∀ c ∈ cs, ∀ k ∈ cs, PySem.W.notFirst K (Γ c) (.ref (Γ k)) = true
/-- the class of an instance -/
def clsD (x : D) (s : Sto) : Option Nat := match x with
  | .ins c _ => some c
  | .cell n => match s[n]? with
    | some (.ins c _) => some c
    | _ => none
  | _ => none
theorem InsAt.slt {G F H : Hp} {a C dx : Addr} {vs : List (Option V)} (h : InsAt G F H a C dx vs) : SlX.Slt H a C dx vs := by
  rcases h with ⟨h1, h2, _⟩ | h
  · exact Or.inl ⟨h1, h2⟩
  · exact Or.inr ⟨h.1, h.2.1⟩
theorem cls_rp {H G F : Hp} {ι : List Addr} {s : Sto} {x : D} {v : V} {c : Nat} (r : Rel K Γ G F H ι s) (g : Rp K Γ F ι v x) (e : clsD x s = some c) : ∃ a dx vs, v = .ref a ∧ SlX.Slt H a (Γ c) dx vs := by
  cases x <;> first | (cases e; done) | skip
  · cases e
    cases g with
    | ins h _ _ => exact ⟨_, _, _, rfl, slt_same r.sub h⟩
  · rename_i m
    have e' : (match s[m]? with | some (.ins c _) => some c | _ => none) = some c := e
    split at e'
    · rename_i q
      cases e'
      cases g with
      | cell h =>
        obtain ⟨_, dx, vs, i, _⟩ := r.at_ m _ _ q h
        exact ⟨_, dx, vs, rfl, i.slt⟩
    · cases e'
/-- isinstance(x, T), T built in -/
def isiT (cs : List Nat) (T : String) (xs : List D) (s : Sto) : Out D := match xs with
  | [x, _] => match kindD x s with
    | some n => .ok (.bl (Gl.isKind n T)) s
    | none => match clsD x s with
      | some c => if c ∈ cs then .ok (.bl false) s else .bad
      | none => .bad
  | _ => .bad
/-- isinstance(x, C), C the class k -/
def isiC (cs : List Nat) (k : Nat) (xs : List D) (s : Sto) : Out D := match xs with
  | [x, _] => match kindD x s with
    | some _ => .ok (.bl false) s
    | none => match clsD x s with
      | some c => if c ∈ cs then .ok (.bl (c == k)) s else .bad
      | none => .bad
  | _ => .bad
def rIsiA (K : PySem.W.Frag) (u : Value) : List V → Hp → VK → Prop := fun xs H Q => rIsi K xs H Q ∨ SlX.rIsiSl K u xs H Q
theorem call_isiA {u : Value} (hK : X.K = K := by rfl) : CallR X (.builtin "isinstance") (rIsiA K u) := by
  subst hK
  exact CallR.or call_isi (SlX.call_isiSl u)
def isiD (φ : FE) (f : List D → Sto → Out D) : FE := bindX φ fun _ x s => f [x, .non] s
end
section
variable {X : Cx} {K : PySem.W.Frag} {Γ : Nat → Addr} {W : WX} {pos p p2 : Pos} {e : Expr} {te : TE} {φ : FE} {cs : List Nat} {x : Str}
theorem gd_isiT {T : String} (hc : Cls K Γ cs) (hT : T ∈ Gl.asked) (h : Gd K Γ W te φ) : Gd K Γ W (tCB (rIsiA K (.type T)) (tCons te (tCons (tC (.ty T)) tNil))) (isiD φ (isiT cs T)) := by
  intro σ H Q G F ι s ds hs hr hp
  refine h.step hs hr hp fun x s1 v H1 F1 ι1 x1 r1 q1 hs1 hp1 => ?_
  dsimp only at hp1
  unfold isiT at hp1
  dsimp only at hp1
  split at hp1
  · rename_i n en
    exact Or.inl (Gl.r_isiB (kind_rp r1 q1 en) hT rfl (hp1 _ _ _ _ Ext.refl r1 (.bl _)))
  · split at hp1
    · rename_i c ec
      split at hp1
      · rename_i hm
        obtain ⟨a, dx, vs, rfl, sl⟩ := cls_rp r1 q1 ec
        exact Or.inr ⟨a, _, dx, vs, .ty T, false, rfl, rfl, fun w hw => hw, sl, hc.sc c hm, hc.si c hm, hc.toB c hm T hT, hp1 _ _ _ _ Ext.refl r1 (.bl _)⟩
      · exact hp1.elim
    · exact hp1.elim
theorem gd_isiC {k : Nat} (hc : Cls K Γ cs) (hk : k ∈ cs) (h : Gd K Γ W te φ) : Gd K Γ W (tCB (rIsiA K (.ref (Γ k))) (tCons te (tCons (tC (.ref (Γ k))) tNil))) (isiD φ (isiC cs k)) := by
  intro σ H Q G F ι s ds hs hr hp
  refine h.step hs hr hp fun x s1 v H1 F1 ι1 x1 r1 q1 hs1 hp1 => ?_
  dsimp only at hp1
  unfold isiC at hp1
  dsimp only at hp1
  split at hp1
  · rename_i n en
    have kn := kind_rp r1 q1 en
    exact Or.inl ⟨v, .ref (Γ k), .type n, .ref (Γ k), false, rfl, .own _, kn.ty, hc.ofB k hk n kn.mem, hp1 _ _ _ _ Ext.refl r1 (.bl _)⟩
  · split at hp1
    · rename_i c ec
      split at hp1
      · rename_i hm
        obtain ⟨a, dx, vs, rfl, sl⟩ := cls_rp r1 q1 ec
        exact Or.inr ⟨a, _, dx, vs, .ref (Γ k), c == k, rfl, rfl, fun w hw => hw, sl, hc.sc c hm, hc.si c hm, hc.own c hm k hk, hp1 _ _ _ _ Ext.refl r1 (.bl _)⟩
      · exact hp1.elim
    · exact hp1.elim
theorem de_isiT {T : String} (hc : Cls K Γ cs) (hg : L2.Gl X "isinstance") (hm : X.mg "isinstance" = none) (hgT : L2.Gl X x) (hmT : X.mg x = none) (hvT : bootBuiltins x = some (.type T)) (h : DE X K Γ W e te φ)
    (hT : T ∈ Gl.asked := by decide) (hn : x ≠ "__name__" := by decide) (hx : (x == ("__debug__" : Str)) = false := by decide) (hK : X.K = K := by rfl)
    (hs : starEach [e, .Name x p2] X.env = (false, eval e X.env) :: starEach [.Name x p2] X.env := by rfl) (hs2 : starEach [.Name x p2] X.env = (false, eval (.Name x p2) X.env) :: starEach [] X.env := by rfl) (hpl : (backTo pos (starEach [.Name x p2] X.env)).any (·.1) = false := by rfl) :
    DE X K Γ W (.Call (.Name "isinstance" p) [e, .Name x p2] [] pos) (tCB (rIsiA K (.type T)) (tCons te (tCons (tC (.ty T)) tNil))) (isiD φ (isiT cs T)) :=
  ⟨pe_callB (call_isiA hK) hg hm (by decide +kernel) (pa_cons h.pe (pa_cons (pe_bltn hgT hmT hvT rfl hn hx) pa_nil hs2) hs) (by decide) (by decide) hs hpl, gd_isiT hc hT h.gd⟩
theorem de_isiC {k : Nat} (hc : Cls K Γ cs) (hg : L2.Gl X "isinstance") (hm : X.mg "isinstance" = none) (hgT : L2.Gl X x) (hmT : X.mg x = some (.ref (Γ k))) (h : DE X K Γ W e te φ)
    (hk : k ∈ cs := by decide) (hx : (x == ("__debug__" : Str)) = false := by decide) (hK : X.K = K := by rfl)
    (hs : starEach [e, .Name x p2] X.env = (false, eval e X.env) :: starEach [.Name x p2] X.env := by rfl) (hs2 : starEach [.Name x p2] X.env = (false, eval (.Name x p2) X.env) :: starEach [] X.env := by rfl) (hpl : (backTo pos (starEach [.Name x p2] X.env)).any (·.1) = false := by rfl) :
    DE X K Γ W (.Call (.Name "isinstance" p) [e, .Name x p2] [] pos) (tCB (rIsiA K (.ref (Γ k))) (tCons te (tCons (tC (.ref (Γ k))) tNil))) (isiD φ (isiC cs k)) :=
  ⟨pe_callB (call_isiA hK) hg hm (by decide +kernel) (pa_cons h.pe (pa_cons (pe_glob hgT hmT rfl hx) pa_nil hs2) hs) (by decide) (by decide) hs hpl, gd_isiC hc hk h.gd⟩
end
end Md

set_option Elab.async false
set_option maxRecDepth 100000
set_option maxHeartbeats 4000000
set_option linter.all false
/-! the mirror layer: statements, loops, comprehensions -/
namespace Md
open PySem PySem.Spec PyProof.Rows L2
section
variable (K : PySem.W.Frag) (Γ : Nat → Addr) (W : WX) (G F : Hp) (ι : List Addr)
def PostS (E : Ends) : SOut → Prop
  | .nx ds s => ∀ σ' H' F' ι', Ext F ι F' ι' → RS K Γ F' ι' σ' ds → Rel K Γ G F' H' ι' s → E.nx σ' H'
  | .rt d s => ∀ v H' F' ι', Ext F ι F' ι' → Rel K Γ G F' H' ι' s → Rp K Γ F' ι' v d → E.rt v H'
  | .bk ds s => ∀ σ' H' F' ι', Ext F ι F' ι' → RS K Γ F' ι' σ' ds → Rel K Γ G F' H' ι' s → E.bk σ' H'
  | .ct ds s => ∀ σ' H' F' ι', Ext F ι F' ι' → RS K Γ F' ι' σ' ds → Rel K Γ G F' H' ι' s → E.ct σ' H'
  | .err c p ds s => ∀ dd σ' H' F' ι', Ext F ι F' ι' → RS K Γ F' ι' σ' ds → Rel K Γ G F' H' ι' s → ErrAt K Γ F' H' ι' dd p → W (.ref (Γ c)) dd σ' H'
  | .bad => False
end
theorem PostS.ext {K : PySem.W.Frag} {Γ : Nat → Addr} {W : WX} {G F F' : Hp} {ι ι' : List Addr} {E : Ends} {o : SOut} (x : Ext F ι F' ι') (h : PostS K Γ W G F ι E o) : PostS K Γ W G F' ι' E o := by
  cases o with
  | nx ds s => exact fun σ' H' F2 ι2 y => h σ' H' F2 ι2 (x.trans y)
  | rt d s => exact fun σ' H' F2 ι2 y => h σ' H' F2 ι2 (x.trans y)
  | bk ds s => exact fun σ' H' F2 ι2 y => h σ' H' F2 ι2 (x.trans y)
  | ct ds s => exact fun σ' H' F2 ι2 y => h σ' H' F2 ι2 (x.trans y)
  | err c p ds s => exact fun dd σ' H' F2 ι2 y => h dd σ' H' F2 ι2 (x.trans y)
  | bad => exact h
def GS (K : PySem.W.Frag) (Γ : Nat → Addr) (W : WX) (t : TS) (ψ : FS) : Prop :=
  ∀ (E : Ends) (σ : L2.St) (H G F : Hp) (ι : List Addr) (s : Sto) (ds : DSt), RS K Γ F ι σ ds → Rel K Γ G F H ι s → PostS K Γ W G F ι E (ψ ds s) → t E σ H
structure DS (X : Cx) (K : PySem.W.Frag) (Γ : Nat → Addr) (W : WX) (st : Stmt) (t : TS) (ψ : FS) : Prop where
  ps : PS X st t
  gd : GS K Γ W t ψ
structure DSs (X : Cx) (K : PySem.W.Frag) (Γ : Nat → Addr) (W : WX) (st : List Stmt) (t : TS) (ψ : FS) : Prop where
  ps : PSs X st t
  gd : GS K Γ W t ψ
def bindS {α : Type} (o : Out α) (ds : DSt) (k : α → Sto → SOut) : SOut := match o with
  | .ok a s => k a s
  | .err c p s => .err c p ds s
  | .bad => .bad
theorem GdX.stepS {K : PySem.W.Frag} {Γ : Nat → Addr} {W : WX} {σ : L2.St} {H G F : Hp} {ι : List Addr} {s : Sto} {ds : DSt} {α β : Type} {R : Hp → List Addr → α → β → Prop} {t : L2.St → Hp → (α → Hp → Prop) → Prop} {φ : DSt → Sto → Out β} {Q : α → Hp → Prop} {E : Ends} {k : β → Sto → SOut}
    (g : GdX K Γ W R t φ) (hs : RS K Γ F ι σ ds) (hr : Rel K Γ G F H ι s) (hp : PostS K Γ W G F ι E (bindS (φ ds s) ds k))
    (hk : ∀ d s1 v H1 F1 ι1, Ext F ι F1 ι1 → Rel K Γ G F1 H1 ι1 s1 → R F1 ι1 v d → RS K Γ F1 ι1 σ ds → PostS K Γ W G F1 ι1 E (k d s1) → Q v H1) : t σ H Q := by
  refine g σ H Q G F ι s ds hs hr ?_
  cases e : φ ds s with
  | ok d s1 =>
    rw [e] at hp
    exact fun v H1 F1 ι1 x r q => hk d s1 v H1 F1 ι1 x r q (hs.ext x) (hp.ext x)
  | err c p s1 =>
    rw [e] at hp
    exact fun dd H1 F1 ι1 x r q => hp dd σ H1 F1 ι1 x (hs.ext x) r q
  | bad => rw [e] at hp; exact hp
/-! ### small statements -/
def nilS : FS := fun ds s => .nx ds s
def seqS (a b : FS) : FS := fun ds s => match a ds s with
  | .nx ds' s' => b ds' s'
  | o => o
def exprS (φ : FE) : FS := fun ds s => bindS (φ ds s) ds fun _ s => .nx ds s
def retS (φ : FE) : FS := fun ds s => bindS (φ ds s) ds fun d s => .rt d s
def retN : FS := fun _ s => .rt .non s
def ifS (μ : FT) (a b : FS) : FS := fun ds s => bindS (μ ds s) ds fun c s => match c with
  | true => a ds s
  | false => b ds s
def brkS : FS := fun ds s => .bk ds s
def cntS : FS := fun ds s => .ct ds s
section
variable {X : Cx} {K : PySem.W.Frag} {Γ : Nat → Addr} {W : WX} {pos : Pos} {e : Expr} {te : TE} {φ : FE} {st : Stmt} {sts : List Stmt} {t u : TS} {a b : FS} {c : Expr} {tc : TT} {μ : FT}
theorem ds_nil : DSs X K Γ W [] tNext nilS := ⟨pss_nil, fun E σ H G F ι s ds hs hr hp => hp σ H F ι Ext.refl hs hr⟩
theorem gs_seq (g1 : GS K Γ W t a) (g2 : GS K Γ W u b) : GS K Γ W (tSeq t u) (seqS a b) := by
  intro E σ H G F ι s ds hs hr hp
  refine g1 _ σ H G F ι s ds hs hr ?_
  unfold seqS at hp
  cases e : a ds s with
  | nx ds1 s1 =>
    rw [e] at hp
    exact fun σ' H' F' ι' x rs r => g2 E σ' H' G F' ι' s1 ds1 rs r (hp.ext x)
  | rt d s1 => rw [e] at hp; exact hp
  | bk d s1 => rw [e] at hp; exact hp
  | ct d s1 => rw [e] at hp; exact hp
  | err c p d s1 => rw [e] at hp; exact hp
  | bad => rw [e] at hp; exact hp
theorem ds_cons (h1 : DS X K Γ W st t a) (h2 : DSs X K Γ W sts u b) : DSs X K Γ W (st :: sts) (tSeq t u) (seqS a b) := ⟨pss_cons h1.ps h2.ps, gs_seq h1.gd h2.gd⟩
theorem ds_one (h1 : DS X K Γ W st t a) : DSs X K Γ W [st] t a := ⟨pss_one h1.ps, h1.gd⟩
theorem ds_expr (h : DE X K Γ W e te φ) (hs : swapsWith e none pos.line X.env = pure false := by rfl) : DS X K Γ W (.Expr e pos) (tDrop te) (exprS φ) :=
  ⟨ps_expr h.pe hs, fun E σ H G F ι s ds hs hr hp => h.gd.stepS hs hr hp fun d s1 v H1 F1 ι1 x1 r1 q1 hs1 hp1 => hp1 σ H1 F1 ι1 Ext.refl hs1 r1⟩
theorem ds_ret (h : DE X K Γ W e te φ) : DS X K Γ W (.Return (some e) pos) (tRet te) (retS φ) :=
  ⟨ps_ret h.pe, fun E σ H G F ι s ds hs hr hp => h.gd.stepS hs hr hp fun d s1 v H1 F1 ι1 x1 r1 q1 hs1 hp1 => hp1 v H1 F1 ι1 Ext.refl r1 q1⟩
theorem ds_retN : DS X K Γ W (.Return none pos) tRetN retN := ⟨ps_retN, fun E σ H G F ι s ds hs hr hp => hp _ _ _ _ Ext.refl hr .non⟩
theorem ds_pass : DS X K Γ W (.Pass pos) tNext nilS := ⟨ps_pass, fun E σ H G F ι s ds hs hr hp => hp σ H F ι Ext.refl hs hr⟩
theorem ds_break : DS X K Γ W (.Break pos) tBreak brkS := ⟨ps_break, fun E σ H G F ι s ds hs hr hp => hp σ H F ι Ext.refl hs hr⟩
theorem ds_continue : DS X K Γ W (.Continue pos) tCont cntS := ⟨ps_continue, fun E σ H G F ι s ds hs hr hp => hp σ H F ι Ext.refl hs hr⟩
theorem ds_if (hc : DT X K Γ W c tc μ) (h1 : DSs X K Γ W sts t a) {sts' : List Stmt} (h2 : DSs X K Γ W sts' u b) : DS X K Γ W (.If c sts sts' pos) (tIfS tc t u) (ifS μ a b) := by
  refine ⟨ps_if hc.pt h1.ps h2.ps, fun E σ H G F ι s ds hs hr hp => hc.gd.stepS hs hr hp fun d s1 v H1 F1 ι1 x1 r1 q1 hs1 hp1 => ?_⟩
  cases (show v = d from q1)
  cases d with
  | true => exact iteT (h1.gd E σ H1 G F1 ι1 s1 ds hs1 r1 hp1)
  | false => exact iteF (h2.gd E σ H1 G F1 ι1 s1 ds hs1 r1 hp1)
end
/-! ### targets -/
def Outside (sl : List Nat) (σ σ' : L2.St) : Prop := σ'.length = σ.length ∧ ∀ i : Nat, i ∉ sl → σ'[i]? = σ[i]?
theorem Outside.refl {σ : L2.St} : Outside [] σ σ := ⟨rfl, fun _ _ => rfl⟩
abbrev FG := D → DSt → Option DSt
def GG (K : PySem.W.Frag) (Γ : Nat → Addr) (sl : List Nat) (g : TG) (γ : FG) : Prop :=
  ∀ (v : V) (d : D) (σ : L2.St) (H : Hp) (Q : L2.St → Hp → Prop) (G F : Hp) (ι : List Addr) (s : Sto) (ds ds' : DSt), RS K Γ F ι σ ds → Rel K Γ G F H ι s → Rp K Γ F ι v d → γ d ds = some ds' → (∀ σ', RS K Γ F ι σ' ds' → Outside sl σ σ' → Q σ' H) → g v σ H Q
def GGs (K : PySem.W.Frag) (Γ : Nat → Addr) (sl : List Nat) (g : TGs) (γ : List D → DSt → Option DSt) : Prop :=
  ∀ (vs : List V) (es : List D) (σ : L2.St) (H : Hp) (Q : L2.St → Hp → Prop) (G F : Hp) (ι : List Addr) (s : Sto) (ds ds' : DSt), RS K Γ F ι σ ds → Rel K Γ G F H ι s → RpA K Γ F ι vs es → γ es ds = some ds' → (∀ σ', RS K Γ F ι σ' ds' → Outside sl σ σ' → Q σ' H) → g vs σ H Q
structure DG (X : Cx) (K : PySem.W.Frag) (Γ : Nat → Addr) (sl : List Nat) (e : Expr) (g : TG) (γ : FG) : Prop where
  pg : PG X e g
  gd : GG K Γ sl g γ
structure DGs (X : Cx) (K : PySem.W.Frag) (Γ : Nat → Addr) (sl : List Nat) (es : List Expr) (g : TGs) (γ : List D → DSt → Option DSt) : Prop where
  pg : PGs X es g
  gd : GGs K Γ sl g γ
def nameG (i : Nat) : FG := fun d ds => some (ds.set i (some d))
def nilG : List D → DSt → Option DSt := fun es ds => match es with
  | [] => some ds
  | _ => none
def consG (γ : FG) (δ : List D → DSt → Option DSt) : List D → DSt → Option DSt := fun es ds => match es with
  | d :: r => match γ d ds with
    | some ds' => δ r ds'
    | none => none
  | [] => none
def tupG (n : Nat) (δ : List D → DSt → Option DSt) : FG := fun d ds => match d with
  | .tup es => if es.length = n then δ es ds else none
  | _ => none
section
variable {X : Cx} {K : PySem.W.Frag} {Γ : Nat → Addr} {W : WX} {pos : Pos} {i n k : Nat} {x : Str} {e : Expr} {es : List Expr} {g : TG} {gs : TGs} {γ : FG} {δ : List D → DSt → Option DSt} {sl sl' : List Nat}
theorem gg_name : GG K Γ [i] (gName i) (nameG i) := fun v d σ H Q G F ι s ds ds' hs hr rp e hq => by
  cases e
  exact hq _ (hs.set rp i) ⟨by rw [List.length_set], fun j hj => List.getElem?_set_ne fun z => hj (by simp [z])⟩
theorem dg_name (hN : X.N.Nodup) (hi : X.N[i]? = some x) (hx : Loc X.env.scope x) (hf : X.fn x = true ∨ X.env.scope.names.lookup x = some .local := by first | exact .inl rfl | exact .inr rfl | assumption) : DG X K Γ [i] (.Name x pos) (gName i) (nameG i) := ⟨pg_name hN hi hx hf, gg_name⟩
theorem dgs_nil : DGs X K Γ [] [] gNil nilG := ⟨pgs_nil, fun vs es σ H Q G F ι s ds ds' hs hr rp e hq => by
  cases rp with
  | nil => cases e; exact ⟨rfl, hq σ hs Outside.refl⟩
  | cons _ _ => cases e⟩
theorem dgs_cons (h1 : DG X K Γ sl e g γ) (h2 : DGs X K Γ sl' es gs δ) (hs : (assignEach (e :: es) X.env).map (·.2) = assign e X.env :: (assignEach es X.env).map (·.2) := by rfl) : DGs X K Γ (sl ++ sl') (e :: es) (gCons g gs) (consG γ δ) := by
  refine ⟨pgs_cons h1.pg h2.pg hs, fun vs es σ H Q G F ι s ds ds' hs hr rp e hq => ?_⟩
  cases rp with
  | nil => cases e
  | cons h t =>
    unfold consG at e
    dsimp only at e
    split at e
    · rename_i ds1 e1
      refine ⟨_, _, rfl, h1.gd _ _ σ H _ G F ι s ds ds1 hs hr h e1 fun σ1 rs1 o1 => ?_⟩
      refine h2.gd _ _ σ1 H Q G F ι s ds1 ds' rs1 hr t e fun σ2 rs2 o2 => hq σ2 rs2 ⟨o2.1.trans o1.1, fun j hj => ?_⟩
      rw [List.mem_append, not_or] at hj
      exact (o2.2 j hj.2).trans (o1.2 j hj.1)
    · cases e
theorem dg_tup (hc : X.calm = true) (h : DGs X K Γ sl es gs δ) (hn : (assignEach es X.env).length = n := by rfl) (hst : (assignEach es X.env).findIdx? (·.1) = none := by rfl) (hK : X.K = K := by rfl) : DG X K Γ sl (.Tuple es k pos) (gTup K n gs) (tupG n δ) := by
  subst hK
  refine ⟨pg_tup hc h.pg hn hst, fun v d σ H Q G F ι s ds ds' hs hr rp e hq => ?_⟩
  cases d <;> first | (cases e; done) | skip
  rename_i es'
  have e' : (if es'.length = n then δ es' ds else none) = some ds' := e
  split at e'
  · rename_i hl
    cases rp with
    | tup t1 gk => exact ⟨_, _, rfl, Gl.sqTS hr.sub t1, by rw [gk.length]; exact hl, h.gd _ _ σ H Q G F ι s ds ds' hs hr gk.up e' hq⟩
  · cases e'
end
def asgS (φ : FE) (γ : FG) : FS := fun ds s => bindS (φ ds s) ds fun d s => match γ d ds with
  | some ds' => .nx ds' s
  | none => .bad
def parS (i j : Nat) (ψ : FA) : FS := fun ds s => bindS (ψ ds s) ds fun xs s => match xs with
  | [x, y] => .nx ((ds.set i (some x)).set j (some y)) s
  | _ => .bad
def par3S (i j l : Nat) (ψ : FA) : FS := fun ds s => bindS (ψ ds s) ds fun xs s => match xs with
  | [x, y, z] => .nx (((ds.set i (some x)).set j (some y)).set l (some z)) s
  | _ => .bad
section
variable {X : Cx} {K : PySem.W.Frag} {Γ : Nat → Addr} {W : WX} {pos pos' : Pos} {i j l n k : Nat} {x y z : Str} {e tg : Expr} {te : TE} {φ : FE} {g : TG} {γ : FG} {sl : List Nat} {ta : TA} {ψ : FA}
theorem gs_asg (h : Gd K Γ W te φ) (hg : GG K Γ sl g γ) : GS K Γ W (tAsg te g) (asgS φ γ) := by
  intro E σ H G F ι s ds hs hr hp
  refine h.stepS hs hr hp fun d s1 v H1 F1 ι1 x1 r1 q1 hs1 hp1 => ?_
  try dsimp only at hp1
  split at hp1
  · rename_i ds' e
    exact hg v d σ H1 _ G F1 ι1 s1 ds ds' hs1 r1 q1 e fun σ' rs o => hp1 σ' H1 F1 ι1 Ext.refl rs r1
  · exact hp1.elim
theorem ds_set (hN : X.N.Nodup) (hi : X.N[i]? = some x) (hx : Loc X.env.scope x) (h : DE X K Γ W e te φ) (hs : swapsWith e (some (.Name x pos')) pos.line X.env = pure false := by rfl) (hf : X.fn x = true ∨ X.env.scope.names.lookup x = some .local := by first | exact .inl rfl | exact .inr rfl | assumption) :
    DS X K Γ W (.Assign [.Name x pos'] e pos) (tAsg te (gName i)) (asgS φ (nameG i)) := ⟨ps_set hN hi hx h.pe hs hf, gs_asg h.gd gg_name⟩
theorem ds_asg (h : DE X K Γ W e te φ) (hg : DG X K Γ sl tg g γ) (hs : swapsWithSole [tg] e pos.line X.env = pure false := by rfl) (hw : swappedStores [tg] e X.env = pure none := by rfl) (h1 : (assignEach [tg] X.env).map (·.2) = [assign tg X.env] := by rfl) :
    DS X K Γ W (.Assign [tg] e pos) (tAsg te g) (asgS φ γ) := ⟨ps_asg h.pe hg.pg hs hw h1, gs_asg h.gd hg.gd⟩
theorem gs_par (h : Ga K Γ W ta ψ) : GS K Γ W (tPar i j ta) (parS i j ψ) := by
  intro E σ H G F ι s ds hs hr hp
  refine h.stepS hs hr hp fun xs s1 vs H1 F1 ι1 x1 r1 q1 hs1 hp1 => ?_
  try dsimp only at hp1
  split at hp1
  · obtain ⟨v, w, rfl, g1, g2⟩ := two_rp q1
    exact ⟨v, w, rfl, hp1 _ H1 F1 ι1 Ext.refl ((hs1.set g1 i).set g2 j) r1⟩
  · exact hp1.elim
theorem gs_par3 (h : Ga K Γ W ta ψ) : GS K Γ W (tPar3 i j l ta) (par3S i j l ψ) := by
  intro E σ H G F ι s ds hs hr hp
  refine h.stepS hs hr hp fun xs s1 vs H1 F1 ι1 x1 r1 q1 hs1 hp1 => ?_
  try dsimp only at hp1
  split at hp1
  · cases q1 with
    | cons g0 t =>
      obtain ⟨v, w, rfl, g1, g2⟩ := two_rp t
      exact ⟨_, v, w, rfl, hp1 _ H1 F1 ι1 Ext.refl (((hs1.set g0 i).set g1 j).set g2 l) r1⟩
  · exact hp1.elim
theorem ds_par {a b : Expr} {px py pt : Pos} {kt k2 pt2} (hc : X.calm = true) (hN : X.N.Nodup) (hi : X.N[i]? = some x) (hj : X.N[j]? = some y) (hij : i ≠ j) (hx : X.env.scope.names.lookup x = some .local) (hy : X.env.scope.names.lookup y = some .local) (ha : DA X K Γ W [a, b] ta ψ)
    (hw : swappedStores [.Tuple [.Name x px, .Name y py] kt pt] (.Tuple [a, b] k2 pt2) X.env = pure (some [x, y])) (hs : swapsWithSole [.Tuple [.Name x px, .Name y py] kt pt] (.Tuple [a, b] k2 pt2) pos.line X.env = pure false := by rfl) :
    DS X K Γ W (.Assign [.Tuple [.Name x px, .Name y py] kt pt] (.Tuple [a, b] k2 pt2) pos) (tPar i j ta) (parS i j ψ) := ⟨ps_par hc hN hi hj hij hx hy ha.pa hw hs, gs_par ha.gd⟩
theorem ds_par3 {a b c : Expr} {px py pz pt : Pos} {kt k2 pt2} (hc : X.calm = true) (hN : X.N.Nodup) (hi : X.N[i]? = some x) (hj : X.N[j]? = some y) (hl : X.N[l]? = some z) (hij : i ≠ j) (hil : i ≠ l) (hjl : j ≠ l) (hx : X.env.scope.names.lookup x = some .local) (hy : X.env.scope.names.lookup y = some .local) (hz : X.env.scope.names.lookup z = some .local) (ha : DA X K Γ W [a, b, c] ta ψ)
    (hw : swappedStores [.Tuple [.Name x px, .Name y py, .Name z pz] kt pt] (.Tuple [a, b, c] k2 pt2) X.env = pure (some [x, y, z])) (hs : swapsWithSole [.Tuple [.Name x px, .Name y py, .Name z pz] kt pt] (.Tuple [a, b, c] k2 pt2) pos.line X.env = pure false := by rfl) :
    DS X K Γ W (.Assign [.Tuple [.Name x px, .Name y py, .Name z pz] kt pt] (.Tuple [a, b, c] k2 pt2) pos) (tPar3 i j l ta) (par3S i j l ψ) := ⟨ps_par3 hc hN hi hj hl hij hil hjl hx hy hz ha.pa hw hs, gs_par3 ha.gd⟩
end
/-! ### what is walked -/
structure WalkD (K : PySem.W.Frag) (Γ : Nat → Addr) (F : Hp) (ι : List Addr) (J : It) (xs : List D) : Prop where
  goes : ∀ (i : Nat) (H : Hp), i < xs.length → Same F H → J.go i H
  stops : ∀ H : Hp, Same F H → J.stop xs.length H
  yields : ∀ (i : Nat) (H : Hp) (v : V) (H' : Hp) (d : D), Same F H → J.yld i H v H' → xs[i]? = some d → (H' = H ∧ Rp K Γ F [] v d) ∨ ∃ T vs ds, v = .ref T ∧ H T = none ∧ H' = upd H T (.tup vs) ∧ RpA K Γ F [] vs ds ∧ d = .tup ds
theorem WalkD.ext {K : PySem.W.Frag} {Γ : Nat → Addr} {F F' : Hp} {ι ι' : List Addr} {J : It} {xs : List D} (w : WalkD K Γ F ι J xs) (x : Ext F ι F' ι') : WalkD K Γ F' ι' J xs := by
  have tr : ∀ {H : Hp}, Same F' H → Same F H := fun s c o e => s c o (x.same c o e)
  refine ⟨fun i H hi s => w.goes i H hi (tr s), fun H s => w.stops H (tr s), fun i H v H' d s y e => ?_⟩
  rcases w.yields i H v H' d (tr s) y e with ⟨h1, h2⟩ | ⟨T, vs, ds, h1, h2, h3, h4, h5⟩
  · exact Or.inl ⟨h1, h2.ext x.nil⟩
  · exact Or.inr ⟨T, vs, ds, h1, h2, h3, h4.ext x.nil, h5⟩
/-- an iterable's data -/
def GI (K : PySem.W.Frag) (Γ : Nat → Addr) (W : WX) (wi : TI) (η : FA) : Prop := GdX K Γ W (fun F ι (J : It) xs => WalkD K Γ F ι J xs) wi η
structure DI (X : Cx) (K : PySem.W.Frag) (Γ : Nat → Addr) (W : WX) (tg iter : Expr) (wi : TI) (η : FA) : Prop where
  pi : PI X tg iter wi
  gd : GI K Γ W wi η
/-- a list, a tuple, a text, the keys of a dict: whatever the value is -/
def iAny (K : PySem.W.Frag) (te : TE) : TI := fun σ H R => te σ H fun x H1 => (∃ a xs, x = .ref a ∧ SqL K H1 a xs ∧ R (Itl K a) H1) ∨ (∃ a xs, x = .ref a ∧ SqT K H1 a xs ∧ R (Itt K a) H1) ∨ (∃ z, x = .str z ∧ R (Its z) H1) ∨ ∃ d o kvs, x = .ref d ∧ H1 d = some (.frz o (.dK kvs)) ∧ R (Itk d o kvs) H1
theorem pi_any {X : Cx} {K : PySem.W.Frag} {tg l : Expr} {tl : TE} (hK : X.K = K) (hl : PE X l tl) : PI X tg l (iAny K tl) := by
  subst hK
  constructor
  intro pins s σ H R I h
  refine thn (hl.run pins s σ H _ I h) ?_
  rintro v s1 ⟨x, H1, I1, r1, q1⟩
  rcases q1 with ⟨a, xs, rfl, hq, q⟩ | ⟨a, xs, rfl, hq, q⟩ | ⟨z, rfl, q⟩ | ⟨d, o, kvs, rfl, hd, q⟩
  · cases r1
    obtain ⟨its, _, pl, _⟩ := I1.list hq
    exact wpAny_pyIter_list pl.isList (pi_one (tk := s1.toks) I1 _ (turn_list a _) ⟨_, Heap.get?_push_size _ rfl, rfl, rfl⟩ q)
  · cases r1
    obtain ⟨its, _, pl, _⟩ := I1.tuple hq
    exact wpAny_pyIter_tuple (show s1.heap.IsTuple a its.toArray from pl) (pi_one (tk := s1.toks) I1 _ (turn_tuple a _) ⟨_, Heap.get?_push_size _ rfl, rfl, rfl⟩ q)
  · obtain ⟨t, rfl⟩ := r1
    cases ha : z.cps.all (· < 128) with
    | false => exact wpAny_pyIter_wide ha (pi_one (tk := s1.toks) I1 _ (turn_str _ z t "str_iterator" (Or.inr rfl)) ⟨_, Heap.get?_push_size _ rfl, rfl, rfl⟩ q)
    | true => exact wpAny_pyIter_ascii ha (pi_one (tk := s1.toks) I1 _ (turn_str _ z t "str_ascii_iterator" (Or.inl rfl)) ⟨_, Heap.get?_push_size _ rfl, rfl, rfl⟩ q)
  · obtain rfl : v = Value.ref d := r1
    obtain ⟨hs, hgd, hx, es, ep, vs, hdt, hsz, kv, hm⟩ := I1.frzK hd
    refine iter_keys hs hgd hx hdt (pi_one (tk := s1.toks) I1 _ (turn_keys _ hdt) ⟨_, Heap.get?_push_size _ rfl, rfl, ?_⟩ q)
    rw [hsz] <;> rfl
def strL (z : Str) : List D := z.cps.toList.map fun c => .str ⟨#[c]⟩
def itemsD (x : D) (s : Sto) : Out (List D) := match x with
  | .lst xs => .ok xs s
  | .tup xs => .ok xs s
  | .str z => .ok (strL z) s
  | .dic kvs => .ok (kvs.map fun kv => kD kv.1) s
  | _ => .bad
def itD (φ : FE) : FA := bindX φ fun _ x s => itemsD x s
section
variable {X : Cx} {K : PySem.W.Frag} {Γ : Nat → Addr} {W : WX} {F : Hp} {ι : List Addr} {tg l : Expr} {tl : TE} {φ : FE} {a : Addr} {vs : List V} {ds : List D}
theorem walk_lst (h : F a = some (.lst vs)) (g : RpA K Γ F [] vs ds) : WalkD K Γ F ι (Itl K a) ds := by
  refine ⟨fun i H hi s => ?_, fun H s => ⟨vs, SqL.of (s _ _ h), by rw [g.length]; exact Nat.le_refl _⟩, fun i H v H' d s y e => ?_⟩
  · have hv : i < vs.length := by rw [g.length]; exact hi
    exact ⟨vs, vs[i], SqL.of (s _ _ h), by simp [hv]⟩
  · obtain ⟨w, ew, rw'⟩ := g.get e
    have := y.2 vs (SqL.of (s _ _ h))
    rw [ew] at this
    cases this
    exact Or.inl ⟨y.1, rw'⟩
theorem walk_tupD (h : SqT K F a vs) (g : RpA K Γ F [] vs ds) : WalkD K Γ F ι (Itt K a) ds := by
  refine ⟨fun i H hi s => ?_, fun H s => ⟨vs, Gl.sqTS s h, by rw [g.length]; exact Nat.le_refl _⟩, fun i H v H' d s y e => ?_⟩
  · have hv : i < vs.length := by rw [g.length]; exact hi
    exact ⟨vs, vs[i], Gl.sqTS s h, by simp [hv]⟩
  · obtain ⟨w, ew, rw'⟩ := g.get e
    have := y.2 vs (Gl.sqTS s h)
    rw [ew] at this
    cases this
    exact Or.inl ⟨y.1, rw'⟩
theorem walk_strD (z : Str) : WalkD K Γ F ι (Its z) (strL z) := by
  have hl : (strL z).length = z.cps.size := by simp [strL]
  refine ⟨fun i H hi s => ?_, fun H s => ?_, fun i H v H' d s y e => ?_⟩
  · rw [hl] at hi; exact hi
  · rw [hl]; exact Nat.le_refl _
  · obtain ⟨rfl, c, ec, rfl⟩ := y
    refine Or.inl ⟨rfl, ?_⟩
    unfold strL at e
    rw [List.getElem?_map, Array.getElem?_toList, ec] at e
    cases e
    exact .str _
theorem RpK.getK : ∀ {kvs : List (Key × V)} {es : List (Key × D)}, RpK K Γ F ι kvs es → ∀ {i : Nat} {k : Key} {v : V}, kvs[i]? = some (k, v) → ∃ d, es[i]? = some (k, d) ∧ Rp K Γ F ι v d
  | _, _, .nil, i, k, v, e => by simp at e
  | _, _, .cons h g, 0, k, v, e => by cases e; exact ⟨_, rfl, h⟩
  | _, _, .cons h g, i + 1, k, v, e => by
    obtain ⟨d, e1, r⟩ := RpK.getK g (i := i) (k := k) (v := v) e
    exact ⟨d, e1, r⟩
theorem key_rp (k : Key) : Rp K Γ F ι (kV k) (kD k) := by
  cases k with
  | inl i => exact .int i
  | inr x => exact .str x
theorem walk_keysD {o : Obj} {kvs : List (Key × V)} {es : List (Key × D)} (h : F a = some (.frz o (.dK kvs))) (g : RpK K Γ F [] kvs es) : WalkD K Γ F ι (Itk a o kvs) (es.map fun kv => kD kv.1) := by
  have hl : (es.map fun kv => kD kv.1).length = kvs.length := by rw [List.length_map, g.length]
  refine ⟨fun i H hi s => ⟨s _ _ h, by rw [← hl]; exact hi⟩, fun H s => ⟨s _ _ h, by rw [hl]; exact Nat.le_refl _⟩, fun i H v H' d s y e => ?_⟩
  obtain ⟨rfl, k, w, ek, rfl⟩ := y
  obtain ⟨d', e1, _⟩ := g.getK ek
  rw [List.getElem?_map, e1] at e
  cases e
  exact Or.inl ⟨rfl, key_rp k⟩
theorem gi_any (h : Gd K Γ W tl φ) : GI K Γ W (iAny K tl) (itD φ) := by
  intro σ H R G F ι s ds hs hr hp
  refine h.step hs hr hp fun x s1 v H1 F1 ι1 x1 r1 q1 hs1 hp1 => ?_
  try dsimp only at hp1
  unfold itemsD at hp1
  split at hp1
  · cases q1 with
    | lst e g => exact Or.inl ⟨_, _, rfl, SqL.of (r1.sub _ _ e), hp1 _ _ _ _ Ext.refl r1 (walk_lst e g)⟩
  · cases q1 with
    | tup e g => exact Or.inr (Or.inl ⟨_, _, rfl, Gl.sqTS r1.sub e, hp1 _ _ _ _ Ext.refl r1 (walk_tupD e g)⟩)
  · cases q1
    exact Or.inr (Or.inr (Or.inl ⟨_, rfl, hp1 _ _ _ _ Ext.refl r1 (walk_strD _)⟩))
  · cases q1 with
    | dK e g => exact Or.inr (Or.inr (Or.inr ⟨_, _, _, rfl, r1.sub _ _ e, hp1 _ _ _ _ Ext.refl r1 (walk_keysD e g)⟩))
  · exact hp1.elim
theorem di_any (h : DE X K Γ W l tl φ) (hK : X.K = K := by rfl) : DI X K Γ W tg l (iAny K tl) (itD φ) := ⟨pi_any hK h.pe, gi_any h.gd⟩
/-! range -/
def rngL (lo : Int) (n : Nat) : List D := (List.range n).map fun i => .int (lo + (i : Nat))
def rng1D (ψ : FA) : FA := bindX ψ fun _ xs s => match xs with
  | [.int j] => if (decide (-(2 ^ 62) ≤ j) && decide (j < 2 ^ 62)) = true then .ok (rngL 0 j.toNat) s else .bad
  | _ => .bad
def rng2D (ψ : FA) : FA := bindX ψ fun _ xs s => match xs with
  | [.int i, .int j] => if (decide (-(2 ^ 62) ≤ i) && decide (i < 2 ^ 62) && decide (-(2 ^ 62) ≤ j) && decide (j < 2 ^ 62)) = true then .ok (rngL i (j - i).toNat) s else .bad
  | _ => .bad
theorem walk_rng (lo : Int) (n : Nat) : WalkD K Γ F ι (Itr lo n) (rngL lo n) := by
  have hl : (rngL lo n).length = n := by simp [rngL]
  refine ⟨fun i H hi s => ?_, fun H s => ?_, fun i H v H' d s y e => ?_⟩
  · rw [hl] at hi; exact hi
  · rw [hl]; exact Nat.le_refl _
  · obtain ⟨rfl, rfl⟩ := y
    refine Or.inl ⟨rfl, ?_⟩
    have hi : i < n := by have := (List.getElem?_eq_some_iff.mp e).1; rw [hl] at this; exact this
    unfold rngL at e
    rw [List.getElem?_map, List.getElem?_range hi] at e
    cases e
    exact .int _
theorem di_range1 {a : Expr} {ta : TA} {ψ : FA} {p pos : Pos} (hg : L2.Gl X "range") (hm : X.mg "range" = none) (ha : DA X K Γ W [a] ta ψ) (hs : starEach [a] X.env = [(false, eval a X.env)] := by rfl) : DI X K Γ W tg (.Call (.Name "range" p) [a] [] pos) (iRng1 ta) (rng1D ψ) := by
  refine ⟨pi_range1 hg hm ha.pa hs, fun σ H R G F ι s ds hs hr hp => ha.gd.step hs hr hp fun xs s1 vs H1 F1 ι1 x1 r1 q1 hs1 hp1 => ?_⟩
  try dsimp only at hp1
  split at hp1
  · obtain ⟨v, rfl, gx⟩ := one_rp q1
    cases gx
    split at hp1
    · rename_i hc
      simp only [Bool.and_eq_true, decide_eq_true_eq] at hc
      exact ⟨_, rfl, hc.1, hc.2, hp1 _ _ _ _ Ext.refl r1 (walk_rng _ _)⟩
    · exact hp1.elim
  · exact hp1.elim
theorem di_range2 {a b : Expr} {ta : TA} {ψ : FA} {p pos : Pos} (hg : L2.Gl X "range") (hm : X.mg "range" = none) (ha : DA X K Γ W [a, b] ta ψ) (hs : starEach [a, b] X.env = [(false, eval a X.env), (false, eval b X.env)] := by rfl) (hs2 : starEach [b] X.env = [(false, eval b X.env)] := by rfl) :
    DI X K Γ W tg (.Call (.Name "range" p) [a, b] [] pos) (iRng2 ta) (rng2D ψ) := by
  refine ⟨pi_range2 hg hm ha.pa hs hs2, fun σ H R G F ι s ds hs hr hp => ha.gd.step hs hr hp fun xs s1 vs H1 F1 ι1 x1 r1 q1 hs1 hp1 => ?_⟩
  try dsimp only at hp1
  split at hp1
  · obtain ⟨v, w, rfl, gx, gy⟩ := two_rp q1
    cases gx; cases gy
    split at hp1
    · rename_i hc
      simp only [Bool.and_eq_true, decide_eq_true_eq] at hc
      obtain ⟨⟨⟨c1, c2⟩, c3⟩, c4⟩ := hc
      exact ⟨_, _, rfl, ⟨c1, c2, c3, c4⟩, hp1 _ _ _ _ Ext.refl r1 (walk_rng _ _)⟩
    · exact hp1.elim
  · exact hp1.elim
end
/-! ### for -/
def forGo (γ : FG) (body : FS) : List D → DSt → Sto → SOut
  | [], ds, s => .nx ds s
  | x :: r, ds, s => match γ x ds with
    | none => .bad
    | some ds1 => match body ds1 s with
      | .nx ds2 s2 => forGo γ body r ds2 s2
      | .ct ds2 s2 => forGo γ body r ds2 s2
      | .bk ds2 s2 => .nx ds2 s2
      | o => o
def forS (η : FA) (γ : FG) (body : FS) : FS := fun ds s => bindS (η ds s) ds fun xs s => forGo γ body xs ds s
theorem Rel.item {K : PySem.W.Frag} {Γ : Nat → Addr} {G F H H' : Hp} {ι : List Addr} {s : Sto} {J : It} {xs : List D} {i : Nat} {v : V} {d : D} (r : Rel K Γ G F H ι s) (w : WalkD K Γ F ι J xs) (y : J.yld i H v H') (e : xs[i]? = some d) :
    ∃ F', Ext F ι F' ι ∧ Rel K Γ G F' H' ι s ∧ Rp K Γ F' ι v d := by
  rcases w.yields i H v H' d r.sub y e with ⟨rfl, h2⟩ | ⟨T, vs, ds, rfl, h2, rfl, h4, rfl⟩
  · exact ⟨F, Ext.refl, r, h2.up⟩
  · obtain ⟨r2, x2⟩ := r.new (o := .tup vs) h2
    exact ⟨_, x2, r2, .tup (SqT.of upd_same) (h4.ext x2.nil)⟩
section
variable {X : Cx} {K : PySem.W.Frag} {Γ : Nat → Addr} {W : WX} {pos : Pos} {tg iter : Expr} {wi : TI} {η : FA} {g : TG} {γ : FG} {sl : List Nat} {body : List Stmt} {tb : TS} {ψ : FS}
theorem gs_for (hi : GI K Γ W wi η) (hg : GG K Γ sl g γ) (hb : GS K Γ W tb ψ) : GS K Γ W (tFor wi g tb) (forS η γ ψ) := by
  intro E σ H G F ι s ds hs hr hp
  refine hi.stepS hs hr hp fun xs s1 J H1 F1 ι1 x1 r1 w1 hs1 hp1 => ?_
  refine ⟨fun i m σ' H' => m + i = xs.length ∧ ∃ F' ι' s' ds', Ext F1 ι1 F' ι' ∧ RS K Γ F' ι' σ' ds' ∧ Rel K Γ G F' H' ι' s' ∧ PostS K Γ W G F' ι' E (forGo γ ψ (xs.drop i) ds' s'), ⟨xs.length, rfl, F1, ι1, s1, ds, Ext.refl, hs1, r1, hp1⟩, ?_⟩
  rintro i m σ' H' ⟨hm, F', ι', s', ds', x', rs', r', p'⟩
  have w' := w1.ext x'
  by_cases hlt : i < xs.length
  · have e : xs[i]? = some xs[i] := by simp [hlt]
    rw [List.drop_eq_getElem_cons hlt] at p'
    refine Or.inr ⟨w'.goes i H' hlt r'.sub, fun σ2 H2 => ∃ F' ι' s' ds', Ext F1 ι1 F' ι' ∧ RS K Γ F' ι' σ2 ds' ∧ Rel K Γ G F' H2 ι' s' ∧ PostS K Γ W G F' ι' E (forGo γ ψ (xs.drop (i + 1)) ds' s'), fun σ2 H2 q => ⟨m - 1, by omega, by omega, q⟩, fun v H2 y => ?_⟩
    obtain ⟨F2, x2, r2, rp2⟩ := r'.item w' y e
    unfold forGo at p'
    cases eg : γ xs[i] ds' with
    | none => rw [eg] at p'; exact p'.elim
    | some ds1 =>
      rw [eg] at p'
      dsimp only at p'
      refine hg v _ σ' H2 _ G F2 ι' s' ds' ds1 (rs'.ext x2) r2 rp2 eg fun σ3 rs3 _ => ?_
      refine hb _ σ3 H2 G F2 ι' s' ds1 rs3 r2 ?_
      cases eb : ψ ds1 s' with
      | nx ds2 s2 =>
        rw [eb] at p'
        exact fun σ4 H4 F4 ι4 x4 rs4 r4 => ⟨F4, ι4, s2, ds2, (x'.trans x2).trans x4, rs4, r4, (p'.ext x2).ext x4⟩
      | ct ds2 s2 =>
        rw [eb] at p'
        exact fun σ4 H4 F4 ι4 x4 rs4 r4 => ⟨F4, ι4, s2, ds2, (x'.trans x2).trans x4, rs4, r4, (p'.ext x2).ext x4⟩
      | bk ds2 s2 =>
        rw [eb] at p'
        exact fun σ4 H4 F4 ι4 x4 rs4 r4 => p' σ4 H4 F4 ι4 (x2.trans x4) rs4 r4
      | rt d s2 =>
        rw [eb] at p'
        exact fun v4 H4 F4 ι4 x4 r4 q4 => p' v4 H4 F4 ι4 (x2.trans x4) r4 q4
      | err c p ds2 s2 =>
        rw [eb] at p'
        exact fun dd σ4 H4 F4 ι4 x4 rs4 r4 q4 => p' dd σ4 H4 F4 ι4 (x2.trans x4) rs4 r4 q4
      | bad => rw [eb] at p'; exact p'
  · have hi : i = xs.length := by omega
    subst hi
    rw [List.drop_length] at p'
    exact Or.inl ⟨w'.stops H' r'.sub, p' σ' H' F' ι' Ext.refl rs' r'⟩
theorem ds_for (hp : PassesOwn (model X.prog X.w) X.A X.env X.xe) (hc : X.calm = true) (hi : DI X K Γ W tg iter wi η) (hg : DG X K Γ sl tg g γ) (hb : DSs X K Γ W body tb ψ) (hs : ∀ x, foldedSetIterable iter X.env x = pure x := by intro _; rfl) :
    DS X K Γ W (.For tg iter body [] pos) (tFor wi g tb) (forS η γ ψ) := ⟨ps_for hp hc hi.pi hg.pg hb.ps hs, gs_for hi.gd hg.gd hb.gd⟩
/-! while -/
def whileGo (μ : FT) (body : FS) : Nat → DSt → Sto → SOut
  | 0, _, _ => .bad
  | n + 1, ds, s => bindS (μ ds s) ds fun c s1 => match c with
    | false => .nx ds s1
    | true => match body ds s1 with
      | .nx ds2 s2 => whileGo μ body n ds2 s2
      | .ct ds2 s2 => whileGo μ body n ds2 s2
      | .bk ds2 s2 => .nx ds2 s2
      | o => o
def whileS (n : Nat) (μ : FT) (body : FS) : FS := fun ds s => whileGo μ body n ds s
theorem gs_while {n : Nat} {c : Expr} {tc : TT} {μ : FT} (hc : Gt K Γ W tc μ) (hb : GS K Γ W tb ψ) : GS K Γ W (tWhile tc tb) (whileS n μ ψ) := by
  intro E σ H G F ι s ds hs hr hp
  refine ⟨fun m σ' H' => ∃ F' ι' s' ds', RS K Γ F' ι' σ' ds' ∧ Rel K Γ G F' H' ι' s' ∧ PostS K Γ W G F' ι' E (whileGo μ ψ m ds' s'), ⟨n, F, ι, s, ds, hs, hr, hp⟩, ?_⟩
  rintro m σ' H' ⟨F', ι', s', ds', rs', r', p'⟩
  cases m with
  | zero => exact p'.elim
  | succ m =>
    unfold whileGo at p'
    refine hc.stepS rs' r' p' fun b s1 b' H1 F1 ι1 x1 r1 q1 hs1 hp1 => ?_
    cases (show b' = b from q1)
    cases b with
    | false => exact iteF (hp1 σ' H1 F1 ι1 Ext.refl hs1 r1)
    | true =>
      refine iteT ⟨fun σ2 H2 => ∃ F' ι' s' ds', RS K Γ F' ι' σ2 ds' ∧ Rel K Γ G F' H2 ι' s' ∧ PostS K Γ W G F' ι' E (whileGo μ ψ m ds' s'), fun σ2 H2 q => ⟨m, Nat.lt_succ_self m, q⟩, ?_⟩
      refine hb _ σ' H1 G F1 ι1 s1 ds' hs1 r1 ?_
      dsimp only at hp1
      cases eb : ψ ds' s1 with
      | nx ds2 s2 =>
        rw [eb] at hp1
        exact fun σ4 H4 F4 ι4 x4 rs4 r4 => ⟨F4, ι4, s2, ds2, rs4, r4, hp1.ext x4⟩
      | ct ds2 s2 =>
        rw [eb] at hp1
        exact fun σ4 H4 F4 ι4 x4 rs4 r4 => ⟨F4, ι4, s2, ds2, rs4, r4, hp1.ext x4⟩
      | bk ds2 s2 => rw [eb] at hp1; exact hp1
      | rt d s2 => rw [eb] at hp1; exact hp1
      | err c p ds2 s2 => rw [eb] at hp1; exact hp1
      | bad => rw [eb] at hp1; exact hp1
theorem ds_while {n : Nat} {c : Expr} {tc : TT} {μ : FT} (hp : PassesOwn (model X.prog X.w) X.A X.env X.xe) (hc : DT X K Γ W c tc μ) (hb : DSs X K Γ W body tb ψ) : DS X K Γ W (.While c body [] pos) (tWhile tc tb) (whileS n μ ψ) := ⟨ps_while hp hc.pt hb.ps, gs_while (c := c) hc.gd hb.gd⟩
end
end Md

set_option Elab.async false
set_option maxRecDepth 100000
set_option maxHeartbeats 4000000
set_option linter.all false
/-! the mirror layer: comprehensions, defs, calls -/
namespace Md
open PySem PySem.Spec PyProof.Rows L2
/-! ### list comprehensions -/
def wipeD (ds : DSt) : List Nat → DSt
  | [] => ds
  | v :: vs => (wipeD ds vs).set v none
/-- nothing is raised -/
def nb {α : Type} : Out α → Out α
  | .err _ _ _ => .bad
  | o => o
def lcGo (γ : FG) (μ : FT) (φ : FE) (ds : DSt) : List D → Sto → Out (List D)
  | [], s => .ok [] s
  | x :: r, s => match γ x ds with
    | none => .bad
    | some ds1 => (nb (μ ds1 s)).bind fun c s1 => match c with
      | true => (nb (φ ds1 s1)).bind fun y s2 => if nc y = true then (lcGo γ μ φ ds r s2).bind fun ys s3 => .ok (y :: ys) s3 else .bad
      | false => lcGo γ μ φ ds r s1
def lcA (η : FA) (γ : FG) (μ : FT) (φ : FE) (vs : List Nat) : FA := bindX η fun ds xs s => if xs.length < sizeLine then lcGo γ μ φ (wipeD ds vs) xs s else .bad
def lcD (η : FA) (γ : FG) (μ : FT) (φ : FE) (vs : List Nat) : FE := bindX (lcA η γ μ φ vs) fun _ ys s => .ok (.lst ys) s
def lcC (η : FA) (γ : FG) (μ : FT) (φ : FE) (vs : List Nat) : FE := bindX (lcA η γ μ φ vs) fun _ ys s => .ok (.cell s.length) (s ++ [.lst ys])
def yesD : FT := fun _ s => .ok true s
section
variable {K : PySem.W.Frag} {Γ : Nat → Addr} {W : WX} {F : Hp} {ι : List Addr} {σ : L2.St} {ds : DSt}
theorem RS.wipe (h : RS K Γ F ι σ ds) : ∀ vs : List Nat, RS K Γ F ι (L2.wipe σ vs) (wipeD ds vs)
  | [] => h
  | v :: vs => by
    have ih := RS.wipe h vs
    refine ⟨by unfold L2.wipe wipeD; rw [List.length_set, List.length_set]; exact ih.1, fun i d e => ?_⟩
    unfold wipeD at e
    unfold L2.wipe
    by_cases hi : v = i
    · subst hi
      by_cases hv : v < (wipeD ds vs).length
      · rw [List.getElem?_set_self hv] at e; cases e
      · rw [List.getElem?_eq_none (by rw [List.length_set]; omega)] at e; cases e
    · rw [List.getElem?_set_ne hi] at e ⊢
      exact ih.2 i d e
theorem wipe_ge : ∀ (σ : L2.St) (vs : List Nat) (i : Nat), i ∉ vs → (L2.wipe σ vs)[i]? = σ[i]?
  | _, [], _, _ => rfl
  | σ, v :: vs, i, h => by
    unfold L2.wipe
    rw [List.mem_cons, not_or] at h
    rw [List.getElem?_set_ne (Ne.symm h.1)]
    exact wipe_ge σ vs i h.2
theorem wipe_in : ∀ (σ : L2.St) (vs : List Nat) (i : Nat), i ∈ vs → i < σ.length → (L2.wipe σ vs)[i]? = some none
  | _, [], _, h, _ => by cases h
  | σ, v :: vs, i, h, hl => by
    unfold L2.wipe
    by_cases e : v = i
    · subst e
      rw [List.getElem?_set_self (by rw [wipe_length]; exact hl)]
    · rw [List.getElem?_set_ne e]
      rcases List.mem_cons.mp h with h | h
      · exact absurd h.symm e
      · exact wipe_in σ vs i h hl
theorem wipe_eq {σ' : L2.St} {vs sl : List Nat} (h : Outside sl (L2.wipe σ vs) σ') (hsub : ∀ i ∈ sl, i ∈ vs) : L2.wipe σ' vs = L2.wipe σ vs := by
  have hl : σ'.length = σ.length := by rw [h.1, wipe_length]
  refine List.ext_getElem? fun i => ?_
  by_cases hi : i ∈ vs
  · by_cases hb : i < σ.length
    · rw [wipe_in σ' vs i hi (by rw [hl]; exact hb), wipe_in σ vs i hi hb]
    · rw [List.getElem?_eq_none (by rw [wipe_length, hl]; omega), List.getElem?_eq_none (by rw [wipe_length]; omega)]
  · rw [wipe_ge σ' vs i hi, h.2 i fun z => hi (hsub i z)]
end
section
variable {X : Cx} {K : PySem.W.Frag} {Γ : Nat → Addr} {W : WX} {pos : Pos} {tg iter elt : Expr} {ifs : List Expr} {wi : TI} {η : FA} {g : TG} {γ : FG} {sl : List Nat} {tt : TT} {μ : FT} {te : TE} {φ : FE} {vs : List Nat}
abbrev W0 : WX := fun _ _ _ _ => False
structure DTs (X : Cx) (K : PySem.W.Frag) (Γ : Nat → Addr) (W : WX) (es : List Expr) (t : TT) (φ : FT) : Prop where
  pt : PTs X es t
  gd : Gt K Γ W t φ
theorem dts_nil : DTs X K Γ W [] tYes yesD := ⟨pts_nil, fun σ H Q G F ι s ds hs hr hp => hp _ _ _ _ Ext.refl hr rfl⟩
theorem dts_one {c : Expr} {t : TT} {φ : FT} (h : DT X K Γ W c t φ) : DTs X K Γ W [c] t φ := ⟨pts_one h.pt, h.gd⟩
/-- what a comprehension leaves: the new list at a new place -/
theorem gd_lcX {Q' : V → Hp → Prop} {σ : L2.St} {H G F : Hp} {ι : List Addr} {s : Sto} {ds : DSt} {o : Out D} (k : List D → Sto → Out D) (hi : GI K Γ W wi η) (hg : GG K Γ sl g γ) (ht : Gt K Γ W0 tt μ) (he : Gd K Γ W0 te φ) (hsub : ∀ i ∈ sl, i ∈ vs)
    (hs : RS K Γ F ι σ ds) (hr : Rel K Γ G F H ι s) (hp : Post K Γ W σ G F ι (RV K Γ) Q' ((lcA η γ μ φ vs ds s).bind k))
    (fin : ∀ p xs ys H1 F1 ι1 s1, Ext F ι F1 ι1 → Rel K Γ G F1 H1 ι1 s1 → H1 p = none → RpA K Γ F1 [] xs ys → Post K Γ W σ G F1 ι1 (RV K Γ) Q' (k ys s1) → Q' (.ref p) (upd H1 p (.lst xs))) : tLc wi g tt te vs σ H Q' := by
  have hp2 : Post K Γ W σ G F ι (RV K Γ) Q' ((η ds s).bind fun xs s => (if xs.length < sizeLine then lcGo γ μ φ (wipeD ds vs) xs s else .bad).bind k) := by
    unfold lcA bindX at hp
    cases e : η ds s with
    | ok xs s1 => rw [e] at hp; exact hp
    | err c p s1 => rw [e] at hp; exact hp
    | bad => rw [e] at hp; exact hp
  refine hi.step hs hr hp2 fun xs s1 J H1 F1 ι1 x1 r1 w1 hs1 hp1 => ?_
  intro Dd hD
  by_cases hz : xs.length < sizeLine
  rotate_left
  · rw [if_neg hz] at hp1; exact hp1.elim
  rw [if_pos hz] at hp1
  have rsw := hs1.wipe vs
  -- at turn i: acc made so far
  refine ⟨fun i m H' => m + i = xs.length ∧ ∃ F' ι' s' acc ys, Ext F1 ι1 F' ι' ∧ ys.length ≤ i ∧ H' Dd = some (.lst acc) ∧ RpA K Γ F' [] acc ys ∧ (∃ H0, H0 Dd = none ∧ H' = upd H0 Dd (.lst acc) ∧ Rel K Γ G F' H0 ι' s') ∧
    Post K Γ W σ G F' ι' (RV K Γ) Q' ((lcGo γ μ φ (wipeD ds vs) (xs.drop i) s').bind fun r s2 => k (ys ++ r) s2),
    ⟨xs.length, rfl, F1, ι1, s1, [], [], Ext.refl, Nat.le_refl _, upd_same, .nil, ⟨H1, hD, rfl, r1⟩, by simpa using hp1⟩, ?_⟩
  rintro i m H' ⟨hm, F', ι', s', acc, ys, x', hy, eD, ra, ⟨H0, n0, rfl, r0⟩, p'⟩
  have w' := w1.ext x'
  -- the list stands aside
  have nG : G Dd = none := same_newF r0.aside n0
  have ra' : Rel K Γ (upd G Dd (.lst acc)) F' (upd H0 Dd (.lst acc)) ι' s' := r0.put n0
  have back : ∀ {F2 H2 : Hp} {ι2 : List Addr} {s2 : Sto}, Rel K Γ (upd G Dd (.lst acc)) F2 H2 ι2 s2 → ∃ H3, H3 Dd = none ∧ (∀ o, upd H3 Dd o = upd H2 Dd o) ∧ Rel K Γ G F2 H3 ι2 s2 ∧ H2 Dd = some (.lst acc) :=
    fun r2 => r2.back nG (fun b z => nomatch z) (fun z => nomatch z)
  by_cases hlt : i < xs.length
  · have e : xs[i]? = some xs[i] := by simp [hlt]
    rw [List.drop_eq_getElem_cons hlt] at p'
    refine Or.inr ⟨w'.goes i _ hlt ra'.sub, fun H2 => ∃ F' ι' s' acc ys, Ext F1 ι1 F' ι' ∧ ys.length ≤ i + 1 ∧ H2 Dd = some (.lst acc) ∧ RpA K Γ F' [] acc ys ∧ (∃ H0, H0 Dd = none ∧ H2 = upd H0 Dd (.lst acc) ∧ Rel K Γ G F' H0 ι' s') ∧
      Post K Γ W σ G F' ι' (RV K Γ) Q' ((lcGo γ μ φ (wipeD ds vs) (xs.drop (i + 1)) s').bind fun r s2 => k (ys ++ r) s2), fun H2 q => ⟨m - 1, by omega, by omega, q⟩, fun v H2 y => ?_⟩
    obtain ⟨F2, x2, r2, rp2⟩ := ra'.item w' y e
    unfold lcGo at p'
    cases eg : γ xs[i] (wipeD ds vs) with
    | none => rw [eg] at p'; exact p'.elim
    | some ds1 =>
      rw [eg] at p'
      dsimp only at p'
      refine hg v _ _ H2 _ _ F2 ι' s' _ ds1 ((rsw.ext x').ext x2) r2 rp2 eg fun σ3 rs3 o3 => ⟨wipe_eq o3 hsub, ?_⟩
      refine ht σ3 H2 _ _ F2 ι' s' ds1 rs3 r2 ?_
      cases em : μ ds1 s' with
      | bad => rw [em] at p'; exact p'
      | err c p s3 => rw [em] at p'; exact p'.elim
      | ok c s3 =>
        rw [em] at p'
        intro c' H3 F3 ι3 x3 r3 q3
        cases (show c' = c from q3)
        have p3 := (p'.ext x2).ext x3
        cases c with
        | false =>
          obtain ⟨H5, n5, up5, r5, e5⟩ := back r3
          refine iteF ⟨F3, ι3, s3, acc, ys, (x'.trans x2).trans x3, by omega, e5, ra.ext (x2.trans x3).nil, ⟨H5, n5, ?_, r5⟩, p3⟩
          rw [up5]
          funext b
          by_cases h : b = Dd
          · rw [h, upd_same]; exact e5
          · rw [upd_ne h]
        | true =>
          refine iteT (he σ3 H3 _ _ F3 ι3 s3 ds1 (rs3.ext x3) r3 ?_)
          change Post K Γ W σ G F3 ι3 (RV K Γ) Q' (((nb (φ ds1 s3)).bind fun y s2 => if nc y = true then (lcGo γ μ φ (wipeD ds vs) (xs.drop (i + 1)) s2).bind fun ys s3 => .ok (y :: ys) s3 else .bad).bind fun r s2 => k (ys ++ r) s2) at p3
          cases ee : φ ds1 s3 with
          | bad => rw [ee] at p3; exact p3
          | err c p s4 => rw [ee] at p3; exact p3.elim
          | ok y4 s4 =>
            rw [ee] at p3
            intro v4 H4 F4 ι4 x4 r4 q4
            change Post K Γ W σ G F3 ι3 (RV K Γ) Q' ((if nc y4 = true then (lcGo γ μ φ (wipeD ds vs) (xs.drop (i + 1)) s4).bind fun ys s3 => .ok (y4 :: ys) s3 else .bad).bind fun r s2 => k (ys ++ r) s2) at p3
            by_cases hn : nc y4 = true
            rotate_left
            · rw [if_neg hn] at p3; exact p3.elim
            rw [if_pos hn] at p3
            obtain ⟨H5, n5, up5, r5, e5⟩ := back r4
            have hl : acc.length = ys.length := ra.length
            refine ⟨acc, e5, by omega, F4, ι4, s4, acc ++ [v4], ys ++ [y4], ((x'.trans x2).trans x3).trans x4, by rw [List.length_append]; show ys.length + 1 ≤ i + 1; omega, upd_same, (ra.ext ((x2.trans x3).trans x4).nil).append (.cons (q4.fz hn) .nil), ⟨H5, n5, (up5 _).symm, r5⟩, ?_⟩
            have p4 := p3.ext x4
            have ea : ∀ o : Out (List D), (o.bind fun r s2 => k (ys ++ [y4] ++ r) s2) = ((o.bind fun ys s3 => Out.ok (y4 :: ys) s3).bind fun r s2 => k (ys ++ r) s2) := by
              intro o
              cases o with
              | ok r s5 => show k (ys ++ [y4] ++ r) s5 = k (ys ++ y4 :: r) s5; rw [List.append_assoc]; rfl
              | err c p s5 => rfl
              | bad => rfl
            rw [ea]
            exact p4
  · have hi : i = xs.length := by omega
    subst hi
    rw [List.drop_length] at p'
    refine Or.inl ⟨w'.stops _ ra'.sub, ?_⟩
    have p2 : Post K Γ W σ G F' ι' (RV K Γ) Q' (k ys s') := by
      have : ((lcGo γ μ φ (wipeD ds vs) [] s').bind fun r s2 => k (ys ++ r) s2) = k ys s' := by
        show k (ys ++ []) s' = k ys s'
        rw [List.append_nil]
      rw [this] at p'
      exact p'
    exact fin Dd acc ys H0 F' ι' s' (x1.trans x') r0 n0 ra p2
end
end Md

set_option Elab.async false
set_option maxRecDepth 100000
set_option maxHeartbeats 4000000
set_option linter.all false
/-! the mirror layer: the rules of comprehensions; defs and calls -/
namespace Md
open PySem PySem.Spec PyProof.Rows L2
section
variable {X : Cx} {K : PySem.W.Frag} {Γ : Nat → Addr} {W : WX} {pos : Pos} {tg iter elt : Expr} {ifs : List Expr} {wi : TI} {η : FA} {g : TG} {γ : FG} {sl : List Nat} {tt : TT} {μ : FT} {te : TE} {φ : FE} {own : List (Str × Nat)} {scope : Scope}
theorem gd_lc {vs : List Nat} (hi : GI K Γ W wi η) (hg : GG K Γ sl g γ) (ht : Gt K Γ W0 tt μ) (he : Gd K Γ W0 te φ) (hsub : ∀ i ∈ sl, i ∈ vs) : Gd K Γ W (tLc wi g tt te vs) (lcD η γ μ φ vs) := by
  intro σ H Q G F ι s ds hs hr hp
  refine gd_lcX (o := .bad) (fun ys s => .ok (.lst ys) s) hi hg ht he hsub hs hr hp fun p xs ys H1 F1 ι1 s1 x1 r1 n1 ra hp1 => ?_
  obtain ⟨r2, x2⟩ := r1.new (o := .lst xs) n1
  exact hp1 _ _ _ _ x2 r2 (.lst upd_same (ra.ext x2.nil))
theorem gd_lcC {vs : List Nat} (hi : GI K Γ W wi η) (hg : GG K Γ sl g γ) (ht : Gt K Γ W0 tt μ) (he : Gd K Γ W0 te φ) (hsub : ∀ i ∈ sl, i ∈ vs) : Gd K Γ W (tLc wi g tt te vs) (lcC η γ μ φ vs) := by
  intro σ H Q G F ι s ds hs hr hp
  refine gd_lcX (o := .bad) (fun ys s => Out.ok (D.cell s.length) (s ++ [Cl.lst ys])) hi hg ht he hsub hs hr hp fun p xs ys H1 F1 ι1 s1 x1 r1 n1 ra hp1 => ?_
  have x2 : Ext F1 ι1 F1 (ι1 ++ [p]) := ⟨fun _ _ e => e, fun n a e => by rw [List.getElem?_append_left (List.getElem?_eq_some_iff.mp e).1]; exact e⟩
  obtain ⟨r2, x2⟩ := r1.push (o := .lst xs) (c := .lst ys) n1 ⟨same_newF r1.sub n1, xs, upd_same, ra⟩
  refine hp1 _ _ _ _ x2 r2 (.cell ?_)
  rw [List.getElem?_append_right (by rw [r1.len]; exact Nat.le_refl _), r1.len, Nat.sub_self]
  rfl
/-- the block's parts, in every block -/
abbrev InBlk (X : Cx) (scope : Scope) (J : Cx → Prop) : Prop := ∀ (s : Shared) (H : Hp) (C : Addr) (cl : List (Str × Addr)) (fp : List Addr), J (X.blk s H scope (compEnvC scope cl C X.env) fp)
theorem InBlk.one {J : Cx → Prop} (h : InBlk X scope J) : ∃ Y, J Y := ⟨_, h X.s_0 X.H_0 0 [] []⟩
theorem de_lc (hc : X.calm = true) (hN : X.N.Nodup) (hi : DI X K Γ W tg iter wi η) (ok : BlkOk X.N X.env.scope scope own) (hg : InBlk X scope fun Y => DG Y K Γ sl tg g γ) (ht : InBlk X scope fun Y => DTs Y K Γ W0 ifs tt μ) (he : InBlk X scope fun Y => DE Y K Γ W0 elt te φ)
    (hsub : ∀ i ∈ sl, i ∈ own.map (·.2) := by decide) (hs : ∀ x, foldedSetIterable iter X.env x = pure x := by intro _; rfl) : DE X K Γ W (.ListComp elt [⟨tg, iter, ifs, 0⟩] scope pos) (tLc wi g tt te (own.map (·.2))) (lcD η γ μ φ (own.map (·.2))) := by
  obtain ⟨_, g1⟩ := hg.one
  obtain ⟨_, t1⟩ := ht.one
  obtain ⟨_, e1⟩ := he.one
  exact ⟨pe_lc hc hN hi.pi ok (fun a b c d e => (hg a b c d e).pg) (fun a b c d e => (ht a b c d e).pt) (fun a b c d e => (he a b c d e).pe) hs, gd_lc hi.gd g1.gd t1.gd e1.gd hsub⟩
theorem de_lcC (hc : X.calm = true) (hN : X.N.Nodup) (hi : DI X K Γ W tg iter wi η) (ok : BlkOk X.N X.env.scope scope own) (hg : InBlk X scope fun Y => DG Y K Γ sl tg g γ) (ht : InBlk X scope fun Y => DTs Y K Γ W0 ifs tt μ) (he : InBlk X scope fun Y => DE Y K Γ W0 elt te φ)
    (hsub : ∀ i ∈ sl, i ∈ own.map (·.2) := by decide) (hs : ∀ x, foldedSetIterable iter X.env x = pure x := by intro _; rfl) : DE X K Γ W (.ListComp elt [⟨tg, iter, ifs, 0⟩] scope pos) (tLc wi g tt te (own.map (·.2))) (lcC η γ μ φ (own.map (·.2))) := by
  obtain ⟨_, g1⟩ := hg.one
  obtain ⟨_, t1⟩ := ht.one
  obtain ⟨_, e1⟩ := he.one
  exact ⟨pe_lc hc hN hi.pi ok (fun a b c d e => (hg a b c d e).pg) (fun a b c d e => (ht a b c d e).pt) (fun a b c d e => (he a b c d e).pe) hs, gd_lcC hi.gd g1.gd t1.gd e1.gd hsub⟩
/-- y = [..] -/
theorem ds_setLc {i : Nat} {y : Str} {py spos : Pos} (hc : X.calm = true) (hN : X.N.Nodup) (hy : X.N[i]? = some y) (hyl : X.env.scope.names.lookup y = some .local) (hsw : swapsWith (.ListComp elt [⟨tg, iter, ifs, 0⟩] scope pos) (some (.Name y py)) spos.line X.env = pure true)
    (hi : DI X K Γ W tg iter wi η) (ok : BlkOk X.N X.env.scope scope own) (hg : InBlk X scope fun Y => DG Y K Γ sl tg g γ) (ht : InBlk X scope fun Y => DTs Y K Γ W0 ifs tt μ) (he : InBlk X scope fun Y => DE Y K Γ W0 elt te φ)
    (hsub : ∀ i ∈ sl, i ∈ own.map (·.2) := by decide) (hs : ∀ x, foldedSetIterable iter X.env x = pure x := by intro _; rfl) : DS X K Γ W (.Assign [.Name y py] (.ListComp elt [⟨tg, iter, ifs, 0⟩] scope pos) spos) (tAsg (tLc wi g tt te (own.map (·.2))) (gName i)) (asgS (lcD η γ μ φ (own.map (·.2))) (nameG i)) := by
  obtain ⟨_, g1⟩ := hg.one
  obtain ⟨_, t1⟩ := ht.one
  obtain ⟨_, e1⟩ := he.one
  exact ⟨ps_setLc hc hN hy hyl hsw hi.pi ok (fun a b c d e => (hg a b c d e).pg) (fun a b c d e => (ht a b c d e).pt) (fun a b c d e => (he a b c d e).pe) hs, gs_asg (gd_lc hi.gd g1.gd t1.gd e1.gd hsub) gg_name⟩
theorem ds_setLcC {i : Nat} {y : Str} {py spos : Pos} (hc : X.calm = true) (hN : X.N.Nodup) (hy : X.N[i]? = some y) (hyl : X.env.scope.names.lookup y = some .local) (hsw : swapsWith (.ListComp elt [⟨tg, iter, ifs, 0⟩] scope pos) (some (.Name y py)) spos.line X.env = pure true)
    (hi : DI X K Γ W tg iter wi η) (ok : BlkOk X.N X.env.scope scope own) (hg : InBlk X scope fun Y => DG Y K Γ sl tg g γ) (ht : InBlk X scope fun Y => DTs Y K Γ W0 ifs tt μ) (he : InBlk X scope fun Y => DE Y K Γ W0 elt te φ)
    (hsub : ∀ i ∈ sl, i ∈ own.map (·.2) := by decide) (hs : ∀ x, foldedSetIterable iter X.env x = pure x := by intro _; rfl) : DS X K Γ W (.Assign [.Name y py] (.ListComp elt [⟨tg, iter, ifs, 0⟩] scope pos) spos) (tAsg (tLc wi g tt te (own.map (·.2))) (gName i)) (asgS (lcC η γ μ φ (own.map (·.2))) (nameG i)) := by
  obtain ⟨_, g1⟩ := hg.one
  obtain ⟨_, t1⟩ := ht.one
  obtain ⟨_, e1⟩ := he.one
  exact ⟨ps_setLc hc hN hy hyl hsw hi.pi ok (fun a b c d e => (hg a b c d e).pg) (fun a b c d e => (ht a b c d e).pt) (fun a b c d e => (he a b c d e).pe) hs, gs_asg (gd_lcC hi.gd g1.gd t1.gd e1.gd hsub) gg_name⟩
end
/-! ### defs -/
/-- a def's promise by its meaning -/
def spD (K : PySem.W.Frag) (Γ : Nat → Addr) (m : Fn) : Sp := fun vs H Q E =>
  ∃ G F ι s ds, RpA K Γ F ι vs ds ∧ Rel K Γ G F H ι s ∧ Post K Γ (fun c d _ H => E c d H) [] G F ι (RV K Γ) Q (m ds s)
/-! the cells that a def has made go with it -/
def belowD (n : Nat) : D → Bool
  | .cell m => decide (m < n)
  | _ => true
def belowO (n : Nat) : Option D → Bool
  | some d => belowD n d
  | none => true
def belowC (n : Nat) : Cl → Bool
  | .ins _ fs => fs.all (belowO n)
  | .dic kvs => kvs.all fun kv => belowD n kv.2
  | _ => true
def okS (n : Nat) (s : Sto) : Bool := s.all (belowC n)
def trimS (n : Nat) (tops : List D) (s : Sto) : Sto := if s.length ≤ n then s else if (tops.all (belowD n) && okS n (s.take n)) = true then s.take n else s
def payD : Option (Str × D) → List D
  | some (_, d) => [d]
  | none => []
def trimO (n : Nat) : Out D → Out D
  | .ok d s => .ok d (trimS n [d] s)
  | .err c p s => .err c p (trimS n (payD p) s)
  | .bad => .bad
section
variable {K : PySem.W.Frag} {Γ : Nat → Addr} {W : WX} {σ : L2.St} {G F H : Hp} {ι : List Addr} {s : Sto}
theorem Rp.trim {n : Nat} {v : V} {d : D} (h : Rp K Γ F ι v d) (hb : belowD n d = true) : Rp K Γ F (ι.take n) v d := by
  cases h with
  | cell e => exact .cell (by rw [List.getElem?_take_of_lt (of_decide_eq_true hb)]; exact e)
  | non => exact .non
  | bl b => exact .bl b
  | int i => exact .int i
  | str z => exact .str z
  | lst h g => exact .lst h g
  | scr h => exact .scr h
  | tup h g => exact .tup h g
  | ktp k h g => exact .ktp k h g
  | dK h g => exact .dK h g
  | ins h k g => exact .ins h k g
  | raw v => exact .raw v
theorem RpK.trim {n : Nat} : ∀ {vs : List (Key × V)} {ds : List (Key × D)}, RpK K Γ F ι vs ds → (ds.all fun kv => belowD n kv.2) = true → RpK K Γ F (ι.take n) vs ds
  | _, _, .nil, _ => .nil
  | _, _, .cons h g, hb => by
    rw [List.all_cons, Bool.and_eq_true] at hb
    exact .cons (h.trim hb.1) (RpK.trim g hb.2)
theorem Rel.trim {n : Nat} (r : Rel K Γ G F H ι s) (h : okS n (s.take n) = true) : Rel K Γ G F H (ι.take n) (s.take n) := by
  refine ⟨r.sub, r.aside, r.apart, r.nd.sublist (List.take_sublist _ _), by rw [List.length_take, List.length_take, r.len], fun a ha => r.free a (List.mem_of_mem_take ha), fun m c a e1 e2 => ?_⟩
  have hm : m < n := by have := (List.getElem?_eq_some_iff.mp e1).1; rw [List.length_take] at this; omega
  have hc : belowC n c = true := by
    unfold okS at h
    exact List.all_eq_true.mp h c (List.mem_of_getElem? e1)
  rw [List.getElem?_take_of_lt hm] at e1 e2
  have ck := r.at_ m c a e1 e2
  cases c with
  | dead => trivial
  | lst es => exact ck
  | dic es =>
    obtain ⟨n1, vs, e3, g3⟩ := ck
    exact ⟨n1, vs, e3, g3.trim hc⟩
  | ins cc fs =>
    obtain ⟨n1, dx, vs, i1, rf⟩ := ck
    refine ⟨n1, dx, vs, i1, fun j d e => ?_⟩
    obtain ⟨v, ev, rv⟩ := rf j d e
    have hb := List.all_eq_true.mp hc (some d) (List.mem_of_getElem? e)
    exact ⟨v, ev, rv.trim hb⟩
theorem Ext.trim {F' : Hp} {ι' : List Addr} (x : Ext F ι F' ι') : Ext F ι F' (ι'.take ι.length) :=
  ⟨x.same, fun m a e => by rw [List.getElem?_take_of_lt (List.getElem?_eq_some_iff.mp e).1]; exact x.pre m a e⟩
theorem post_trim {Q : VK} {o : Out D} (h : Post K Γ W σ G F ι (RV K Γ) Q (trimO ι.length o)) : Post K Γ W σ G F ι (RV K Γ) Q o := by
  cases o with
  | bad => exact h
  | ok d s =>
    intro v H' F' ι' x r q
    have h' : ∀ v H' F' ι', Ext F ι F' ι' → Rel K Γ G F' H' ι' (trimS ι.length [d] s) → Rp K Γ F' ι' v d → Q v H' := h
    unfold trimS at h'
    split at h'
    · exact h' v H' F' ι' x r q
    · split at h'
      · rename_i hc
        rw [Bool.and_eq_true] at hc
        have hd := List.all_eq_true.mp hc.1 d (by simp)
        exact h' v H' F' _ x.trim (r.trim hc.2) (q.trim hd)
      · exact h' v H' F' ι' x r q
  | err c p s =>
    intro dd H' F' ι' x r q
    have h' : ∀ dd H' F' ι', Ext F ι F' ι' → Rel K Γ G F' H' ι' (trimS ι.length (payD p) s) → ErrAt K Γ F' H' ι' dd p → W (.ref (Γ c)) dd σ H' := h
    unfold trimS at h'
    split at h'
    · exact h' dd H' F' ι' x r q
    · split at h'
      · rename_i hc
        rw [Bool.and_eq_true] at hc
        refine h' dd H' F' _ x.trim (r.trim hc.2) ?_
        cases p with
        | none => trivial
        | some fd =>
          obtain ⟨f, d⟩ := fd
          obtain ⟨a, v, e1, e2, e3⟩ := q
          exact ⟨a, v, e1, e2, e3.trim (List.all_eq_true.mp hc.1 d (by simp [payD]))⟩
      · exact h' dd H' F' ι' x r q
end
def rawD (n : Nat) (ψ : FS) : Fn := fun ds s => match ψ (ds.map some ++ List.replicate n none) s with
  | .rt d s => .ok d s
  | .nx _ s => .ok .non s
  | .err c p _ s => .err c p s
  | _ => .bad
/-- np parameters, n more names -/
def bodyD (np n : Nat) (ψ : FS) : Fn := fun ds s => if ds.length = np then trimO s.length (rawD n ψ ds s) else .bad
def body0 (np n : Nat) (ψ : FS) : Fn := fun ds s => nb (bodyD np n ψ ds s)
section
variable {P : Program} {w : World} {K : PySem.W.Frag} {Γ : Nat → Addr} {mg : Str → Option Value} {base : Heap}
theorem rs_start {F : Hp} {ι : List Addr} {N : List Str} {vs : List V} {ds : List D} {n : Nat} (g : RpA K Γ F ι vs ds) (hn : N.length = ds.length + n) : RS K Γ F ι (L2.start N vs) (ds.map some ++ List.replicate n none) := by
  have hl := g.length
  unfold L2.start
  refine ⟨by rw [List.length_append, List.length_append, List.length_map, List.length_map, List.length_replicate, List.length_replicate, hl]; omega, fun i d e => ?_⟩
  by_cases hi : i < ds.length
  · rw [List.getElem?_append_left (by rw [List.length_map]; exact hi), List.getElem?_map] at e
    cases ed : ds[i]? with
    | none => rw [ed] at e; cases e
    | some d' =>
      rw [ed] at e
      cases e
      obtain ⟨v, ev, rv⟩ := g.get ed
      refine ⟨v, ?_, rv⟩
      rw [List.getElem?_append_left (by rw [List.length_map, hl]; exact hi), List.getElem?_map, ev]
      rfl
  · rw [List.getElem?_append_right (by rw [List.length_map]; omega), List.getElem?_replicate] at e
    split at e <;> cases e
theorem spD_len {m : Fn} {np : Nat} (hm : ∀ ds s, ds.length ≠ np → m ds s = .bad) {vs : List V} {H : Hp} {Q : VK} {E : XK} (h : spD K Γ m vs H Q E) : vs.length = np := by
  obtain ⟨G, F, ι, s, ds, g, r, p⟩ := h
  rw [g.length]
  by_cases e : ds.length = np
  · exact e
  · rw [hm ds s e] at p; exact p.elim
theorem bodyD_bad {np n : Nat} {ψ : FS} (ds : List D) (s : Sto) (h : ds.length ≠ np) : bodyD np n ψ ds s = .bad := by unfold bodyD; rw [if_neg h]
theorem body0_bad {np n : Nat} {ψ : FS} (ds : List D) (s : Sto) (h : ds.length ≠ np) : body0 np n ψ ds s = .bad := by unfold body0; rw [bodyD_bad ds s h]; rfl
/-- a def that may raise -/
theorem okD {x qual : Str} {st : Stmt} {f : Addr} {fd : FuncData} {N ps : List Str} {k n : Nat} {ψ : FS} (Fn : Fun K x qual st f fd) (S : FnScope N ps (defScope st)) (hn : N.length = ps.length + n)
    (hb : ∀ (cdv : Value) (A : Around) (outer : List Env) (s : Shared) (H : Hp) (E : XK), Room k (A.deeper (envOfC qual (defScope st) s.heap.objs.size f cdv)) →
      ∃ t, DSs (cxOf (L2.CX P w) P w K mg base N qual (defScope st) f cdv A outer s H E) K Γ (fun c d _ H => E c d H) (defBody st) t ψ) :
    FnOk P w K mg base (L2.CX P w) (k + 1) f fd ps (spD K Γ (bodyD ps.length n ψ)) := by
  refine Fn.okX S (fun vs H Q E h => spD_len (np := ps.length) bodyD_bad h) fun cdv A outer s H vs Q E hr h => ?_
  have hl := spD_len (np := ps.length) bodyD_bad h
  obtain ⟨G, F, ι, s0, ds, g, r, p⟩ := h
  obtain ⟨t, ht⟩ := hb cdv A outer s H E hr
  refine ⟨t, ht.ps, ht.gd _ _ H G F ι s0 _ (rs_start g (by rw [← g.length, hl]; exact hn)) r ?_⟩
  unfold bodyD at p
  rw [if_pos (by rw [← g.length]; exact hl), ← r.len] at p
  replace p := post_trim p
  unfold rawD at p
  cases e : ψ (ds.map some ++ List.replicate n none) s0 with
  | rt d s1 => rw [e] at p; exact p
  | nx ds1 s1 => rw [e] at p; exact fun σ' H' F' ι' x' _ r' => p _ H' F' ι' x' r' .non
  | err c q ds1 s1 => rw [e] at p; exact fun dd σ' H' F' ι' x' _ r' q' => p dd H' F' ι' x' r' q'
  | bk ds1 s1 => rw [e] at p; exact p.elim
  | ct ds1 s1 => rw [e] at p; exact p.elim
  | bad => rw [e] at p; exact p
/-- a def that raises nothing, where nothing is being shown -/
theorem okD0 {x qual : Str} {st : Stmt} {f : Addr} {fd : FuncData} {N ps : List Str} {k n : Nat} {ψ : FS} (Fn : Fun K x qual st f fd) (S : FnScope N ps (defScope st)) (hn : N.length = ps.length + n)
    (hb : ∀ (cdv : Value) (A : Around) (outer : List Env) (s : Shared) (H : Hp) (E : XK), (A.deeper (envOfC qual (defScope st) s.heap.objs.size f cdv)).guards = some [] → Room k (A.deeper (envOfC qual (defScope st) s.heap.objs.size f cdv)) →
      ∃ t, DSs (cxOf CX0 P w K mg base N qual (defScope st) f cdv A outer s H E).nox K Γ W0 (defBody st) t ψ) :
    Gl.FnG P w K mg base CX0 (k + 1) f fd ps (spD K Γ (body0 ps.length n ψ)) := by
  refine Gl.okG Fn S (fun vs H Q E h => spD_len (np := ps.length) body0_bad h) fun cdv A outer s H vs Q E hG hr h => ?_
  have hl := spD_len (np := ps.length) body0_bad h
  obtain ⟨G, F, ι, s0, ds, g, r, p⟩ := h
  obtain ⟨t, ht⟩ := hb cdv A outer s H E hG hr
  refine ⟨t, ht.ps, ht.gd _ _ H G F ι s0 _ (rs_start g (by rw [← g.length, hl]; exact hn)) r ?_⟩
  unfold body0 bodyD at p
  rw [if_pos (by rw [← g.length]; exact hl), ← r.len] at p
  have p : Post K Γ (fun _ _ _ _ => False) [] G F ι (RV K Γ) Q (rawD n ψ ds s0) := by
    refine post_trim ?_
    cases e : trimO ι.length (rawD n ψ ds s0) with
    | ok d s1 => rw [e] at p; exact p
    | err c q s1 => rw [e] at p; exact p.elim
    | bad => rw [e] at p; exact p
  unfold rawD at p
  cases e : ψ (ds.map some ++ List.replicate n none) s0 with
  | rt d s1 => rw [e] at p; exact p
  | nx ds1 s1 => rw [e] at p; exact fun σ' H' F' ι' x' _ r' => p _ H' F' ι' x' r' .non
  | err c q ds1 s1 => rw [e] at p; exact fun dd σ' H' F' ι' x' _ r' q' => p dd H' F' ι' x' r' q'
  | bk ds1 s1 => rw [e] at p; exact p.elim
  | ct ds1 s1 => rw [e] at p; exact p.elim
  | bad => rw [e] at p; exact p
end
/-! ### calls of defs -/
def callD (m : Fn) (ψ : FA) : FE := bindX ψ fun _ xs s => m xs s
section
variable {X : Cx} {K : PySem.W.Frag} {Γ : Nat → Addr} {W : WX} {pos p : Pos} {e : Expr} {es : List Expr} {ta : TA} {ψ : FA} {m : Fn} {x : Str} {k : Nat} {f : Addr} {fd : FuncData} {ps : List Str}
theorem gd_call (ha : Ga K Γ W ta ψ) : Gd K Γ W (tCallSD (spD K Γ m) [] (WE W) ta) (callD m ψ) := by
  intro σ H Q G F ι s ds hs hr hp
  refine ha.step hs hr hp fun xs s1 vs H1 F1 ι1 x1 r1 q1 hs1 hp1 => ?_
  refine ⟨G, F1, ι1, s1, xs, by rw [List.append_nil]; exact q1, r1, ?_⟩
  dsimp only at hp1
  cases e : m xs s1 with
  | ok d s2 => rw [e] at hp1; exact hp1
  | err c q s2 => rw [e] at hp1; exact hp1
  | bad => rw [e] at hp1; exact hp1
theorem de_call (Fn : FnOk X.prog X.w X.K X.mg X.base (L2.CX X.prog X.w) k f fd ps (spD K Γ m)) (tk : Takes X W) (hr : Room k X.A) (hg : L2.Gl X x) (hm : X.mg x = some (.ref f)) (hk : PySem.W.keepIn X.K (.ref f) = true) (hb : Binds X.K fd ps []) (ha : DA X K Γ W (e :: es) ta ψ)
    (hdb : (x == ("__debug__" : Str)) = false := by decide) (he : starEach (e :: es) X.env = (false, eval e X.env) :: starEach es X.env := by rfl) (hpl : (backTo pos (starEach es X.env)).any (·.1) = false := by rfl) :
    DE X K Γ W (.Call (.Name x p) (e :: es) [] pos) (tCallSD (spD K Γ m) [] (WE W) ta) (callD m ψ) :=
  ⟨pe_callSD Fn hr hg hm hk hb .nil (fun σ => passAt tk σ) ha.pa hdb he hpl, gd_call ha.gd⟩
theorem pe_callSD0 {E : L2.St → XK} {sp : Sp} {CX : CXT} (Fn : FnOk X.prog X.w X.K X.mg X.base CX k f fd ps sp) (hr : Room k X.A) (hg : L2.Gl X x) (hm : X.mg x = some (.ref f)) (hk : PySem.W.keepIn X.K (.ref f) = true) (hb : Binds X.K fd ps []) (hx : ∀ σ, PassesAt CX X σ (E σ))
    (hdb : (x == ("__debug__" : Str)) = false := by decide) : PE X (.Call (.Name x p) [] [] pos) (tCallSD sp [] E tNil) := by
  constructor
  intro pins s σ H Q I h
  exact wpAny_Call_Name_kw (ld_glob I hg hm (PySem.W.callWith_K0 I.kIn hk (run_fnSD (us := []) Fn hr hb .nil (hx σ) I .nil h)) hdb)
theorem de_call0 (Fn : FnOk X.prog X.w X.K X.mg X.base (L2.CX X.prog X.w) k f fd ps (spD K Γ m)) (tk : Takes X W) (hr : Room k X.A) (hg : L2.Gl X x) (hm : X.mg x = some (.ref f)) (hk : PySem.W.keepIn X.K (.ref f) = true) (hb : Binds X.K fd ps [])
    (hdb : (x == ("__debug__" : Str)) = false := by decide) : DE X K Γ W (.Call (.Name x p) [] [] pos) (tCallSD (spD K Γ m) [] (WE W) tNil) (callD m nilD) :=
  ⟨pe_callSD0 Fn hr hg hm hk hb (fun σ => passAt tk σ) hdb, gd_call (da_nil (X := X)).gd⟩
/-- .. of a def that raises nothing, where nothing is being shown -/
theorem gd_callG {m0 : Fn} (hm0 : ∀ xs s, m0 xs s = nb (m0 xs s)) (ha : Ga K Γ W ta ψ) : Gd K Γ W (tCall (spD K Γ m0) [] E0 ta) (callD m0 ψ) := by
  intro σ H Q G F ι s ds hs hr hp
  refine ha.step hs hr hp fun xs s1 vs H1 F1 ι1 x1 r1 q1 hs1 hp1 => ?_
  refine ⟨G, F1, ι1, s1, xs, by rw [List.append_nil]; exact q1, r1, ?_⟩
  dsimp only at hp1
  have h0 := hm0 xs s1
  cases e : m0 xs s1 with
  | ok d s2 => rw [e] at hp1; exact hp1
  | err c q s2 => rw [e] at h0; cases h0
  | bad => rw [e] at hp1; exact hp1
theorem nb_nb {α : Type} (o : Out α) : nb o = nb (nb o) := by cases o <;> rfl
theorem body0_nb {np n : Nat} {χ : FS} (xs : List D) (s : Sto) : body0 np n χ xs s = nb (body0 np n χ xs s) := by unfold body0; exact nb_nb _
theorem de_callG {m0 : Fn} (Fn : Gl.FnG X.prog X.w X.K X.mg X.base CX0 k f fd ps (spD K Γ m0)) (hm0 : ∀ xs s, m0 xs s = nb (m0 xs s)) (hG : X.A.guards = some []) (hr : Room k X.A) (hg : L2.Gl X x) (hm : X.mg x = some (.ref f)) (hk : PySem.W.keepIn X.K (.ref f) = true) (hb : Binds X.K fd ps []) (ha : DA X K Γ W (e :: es) ta ψ)
    (hdb : (x == ("__debug__" : Str)) = false := by decide) (he : starEach (e :: es) X.env = (false, eval e X.env) :: starEach es X.env := by rfl) (hpl : (backTo pos (starEach es X.env)).any (·.1) = false := by rfl) :
    DE X K Γ W (.Call (.Name x p) (e :: es) [] pos) (tCall (spD K Γ m0) [] E0 ta) (callD m0 ψ) :=
  ⟨Gl.pe_callG Fn hG hr hg hm hk hb .nil pass0 ha.pa hdb he hpl, gd_callG hm0 ha.gd⟩
theorem de_callG0 {m0 : Fn} (Fn : Gl.FnG X.prog X.w X.K X.mg X.base CX0 k f fd ps (spD K Γ m0)) (hm0 : ∀ xs s, m0 xs s = nb (m0 xs s)) (hG : X.A.guards = some []) (hr : Room k X.A) (hg : L2.Gl X x) (hm : X.mg x = some (.ref f)) (hk : PySem.W.keepIn X.K (.ref f) = true) (hb : Binds X.K fd ps [])
    (hdb : (x == ("__debug__" : Str)) = false := by decide) : DE X K Γ W (.Call (.Name x p) [] [] pos) (tCall (spD K Γ m0) [] E0 tNil) (callD m0 nilD) :=
  ⟨Gl.pe_callG0 Fn hG hr hg hm hk hb .nil pass0 hdb, gd_callG hm0 (da_nil (X := X)).gd⟩
end
end Md

set_option Elab.async false
set_option maxRecDepth 100000
set_option maxHeartbeats 4000000
set_option linter.all false
/-! the mirror layer: cells written, instances -/
namespace Md
open PySem PySem.Spec PyProof.Rows L2
/-! ### a cell's list is frozen where it is handed on -/
def frzD (i : Nat) : FE := fun ds s => match ds[i]? with
  | some (some (.cell n)) => match s[n]? with
    | some (.lst xs) => .ok (.lst xs) (s.set n .dead)
    | _ => .bad
  | some (some d) => .ok d s
  | _ => .bad
section
variable {X : Cx} {K : PySem.W.Frag} {Γ : Nat → Addr} {W : WX} {pos : Pos} {i : Nat} {x : Str}
theorem gd_frz : Gd K Γ W (tVar i) (frzD i) := by
  intro σ H Q G F ι s ds hs hr hp
  unfold frzD at hp
  split at hp
  · rename_i n e
    obtain ⟨v, e1, r⟩ := hs.2 i _ e
    cases r with
    | cell ea =>
      split at hp
      · rename_i xs en
        obtain ⟨F', r', x', rp'⟩ := hr.freezeL ea en
        exact ⟨_, e1, hp _ H F' ι x' r' rp'⟩
      · exact hp.elim
  · rename_i d _ e
    obtain ⟨v, e1, r⟩ := hs.2 i d e
    exact ⟨v, e1, hp v H F ι Ext.refl hr r⟩
  · exact hp.elim
end
/-! ### methods of lists -/
def MtG (K : PySem.W.Frag) (Γ : Nat → Addr) (T : String) (r : V → List V → Hp → VK → Prop) (f : D → List D → Sto → Out D) : Prop :=
  ∀ (W : WX) (σ : L2.St) (H : Hp) (Q : VK) (G F : Hp) (ι : List Addr) (s : Sto) (x : D) (v : V) (xs : List D) (vs : List V), Rel K Γ G F H ι s → Rp K Γ F ι v x → RpA K Γ F ι vs xs → Post K Γ W σ G F ι (RV K Γ) Q (f x xs s) → r v vs H Q
def TyG (K : PySem.W.Frag) (Γ : Nat → Addr) (T : String) (g : D → Sto → Bool) : Prop := ∀ (H G F : Hp) (ι : List Addr) (s : Sto) (x : D) (v : V), Rel K Γ G F H ι s → Rp K Γ F ι v x → g x s = true → tyV K T v H
def bmD (g : D → Sto → Bool) (f : D → List D → Sto → Out D) (φ : FE) (ψ : FA) : FE := bindX φ fun ds x s => if g x s = true then (ψ ds s).bind fun xs s => f x xs s else .bad
def isL (x : D) (s : Sto) : Bool := (viewL x s).isSome
def isS (x : D) (_ : Sto) : Bool := match x with
  | .str _ => true
  | _ => false
section
variable {X : Cx} {K : PySem.W.Frag} {Γ : Nat → Addr} {W : WX} {o e : Expr} {es : List Expr} {to : TE} {ta : TA} {φ : FE} {ψ : FA} {name : Str} {apos cpos : Pos} {T id : String} {r : V → List V → Hp → VK → Prop} {g : D → Sto → Bool} {f : D → List D → Sto → Out D}
theorem gd_bm (hg : TyG K Γ T g) (hf : MtG K Γ T r f) (ho : Gd K Γ W to φ) (ha : Ga K Γ W ta ψ) : Gd K Γ W (tBM K T r to ta) (bmD g f φ ψ) := by
  intro σ H Q G F ι s ds hs hr hp
  refine ho.step hs hr hp fun x s1 v H1 F1 ι1 x1 r1 q1 hs1 hp1 => ?_
  dsimp only at hp1
  split at hp1
  · rename_i hc
    refine ⟨hg _ _ _ _ _ _ _ r1 q1 hc, ?_⟩
    refine ha.step hs1 r1 hp1 fun xs s2 vs H2 F2 ι2 x2 r2 q2 hs2 hp2 => ?_
    exact hf W σ H2 Q G F2 ι2 s2 x v xs vs r2 (q1.ext x2) q2 hp2
  · exact hp1.elim
theorem gd_bm0 (hg : TyG K Γ T g) (hf : MtG K Γ T r f) (ho : Gd K Γ W to φ) : Gd K Γ W (tBM0 K T r to) (bmD g f φ nilD) := by
  intro σ H Q G F ι s ds hs hr hp
  refine ho.step hs hr hp fun x s1 v H1 F1 ι1 x1 r1 q1 hs1 hp1 => ?_
  dsimp only at hp1
  split at hp1
  · rename_i hc
    exact ⟨hg _ _ _ _ _ _ _ r1 q1 hc, hf W σ H1 Q G F1 ι1 s1 x v [] [] r1 q1 .nil hp1⟩
  · exact hp1.elim
theorem de_bm (hg : TyG K Γ T g) (hf : MtG K Γ T r f) (pa : PlainAttrs T) (slot : Slot T name id) (hty : typeOf (.builtin id) = pure (.type "method_descriptor")) (hm : MtR X id r) (ho : DE X K Γ W o to φ) (ha : DA X K Γ W (e :: es) ta ψ) (hK : X.K = K := by rfl)
    (hbase : attributeBase o name X.env (eval o X.env) = eval o X.env := by rfl)
    (hfew : ((backTo cpos (starEach (e :: es) X.env)).all (fun x => !x.1) && (backToKw cpos (keywordEach [] X.env)).all (fun x => x.1.isSome) && decide ((e :: es).length + ([] : List Keyword).length + (if ([] : List Keyword).isEmpty then 0 else 1) < 30)) = true := by rfl)
    (hline : (apos.endLine == cpos.line) = true := by rfl) (hs : starEach (e :: es) X.env = (false, eval e X.env) :: starEach es X.env := by rfl) (hplain : (backTo cpos (starEach es X.env)).any (·.1) = false := by rfl) :
    DE X K Γ W (.Call (.Attribute o name apos) (e :: es) [] cpos) (tBM K T r to ta) (bmD g f φ ψ) := by
  subst hK
  exact ⟨pe_bm pa slot hty hm ho.pe ha.pa hbase hfew hline hs hplain, gd_bm hg hf ho.gd ha.gd⟩
theorem de_bm0 (hg : TyG K Γ T g) (hf : MtG K Γ T r f) (pa : PlainAttrs T) (slot : Slot T name id) (hty : typeOf (.builtin id) = pure (.type "method_descriptor")) (hm : MtR X id r) (ho : DE X K Γ W o to φ) (hK : X.K = K := by rfl)
    (hbase : attributeBase o name X.env (eval o X.env) = eval o X.env := by rfl) (hline : (apos.endLine == cpos.line) = true := by rfl) : DE X K Γ W (.Call (.Attribute o name apos) [] [] cpos) (tBM0 K T r to) (bmD g f φ nilD) := by
  subst hK
  exact ⟨pe_bm0 pa slot hty hm ho.pe hbase hline, gd_bm0 hg hf ho.gd⟩
theorem ty_L : TyG K Γ "list" isL := by
  intro H G F ι s x v r h e
  obtain ⟨xs, ex⟩ := Option.isSome_iff_exists.mp (show (viewL x s).isSome = true from e)
  obtain ⟨a, vs, rfl, ha, _⟩ := r.view h ex
  exact Or.inl ⟨rfl, vs, SqL.of ha⟩
theorem ty_S : TyG K Γ "str" isS := by
  intro H G F ι s x v r h e
  cases x <;> first | (cases e; done) | skip
  cases h
  rfl
/-! append, extend, pop -/
def appendD (x : D) (args : List D) (s : Sto) : Out D := match x, args with
  | .cell n, [d] => match s[n]? with
    | some (.lst xs) => if (decide (xs.length < sizeLine) && nc d) = true then .ok .non (s.set n (.lst (xs ++ [d]))) else .bad
    | _ => .bad
  | _, _ => .bad
def extendD (x : D) (args : List D) (s : Sto) : Out D := match x, args with
  | .cell n, [d] => match s[n]?, viewL d s with
    | some (.lst xs), some ys => if xs.length + ys.length ≤ sizeLine then .ok .non (s.set n (.lst (xs ++ ys))) else .bad
    | _, _ => .bad
  | _, _ => .bad
def popD (x : D) (args : List D) (s : Sto) : Out D := match x, args with
  | .cell n, [] => match s[n]? with
    | some (.lst xs) => match xs[xs.length - 1]? with
      | some d => .ok d (s.set n (.lst xs.dropLast))
      | none => .bad
    | _ => .bad
  | _, _ => .bad
theorem RpA.dropLast {F : Hp} {ι : List Addr} : ∀ {vs : List V} {ds : List D}, RpA K Γ F ι vs ds → RpA K Γ F ι vs.dropLast ds.dropLast
  | _, _, .nil => .nil
  | _, _, .cons _ .nil => .nil
  | _, _, .cons h (.cons h2 t) => .cons h (RpA.dropLast (.cons h2 t))
theorem mg_append : MtG K Γ "list" rAppend appendD := by
  intro W σ H Q G F ι s x v xs vs r gx gv hp
  unfold appendD at hp
  split at hp
  · rename_i n d
    split at hp
    · rename_i ys en
      split at hp
      · rename_i hc
        rw [Bool.and_eq_true, decide_eq_true_eq] at hc
        obtain ⟨w, rfl, gw⟩ := one_rp gv
        cases gx with
        | cell ea =>
          obtain ⟨hF, us, hu, gu⟩ := r.at_ n _ _ en ea
          refine ⟨_, us, w, rfl, rfl, hu, by rw [gu.length]; exact hc.1, ?_⟩
          exact hp _ _ F ι Ext.refl (r.write (c := .lst (ys ++ [d])) ea hu (fun b z => nomatch z) (fun z => nomatch z) hF ⟨hF, us ++ [w], upd_same, gu.append (.cons (gw.fz hc.2) .nil)⟩) .non
      · exact hp.elim
    · exact hp.elim
  · exact hp.elim
theorem mg_extend : MtG K Γ "list" rExtend extendD := by
  intro W σ H Q G F ι s x v xs vs r gx gv hp
  unfold extendD at hp
  split at hp
  · rename_i n d
    split at hp
    · rename_i ys zs en ed
      split at hp
      · rename_i hc
        obtain ⟨w, rfl, gw⟩ := one_rp gv
        obtain ⟨b, ws, rfl, hb, gb⟩ := r.view gw ed
        cases gx with
        | cell ea =>
          obtain ⟨hF, us, hu, gu⟩ := r.at_ n _ _ en ea
          refine ⟨_, b, us, ws, rfl, rfl, hu, hb, by rw [gu.length, gb.length]; exact hc, ?_⟩
          exact hp _ _ F ι Ext.refl (r.write (c := .lst (ys ++ zs)) ea hu (fun b z => nomatch z) (fun z => nomatch z) hF ⟨hF, us ++ ws, upd_same, gu.append gb⟩) .non
      · exact hp.elim
    · exact hp.elim
  · exact hp.elim
theorem mg_pop : MtG K Γ "list" rPop popD := by
  intro W σ H Q G F ι s x v xs vs r gx gv hp
  unfold popD at hp
  split at hp
  · rename_i n
    cases gv
    split at hp
    · rename_i ys en
      split at hp
      · rename_i d ed
        cases gx with
        | cell ea =>
          obtain ⟨hF, us, hu, gu⟩ := r.at_ n _ _ en ea
          obtain ⟨w, ew, rw'⟩ := gu.get ed
          refine ⟨_, us, w, rfl, rfl, hu, by rw [gu.length]; exact ew, ?_⟩
          exact hp _ _ F ι Ext.refl (r.write (c := .lst ys.dropLast) ea hu (fun b z => nomatch z) (fun z => nomatch z) hF ⟨hF, us.dropLast, upd_same, gu.dropLast⟩) rw'.up
      · exact hp.elim
    · exact hp.elim
  · exact hp.elim
end
/-! ### xs[i] = v -/
def setItD (x y d : D) (s : Sto) : Option Sto := match x with
  | .cell n => match s[n]?, y with
    | some (.lst xs), .int i => match ixN xs.length i with
      | some j => if nc d = true then some (s.set n (.lst (xs.set j d))) else none
      | none => none
    | _, _ => none
  | _ => none
def setItS (φx φi φv : FE) : FS := fun ds s => bindS (φv ds s) ds fun d s => bindS (φx ds s) ds fun x s => bindS (φi ds s) ds fun y s => match setItD x y d s with
  | some s' => .nx ds s'
  | none => .bad
section
variable {X : Cx} {K : PySem.W.Frag} {Γ : Nat → Addr} {W : WX} {o i v : Expr} {to ti tv : TE} {φx φi φv : FE} {pos pos' : Pos}
theorem gs_setIt (ho : Gd K Γ W to φx) (hi : Gd K Γ W ti φi) (hv : Gd K Γ W tv φv) : GS K Γ W (tAsg tv (gSub to ti rSetL)) (setItS φx φi φv) := by
  intro E σ H G F ι s ds hs hr hp
  refine hv.stepS hs hr hp fun d s1 w H1 F1 ι1 x1 r1 q1 hs1 hp1 => ?_
  refine ho.stepS hs1 r1 hp1 fun x s2 a H2 F2 ι2 x2 r2 q2 hs2 hp2 => ?_
  refine hi.stepS hs2 r2 hp2 fun y s3 b H3 F3 ι3 x3 r3 q3 hs3 hp3 => ?_
  try dsimp only at hp3
  split at hp3
  · rename_i s' es
    cases x <;> first | (cases es; done) | skip
    rename_i n
    unfold setItD at es
    dsimp only at es
    have es' := es
    clear es
    split at es'
    · rename_i xs k en
      split at es'
      · rename_i j ej
        split at es'
        · rename_i hn
          cases es'
          cases q3
          cases q2 with
          | cell ea =>
            have ea' := x3.pre _ _ ea
            obtain ⟨hF, us, hu, gu⟩ := r3.at_ n _ _ en ea'
            refine ⟨_, us, _, j, rfl, rfl, hu, by rw [gu.length]; exact ej, ?_⟩
            exact hp3 σ _ F3 ι3 Ext.refl hs3 (r3.write (c := .lst (xs.set j d)) ea' hu (fun b z => nomatch z) (fun z => nomatch z) hF ⟨hF, us.set j w, upd_same, gu.set ((q1.ext (x2.trans x3)).fz hn) j⟩)
        · cases es'
      · cases es'
    · cases es'
  · exact hp3.elim
theorem ds_setIt (ho : DE X K Γ W o to φx) (hi : DE X K Γ W i ti φi) (hv : DE X K Γ W v tv φv) (hs : swapsWithSole [.Subscript o i pos'] v pos.line X.env = pure false := by rfl) (hw : swappedStores [.Subscript o i pos'] v X.env = pure none := by rfl) (h1 : (assignEach [.Subscript o i pos'] X.env).map (·.2) = [assign (.Subscript o i pos') X.env] := by rfl)
    (ha : ∀ v, assign (.Subscript o i pos') X.env v = (do
      let ov ← holding [v] (eval o X.env)
      let iv ← holding [v, ov] (eval i X.env)
      standAt pos'
      holding [v, ov, iv] (setItem ov iv v)
      release [v, ov, iv] []) := by intro _; rfl) : DS X K Γ W (.Assign [.Subscript o i pos'] v pos) (tAsg tv (gSub to ti rSetL)) (setItS φx φi φv) :=
  ⟨ps_asg hv.pe (pg_sub ho.pe hi.pe set_list ha) hs hw h1, gs_setIt ho.gd hi.gd hv.gd⟩
end
/-! ### instances with slots: e.f, e.f = v -/
/-- the classes that have a slot f, and its place -/
def SlTab (K : PySem.W.Frag) (Γ : Nat → Addr) (f : Str) (tab : Nat → Option Nat) : Prop := ∀ (c i : Nat), tab c = some i → SlX.SCls K (Γ c) ∧ ∃ p, SlX.Slot1 K (Γ c) f p i
def attrD (tab : Nat → Option Nat) (x : D) (s : Sto) : Out D := match x with
  | .ins c fs => match tab c with
    | some i => match fs[i]? with
      | some d => .ok d s
      | none => .bad
    | none => .bad
  | .cell n => match s[n]? with
    | some (.ins c fs) => match tab c with
      | some i => match fs[i]? with
        | some (some d) => .ok d s
        | _ => .bad
      | none => .bad
    | _ => .bad
  | _ => .bad
def putO (i : Nat) (d : D) (fs : List (Option D)) : List (Option D) := (fs ++ List.replicate (i + 1 - fs.length) none).set i (some d)
def setAttrD (tab : Nat → Option Nat) (x d : D) (s : Sto) : Option Sto := match x with
  | .cell n => match s[n]? with
    | some (.ins c fs) => match tab c with
      | some i => some (s.set n (.ins c (putO i d fs)))
      | none => none
    | _ => none
  | _ => none
def setAttrS (tab : Nat → Option Nat) (φ ψ : FE) : FS := fun ds s => bindS (ψ ds s) ds fun d s => bindS (φ ds s) ds fun x s => match setAttrD tab x d s with
  | some s' => .nx ds s'
  | none => .bad
section
variable {X : Cx} {K : PySem.W.Frag} {Γ : Nat → Addr} {W : WX} {o e v : Expr} {to te tv : TE} {φ ψ : FE} {pos pos' : Pos} {f : Str} {tab : Nat → Option Nat}
theorem gd_attr (ht : SlTab K Γ f tab) (h : Gd K Γ W te φ) : Gd K Γ W (SlX.tSl K te f) (bindX φ fun _ => attrD tab) := by
  intro σ H Q G F ι s ds hs hr hp
  refine h.step hs hr hp fun x s1 v H1 F1 ι1 x1 r1 q1 hs1 hp1 => ?_
  try dsimp only at hp1
  unfold attrD at hp1
  split at hp1
  · rename_i c fs
    split at hp1
    · rename_i i ei
      split at hp1
      · rename_i d ed
        cases q1 with
        | ins sl k g =>
          obtain ⟨sc, p, s1⟩ := ht c i ei
          obtain ⟨w, ew, rw'⟩ := g.get ed
          exact ⟨_, _, _, p, _, i, w, rfl, slt_same r1.sub sl, sc, s1, k i w ew, hp1 _ _ _ _ Ext.refl r1 rw'.up⟩
      · exact hp1.elim
    · exact hp1.elim
  · rename_i n
    split at hp1
    · rename_i c fs en
      split at hp1
      · rename_i i ei
        split at hp1
        · rename_i d ed
          cases q1 with
          | cell ea =>
            obtain ⟨sc, p, s1⟩ := ht c i ei
            obtain ⟨_, dx, vs, ia, rf⟩ := r1.at_ n _ _ en ea
            obtain ⟨w, ew, rw'⟩ := rf i d ed
            exact ⟨_, _, dx, p, vs, i, w, rfl, ia.slt, sc, s1, ew, hp1 _ _ _ _ Ext.refl r1 rw'⟩
        · exact hp1.elim
      · exact hp1.elim
    · exact hp1.elim
  · exact hp1.elim
theorem de_attr (ht : SlTab K Γ f tab) (h : DE X K Γ W e te φ) (hK : X.K = K := by rfl) (hb : attributeBase e f X.env (eval e X.env) = eval e X.env := by rfl) : DE X K Γ W (.Attribute e f pos) (SlX.tSl K te f) (bindX φ fun _ => attrD tab) := by
  subst hK
  exact ⟨SlX.pe_sl h.pe hb, gd_attr ht h.gd⟩
theorem putO_get {i j : Nat} {d e : D} {fs : List (Option D)} (h : (putO i d fs)[j]? = some (some e)) : (j = i ∧ e = d) ∨ (j ≠ i ∧ fs[j]? = some (some e)) := by
  unfold putO at h
  by_cases hj : i = j
  · subst hj
    rw [List.getElem?_set_self (by simp only [List.length_append, List.length_replicate]; omega)] at h
    cases h
    exact Or.inl ⟨rfl, rfl⟩
  · rw [List.getElem?_set_ne hj] at h
    refine Or.inr ⟨fun z => hj z.symm, ?_⟩
    by_cases hl : j < fs.length
    · rw [List.getElem?_append_left hl] at h; exact h
    · rw [List.getElem?_append_right (by omega), List.getElem?_replicate] at h
      split at h <;> cases h
theorem Rel.writeI {G F H : Hp} {ι : List Addr} {s : Sto} {n c i : Nat} {a dx : Addr} {vs : List (Option V)} {fs : List (Option D)} {y : V} {d : D} (r : Rel K Γ G F H ι s) (ea : ι[n]? = some a) (en : s[n]? = some (.ins c fs)) (hF : F a = none) (ia : InsAt G F H a (Γ c) dx vs)
    (rf : ∀ (j : Nat) (e : D), fs[j]? = some (some e) → ∃ w, vs[j]? = some (some w) ∧ Rp K Γ F ι w e) (rd : Rp K Γ F ι y d) : Rel K Γ G F (SlX.slH H a (Γ c) dx (SlX.putS i y vs)) ι (s.set n (.ins c (putO i d fs))) := by
  have hm := List.mem_of_getElem? ea
  have hG := (r.free a hm).1
  have ha : ∃ u, H a = some u ∧ (∀ b, u ≠ .own b) ∧ u ≠ .xd [] := by
    rcases ia with ⟨h1, _⟩ | ⟨h1, _⟩
    · exact ⟨_, h1, (fun b z => nomatch z), (fun z => nomatch z)⟩
    · exact ⟨_, h1, (fun b z => nomatch z), (fun z => nomatch z)⟩
  obtain ⟨u, hu, u1, u2⟩ := ha
  have hdx : H dx = some (.own a) ∨ H dx = some (.xd []) := by
    rcases ia with ⟨_, _, h3, _⟩ | ⟨_, h3, _⟩
    · exact Or.inl h3
    · exact Or.inr h3
  have hda : dx ≠ a := by
    rintro rfl
    rw [hu] at hdx
    rcases hdx with z | z
    · exact u1 _ (Option.some.inj z)
    · exact u2 (Option.some.inj z)
  have gdx : G dx = none := by
    rcases ia with ⟨_, _, _, _, h⟩ | ⟨_, _, h⟩
    · exact h
    · exact h
  have at_a : ∀ o, upd (upd H dx (.xd [])) a o a = some o := fun o => upd_same
  have at_d : ∀ o, upd (upd H dx (.xd [])) a o dx = some (.xd []) := fun o => (upd_ne hda).trans upd_same
  have at_x : ∀ o b, b ≠ a → b ≠ dx → upd (upd H dx (.xd [])) a o b = H b := fun o b h1 h2 => (upd_ne h1).trans (upd_ne h2)
  unfold SlX.slH
  refine ⟨fun b v e => ?_, fun b v e => ?_, r.apart, r.nd, by rw [List.length_set]; exact r.len, fun b hb => ⟨(r.free b hb).1, ?_⟩, fun m cl b e1 e2 => ?_⟩
  · have h1 : b ≠ a := ne_of_none e hF
    by_cases h2 : b = dx
    · subst h2
      rw [at_d]
      have z := r.sub _ _ e
      rcases ia with ⟨_, _, _, h4, _⟩ | ⟨_, h3, _⟩
      · rw [h4] at e; cases e
      · rw [h3] at z; exact z
    · rw [at_x _ _ h1 h2]; exact r.sub b v e
  · have h1 : b ≠ a := ne_of_none e hG
    have h2 : b ≠ dx := ne_of_none e gdx
    rw [at_x _ _ h1 h2]; exact r.aside b v e
  · by_cases h1 : b = a
    · subst h1; rw [at_a]; rfl
    · by_cases h2 : b = dx
      · subst h2; rw [at_d]; rfl
      · rw [at_x _ _ h1 h2]; exact (r.free b hb).2
  · by_cases h : n = m
    · subst h
      rw [ea] at e2; cases e2
      rw [List.getElem?_set_self (List.getElem?_eq_some_iff.mp en).1] at e1; cases e1
      refine ⟨hF, dx, SlX.putS i y vs, Or.inr ⟨at_a _, at_d _, gdx⟩, fun j e he => ?_⟩
      rcases putO_get he with ⟨rfl, rfl⟩ | ⟨hj, he'⟩
      · exact ⟨y, SlX.putS_get _ _ _, rd⟩
      · obtain ⟨w, ew, rw'⟩ := rf j e he'
        exact ⟨w, (SlX.putS_ne hj).mpr ew, rw'⟩
    · rw [List.getElem?_set_ne h] at e1
      have hb : b ≠ a := by
        rintro rfl
        obtain ⟨h1, e3⟩ := List.getElem?_eq_some_iff.mp ea
        obtain ⟨h2, e4⟩ := List.getElem?_eq_some_iff.mp e2
        exact h ((List.getElem_inj r.nd).mp (e3.trans e4.symm))
      have ck := r.at_ m cl b e1 e2
      by_cases hcl : cl = .dead
      · subst hcl; trivial
      have hcont : ∃ w, H b = some w ∧ (∀ z, w ≠ .own z) ∧ w ≠ .xd [] := by
        cases cl with
        | dead => exact absurd rfl hcl
        | lst es => obtain ⟨_, xs, e, _⟩ := ck; exact ⟨_, e, (fun z q => nomatch q), (fun q => nomatch q)⟩
        | dic es => obtain ⟨_, xs, e, _⟩ := ck; exact ⟨_, e, (fun z q => nomatch q), (fun q => nomatch q)⟩
        | ins c' fs' =>
          obtain ⟨_, dx', vs', i', _⟩ := ck
          rcases i' with ⟨h1, _⟩ | ⟨h1, _⟩
          · exact ⟨_, h1, (fun z q => nomatch q), (fun q => nomatch q)⟩
          · exact ⟨_, h1, (fun z q => nomatch q), (fun q => nomatch q)⟩
      obtain ⟨w, hw, w1, w2⟩ := hcont
      have hbd : b ≠ dx := by
        rintro rfl
        rw [hw] at hdx
        rcases hdx with z | z
        · exact w1 _ (Option.some.inj z)
        · exact w2 (Option.some.inj z)
      refine ck.keep Ext.refl (fun b' v e hb' => ?_) (fun h => h) (fun _ _ h => h)
      have h1 : b' ≠ a := by
        rintro rfl
        rw [hu] at e; cases e
        rcases hb' with z | z | z
        · exact hb z.symm
        · exact u1 _ z
        · exact u2 z
      by_cases h2 : b' = dx
      · subst h2
        rw [at_d]
        rcases hb' with z | z | z
        · exact absurd z.symm hbd
        · subst z
          rcases hdx with q | q
          · rw [q] at e; exact absurd (HO.own.inj (Option.some.inj e)).symm hb
          · rw [q] at e; cases e
        · rw [z]
      · rw [at_x _ _ h1 h2]; exact e
theorem gs_setAttr (ht : SlTab K Γ f tab) (h : Gd K Γ W to φ) (hv : Gd K Γ W tv ψ) : GS K Γ W (SlX.sSl K to tv f) (setAttrS tab φ ψ) := by
  intro E σ H G F ι s ds hs hr hp
  refine hv.stepS hs hr hp fun d s1 y H1 F1 ι1 x1 r1 q1 hs1 hp1 => ?_
  refine h.stepS hs1 r1 hp1 fun x s2 v H2 F2 ι2 x2 r2 q2 hs2 hp2 => ?_
  try dsimp only at hp2
  split at hp2
  · rename_i s' es
    cases x <;> first | (cases es; done) | skip
    rename_i n
    have es' : (match s2[n]? with | some (.ins c fs) => (match tab c with | some i => some (s2.set n (.ins c (putO i d fs))) | none => none) | _ => none) = some s' := es
    split at es'
    · rename_i c fs en
      split at es'
      · rename_i i ei
        cases es'
        cases q2 with
        | cell ea =>
          obtain ⟨sc, p, s1⟩ := ht c i ei
          obtain ⟨hF, dx, vs, ia, rf⟩ := r2.at_ n _ _ en ea
          exact ⟨_, _, dx, p, vs, i, rfl, ia.slt, sc, s1, hp2 σ _ F2 ι2 Ext.refl hs2 (r2.writeI ea en hF ia rf (q1.ext x2))⟩
      · cases es'
    · cases es'
  · exact hp2.elim
theorem ds_attr (ht : SlTab K Γ f tab) (h : DE X K Γ W o to φ) (hv : DE X K Γ W v tv ψ) (hK : X.K = K := by rfl) (hs : swapsWith v (some (.Attribute o f pos')) pos.line X.env = pure false := by rfl) : DS X K Γ W (.Assign [.Attribute o f pos'] v pos) (SlX.sSl K to tv f) (setAttrS tab φ ψ) := by
  subst hK
  exact ⟨SlX.ps_sl h.pe hv.pe hs, gs_setAttr ht h.gd hv.gd⟩
end
end Md

set_option Elab.async false
set_option maxRecDepth 100000
set_option maxHeartbeats 4000000
set_option linter.all false
/-! the mirror layer: instances made, methods, properties, what is raised -/
namespace Md
open PySem PySem.Spec PyProof.Rows L2
/-! ### C(..) -/
def allO : List (Option D) → Option (List D)
  | [] => some []
  | some d :: r => if nc d = true then (allO r).map (d :: ·) else none
  | none :: _ => none
/-- the cell n has become an instance of c -/
def doneI (c n : Nat) (r : D) (s' : Sto) : Out D := match r, s'[n]? with
  | .non, some (.ins c' fs) => match allO fs with
    | some ds => if (decide (c' = c) && decide (s'.length = n + 1) && okS n (s'.take n)) = true then .ok (.ins c ds) (s'.take n) else .bad
    | none => .bad
  | _, _ => .bad
/-- C(..): frozen once it is made -/
def makeD (c : Nat) (m : Fn) (ψ : FA) : FE := bindX ψ fun _ xs s => (m (.cell s.length :: xs) (s ++ [.ins c []])).bind fun r s' => doneI c s.length r s'
section
variable {K : PySem.W.Frag} {Γ : Nat → Addr} {F G H : Hp} {ι : List Addr} {s : Sto}
theorem allO_rp {vs : List (Option V)} : ∀ {fs : List (Option D)} {ds : List D} {k : Nat}, allO fs = some ds → (∀ (j : Nat) (e : D), fs[j]? = some (some e) → ∃ w, vs[k + j]? = some (some w) ∧ Rp K Γ F ι w e) →
    ∃ xs, RpA K Γ F [] xs ds ∧ ∀ (i : Nat) (x : V), xs[i]? = some x → vs[k + i]? = some (some x)
  | [], _, _, e, _ => by cases e; exact ⟨[], .nil, fun i x q => by simp at q⟩
  | some d :: r, ds, k, e, h => by
    unfold allO at e
    split at e
    · rename_i hn
      cases q : allO r with
      | none => rw [q] at e; cases e
      | some m =>
        rw [q] at e
        cases e
        obtain ⟨w, ew, rw'⟩ := h 0 d rfl
        obtain ⟨xs, g, kx⟩ := allO_rp (k := k + 1) q fun j e he => by
          obtain ⟨w, ew, rw'⟩ := h (j + 1) e he
          exact ⟨w, by rw [show k + 1 + j = k + (j + 1) by omega]; exact ew, rw'⟩
        refine ⟨w :: xs, .cons (rw'.fz hn) g, fun i x ex => ?_⟩
        cases i with
        | zero => cases ex; exact ew
        | succ i => have := kx i x ex; rw [show k + 1 + i = k + (i + 1) by omega] at this; exact this
    · cases e
  | none :: _, _, _, e, _ => by cases e
/-- an instance is frozen -/
theorem Rel.freezeI {n c : Nat} {a : Addr} {fs : List (Option D)} {ds : List D} (r : Rel K Γ G F H ι s) (ea : ι[n]? = some a) (en : s[n]? = some (.ins c fs)) (hf : allO fs = some ds) :
    ∃ F', Rel K Γ G F' H ι (s.set n .dead) ∧ Ext F ι F' ι ∧ Rp K Γ F' ι (.ref a) (.ins c ds) := by
  obtain ⟨hF, dx, vs, ia, rf⟩ := r.at_ n _ a en ea
  obtain ⟨xs, g, kx⟩ := allO_rp (vs := vs) (k := 0) hf fun j e he => by
    obtain ⟨w, ew, rw'⟩ := rf j e he
    exact ⟨w, by rw [Nat.zero_add]; exact ew, rw'⟩
  have hm := List.mem_of_getElem? ea
  have hG := (r.free a hm).1
  obtain ⟨u, hu, u1, u2⟩ : ∃ u, H a = some u ∧ (∀ b, u ≠ .own b) ∧ u ≠ .xd [] := by
    rcases ia with ⟨h1, _⟩ | ⟨h1, _⟩
    · exact ⟨_, h1, (fun b z => nomatch z), (fun z => nomatch z)⟩
    · exact ⟨_, h1, (fun b z => nomatch z), (fun z => nomatch z)⟩
  obtain ⟨w, hw, w1⟩ : ∃ w, H dx = some w ∧ (w = .own a ∨ w = .xd []) := by
    rcases ia with ⟨_, _, h3, _⟩ | ⟨_, h3, _⟩
    · exact ⟨_, h3, Or.inl rfl⟩
    · exact ⟨_, h3, Or.inr rfl⟩
  have hda : dx ≠ a := by
    rintro rfl
    rw [hu] at hw
    cases hw
    rcases w1 with z | z
    · exact u1 _ z
    · exact u2 z
  have gdx : G dx = none := by
    rcases ia with ⟨_, _, _, _, h⟩ | ⟨_, _, h⟩
    · exact h
    · exact h
  have sm : Same F (upd (upd F dx w) a u) := fun b o e => by
    have h1 : b ≠ a := ne_of_none e hF
    by_cases h2 : b = dx
    · subst h2
      rw [upd_ne h1, upd_same]
      have z := r.sub _ _ e
      rw [hw] at z
      exact z
    · rw [upd_ne h1, upd_ne h2]; exact e
  have x : Ext F ι (upd (upd F dx w) a u) ι := ⟨sm, fun _ _ e => e⟩
  have fdx : upd (upd F dx w) a u dx = some w := (upd_ne hda).trans upd_same
  refine ⟨upd (upd F dx w) a u, ⟨fun b o e => ?_, r.aside, fun b o e => ?_, r.nd, by rw [List.length_set]; exact r.len, r.free, fun m cl b e1 e2 => ?_⟩, x, .ins (dx := dx) (vs := vs) ?_ (fun i x ex => by have := kx i x ex; rw [Nat.zero_add] at this; exact this) (g.ext x.nil)⟩
  · by_cases h1 : b = a
    · subst h1; rw [upd_same] at e; cases e; exact hu
    · rw [upd_ne h1] at e
      by_cases h2 : b = dx
      · subst h2; rw [upd_same] at e; cases e; exact hw
      · rw [upd_ne h2] at e; exact r.sub b o e
  · have h1 : b ≠ a := ne_of_none e hG
    have h2 : b ≠ dx := ne_of_none e gdx
    rw [upd_ne h1, upd_ne h2]; exact r.apart b o e
  · by_cases h : n = m
    · subst h
      rw [List.getElem?_set_self (List.getElem?_eq_some_iff.mp en).1] at e1; cases e1
      trivial
    · rw [List.getElem?_set_ne h] at e1
      have hb : b ≠ a := by
        rintro rfl
        obtain ⟨h1, e3⟩ := List.getElem?_eq_some_iff.mp ea
        obtain ⟨h2, e4⟩ := List.getElem?_eq_some_iff.mp e2
        exact h ((List.getElem_inj r.nd).mp (e3.trans e4.symm))
      have ck := r.at_ m cl b e1 e2
      by_cases hcl : cl = .dead
      · subst hcl; trivial
      obtain ⟨w', hw', w1', w2'⟩ : ∃ w, H b = some w ∧ (∀ z, w ≠ .own z) ∧ w ≠ .xd [] := by
        cases cl with
        | dead => exact absurd rfl hcl
        | lst es => obtain ⟨_, xs, e, _⟩ := ck; exact ⟨_, e, (fun z q => nomatch q), (fun q => nomatch q)⟩
        | dic es => obtain ⟨_, xs, e, _⟩ := ck; exact ⟨_, e, (fun z q => nomatch q), (fun q => nomatch q)⟩
        | ins c' fs' =>
          obtain ⟨_, dx', vs', i', _⟩ := ck
          rcases i' with ⟨h1, _⟩ | ⟨h1, _⟩
          · exact ⟨_, h1, (fun z q => nomatch q), (fun q => nomatch q)⟩
          · exact ⟨_, h1, (fun z q => nomatch q), (fun q => nomatch q)⟩
      have hbd : b ≠ dx := by
        rintro rfl
        rw [hw'] at hw; cases hw
        rcases w1 with z | z
        · exact w1' _ z
        · exact w2' z
      refine ck.keep x (fun _ _ e _ => e) (fun h => (upd_ne hb).trans ((upd_ne hbd).trans h)) (fun b' e h => ?_)
      have h1 : b' ≠ a := by
        rintro rfl
        rw [hu] at e; cases e
        exact u1 _ rfl
      have h2 : b' ≠ dx := by
        rintro rfl
        rw [hw] at e; cases e
        rcases w1 with z | z
        · exact hb (HO.own.inj z)
        · cases z
      exact (upd_ne h1).trans ((upd_ne h2).trans h)
  · rcases ia with ⟨h1, h2, h3, _⟩ | ⟨h1, h3, _⟩
    · rw [hu] at h1; cases h1
      exact Or.inl ⟨upd_same, h2⟩
    · rw [hu] at h1; cases h1
      rw [hw] at h3; cases h3
      exact Or.inr ⟨upd_same, fdx⟩
end
section
variable {X : Cx} {K : PySem.W.Frag} {Γ : Nat → Addr} {E : XK} {pos p : Pos} {e o : Expr} {es : List Expr} {ta : TA} {te : TE} {ψ : FA} {φ : FE} {m : Fn} {x : Str} {k c : Nat} {f g : Addr} {fd : FuncData} {ps : List Str}
abbrev WE' (E : XK) : WX := fun c d _ H => E c d H
theorem gd_make (ha : Ga K Γ (WE' E) ta ψ) : Gd K Γ (WE' E) (tMake (Γ c) (spD K Γ m) [] E ta) (makeD c m ψ) := by
  intro σ H Q G F ι s ds hs hr hp
  refine ha.step hs hr hp fun xs s1 vs H1 F1 ι1 x1 r1 q1 hs1 hp1 => ?_
  intro x dx nx ndx hne
  have r2 := r1.junk (o := .own x) ndx
  have nx2 : upd H1 dx (.own x) x = none := (upd_ne (Ne.symm hne)).trans nx
  obtain ⟨r3, x3⟩ := r2.push (p := x) (o := .ins (Γ c) dx []) (c := .ins c []) nx2 ⟨same_newF r2.sub nx2, dx, [], Or.inl ⟨upd_same, rfl, (upd_ne hne).trans upd_same, same_newF r1.sub ndx, same_newF r1.aside ndx⟩, fun j e he => by simp at he⟩
  have ex : (ι1 ++ [x])[s1.length]? = some x := by
    rw [List.getElem?_append_right (by rw [r1.len]; exact Nat.le_refl _), r1.len, Nat.sub_self]; rfl
  refine ⟨G, F1, ι1 ++ [x], s1 ++ [.ins c []], .cell s1.length :: xs, .cons (.cell ex) (by rw [List.append_nil]; exact q1.ext x3), r3, ?_⟩
  dsimp only at hp1
  cases em : m (.cell s1.length :: xs) (s1 ++ [.ins c []]) with
  | bad => rw [em] at hp1; exact hp1
  | err c' q s2 =>
    rw [em] at hp1
    exact fun dd H' F' ι' x' r' q' => hp1 dd H' F' ι' (x3.trans x') r' q'
  | ok r s2 =>
    rw [em] at hp1
    intro v H' F' ι' x' r' q'
    replace hp1 : Post K Γ (WE' E) σ G F1 ι1 (RV K Γ) Q (doneI c s1.length r s2) := hp1
    unfold doneI at hp1
    split at hp1
    · rename_i c' fs en
      split at hp1
      · rename_i es ef
        split at hp1
        · rename_i hc
          simp only [Bool.and_eq_true, decide_eq_true_eq] at hc
          obtain ⟨⟨rfl, hl⟩, hok⟩ := hc
          cases q'
          refine ⟨rfl, ?_⟩
          have ea : ι'[s1.length]? = some x := x'.pre _ _ ex
          obtain ⟨F2, r4, x4, rp4⟩ := r'.freezeI ea en ef
          have htk : (s2.set s1.length .dead).take s1.length = s2.take s1.length := by rw [List.take_set_of_le (Nat.le_refl _)]
          have r5 := r4.trim (n := s1.length) (by rw [htk]; exact hok)
          rw [htk] at r5
          have x5 : Ext F1 ι1 F2 (ι'.take s1.length) := by
            have y := (x3.trans x').trans x4
            have := y.trim
            rw [r1.len] at this
            exact this
          exact hp1 _ H' F2 _ x5 r5 (rp4.fz rfl)
        · exact hp1.elim
      · exact hp1.elim
    · exact hp1.elim
theorem de_make (M : Mk X.K (Γ c) f) (Fn : FnOk X.prog X.w X.K X.mg X.base (L2.CX X.prog X.w) k f fd ps (spD K Γ m)) (tk : Takes X (WE' E)) (hr : Room (k + 1) X.A) (hg : L2.Gl X x) (hm : X.mg x = some (.ref (Γ c))) (hb : Binds X.K fd ps []) (ha : DA X K Γ (WE' E) (e :: es) ta ψ)
    (hdb : (x == ("__debug__" : Str)) = false := by decide) (he : starEach (e :: es) X.env = (false, eval e X.env) :: starEach es X.env := by rfl) (hpl : (backTo pos (starEach es X.env)).any (·.1) = false := by rfl) :
    DE X K Γ (WE' E) (.Call (.Name x p) (e :: es) [] pos) (tMake (Γ c) (spD K Γ m) [] E ta) (makeD c m ψ) :=
  ⟨pe_make M Fn hr hg hm hb .nil (passes_call tk fun _ _ _ _ h => h) ha.pa hdb he hpl, gd_make ha.gd⟩
/-! ### o.m(..) -/
def methD (c : Nat) (m : Fn) (φ : FE) (ψ : FA) : FE := bindX φ fun ds x s => if clsD x s = some c then (ψ ds s).bind fun xs s => m (x :: xs) s else .bad
theorem spD_of {W : WX} {σ : L2.St} {G F H : Hp} {ι : List Addr} {s : Sto} {vs : List V} {xs : List D} {Q : VK} (g : RpA K Γ F ι vs xs) (r : Rel K Γ G F H ι s) (h : Post K Γ (WE' E) σ G F ι (RV K Γ) Q (m xs s)) : spD K Γ m vs H Q E := by
  refine ⟨G, F, ι, s, xs, g, r, ?_⟩
  cases e : m xs s with
  | ok d s2 => rw [e] at h; exact h
  | err c q s2 => rw [e] at h; exact h
  | bad => rw [e] at h; exact h
theorem gd_meth (ho : Gd K Γ (WE' E) te φ) (ha : Ga K Γ (WE' E) ta ψ) : Gd K Γ (WE' E) (SlX.tMethSl (Γ c) (spD K Γ m) E te ta) (methD c m φ ψ) := by
  intro σ H Q G F ι s ds hs hr hp
  refine ho.step hs hr hp fun x s1 v H1 F1 ι1 x1 r1 q1 hs1 hp1 => ?_
  dsimp only at hp1
  split at hp1
  · rename_i hc
    obtain ⟨a, dx, vs, rfl, sl⟩ := cls_rp r1 q1 hc
    refine ⟨a, dx, vs, rfl, sl, ha.step hs1 r1 hp1 fun xs s2 ws H2 F2 ι2 x2 r2 q2 hs2 hp2 => ?_⟩
    exact spD_of (W := WE' E) (.cons (q1.ext x2) q2) r2 hp2
  · exact hp1.elim
theorem de_meth {m' : Str} {apos : Pos} {pl : Sem Bool} (ho : DE X K Γ (WE' E) o te φ) (hc : SlX.SCls X.K (Γ c)) (hm : Meth X.K (Γ c) m' g) (Fn : FnR X.prog X.w X.K X.mg X.base (L2.CX X.prog X.w) k g (spD K Γ m)) (tk : Takes X (WE' E)) (hr : Room k X.A) (ha : DA X K Γ (WE' E) (e :: es) ta ψ)
    (hst : starEach (e :: es) X.env = (false, eval e X.env) :: starEach es X.env := by rfl) (hpl : (backTo pos (starEach es X.env)).any (·.1) = false := by rfl)
    (ht : eval (.Call (.Attribute o m' apos) (e :: es) [] pos) X.env = (do
      let ov ← eval o X.env
      standAt apos.atName
      let (f, first) ← holding [ov] (getMethod ov m' pl)
      callWith pos f first (backTo pos (starEach (e :: es) X.env)) (backToKw pos (keywordEach [] X.env))) := by rfl) :
    DE X K Γ (WE' E) (.Call (.Attribute o m' apos) (e :: es) [] pos) (SlX.tMethSl (Γ c) (spD K Γ m) E te ta) (methD c m φ ψ) :=
  ⟨SlX.pe_methSl ho.pe hc hm Fn hr (passes_call tk fun _ _ _ _ h => h) ha.pa hst hpl ht, gd_meth ho.gd ha.gd⟩
theorem de_meth0 {m' : Str} {apos : Pos} {pl : Sem Bool} (ho : DE X K Γ (WE' E) o te φ) (hc : SlX.SCls X.K (Γ c)) (hm : Meth X.K (Γ c) m' g) (Fn : FnR X.prog X.w X.K X.mg X.base (L2.CX X.prog X.w) k g (spD K Γ m)) (tk : Takes X (WE' E)) (hr : Room k X.A)
    (ht : eval (.Call (.Attribute o m' apos) [] [] pos) X.env = (do
      let ov ← eval o X.env
      standAt apos.atName
      let (f, first) ← holding [ov] (getMethod ov m' pl)
      callWith pos f first (backTo pos (starEach [] X.env)) (backToKw pos (keywordEach [] X.env))) := by rfl) :
    DE X K Γ (WE' E) (.Call (.Attribute o m' apos) [] [] pos) (SlX.tMethSl (Γ c) (spD K Γ m) E te tNil) (methD c m φ nilD) :=
  ⟨SlX.pe_methSl0 ho.pe hc hm Fn hr (passes_call tk fun _ _ _ _ h => h) ht, gd_meth ho.gd (da_nil (X := X)).gd⟩
/-! ### a property -/
def propD (c : Nat) (m : Fn) (φ : FE) : FE := bindX φ fun _ x s => if clsD x s = some c then nb (m [x] s) else .bad
theorem gd_prop {W : WX} (ho : Gd K Γ W te φ) : Gd K Γ W (SlX.tPropSl (Γ c) (spD K Γ m) E0 te) (propD c m φ) := by
  intro σ H Q G F ι s ds hs hr hp
  refine ho.step hs hr hp fun x s1 v H1 F1 ι1 x1 r1 q1 hs1 hp1 => ?_
  dsimp only at hp1
  split at hp1
  · rename_i hc
    obtain ⟨a, dx, vs, rfl, sl⟩ := cls_rp r1 q1 hc
    refine ⟨a, dx, vs, rfl, sl, G, F1, ι1, s1, [x], .cons q1 .nil, r1, ?_⟩
    cases e : m [x] s1 with
    | ok d s2 => rw [e] at hp1; exact hp1
    | err c q s2 => rw [e] at hp1; exact hp1.elim
    | bad => rw [e] at hp1; exact hp1
  · exact hp1.elim
theorem de_prop {W : WX} {f' : Str} {q : Addr} (ho : DE X K Γ W o te φ) (hc : SlX.SCls X.K (Γ c)) (at_ : PySem.W.findIn X.K (.ref (Γ c)) f' = some (some (.ref q))) (get : PySem.W.specialIn X.K (.ref q) "__get__" = some (some (.builtin "property.__get__")))
    (tkp : PySem.W.takesIn X.K (.ref q) = some true) (rc : ∃ rest, PySem.W.recIn X.K q "property" = some (.ref g :: rest)) (Fn : FnR X.prog X.w X.K X.mg X.base (L2.CX X.prog X.w) k g (spD K Γ m)) (hr : Room (k + 1) X.A)
    (hb : attributeBase o f' X.env (eval o X.env) = eval o X.env := by rfl) : DE X K Γ W (.Attribute o f' pos) (SlX.tPropSl (Γ c) (spD K Γ m) E0 te) (propD c m φ) :=
  ⟨SlX.pe_propSl ho.pe hc at_ get tkp rc Fn hr (fun H s e s' h => by
    obtain ⟨_, _, _, _, _, _, _, _, _, _, _, _, z⟩ := h
    exact z) hb, gd_prop ho.gd⟩
end
end Md

set_option Elab.async false
set_option maxRecDepth 100000
set_option maxHeartbeats 4000000
set_option linter.all false
/-! own ==, != against any value; own str, iter -/
namespace OwnK
open PySem PySem.Spec PySem.W PyProof.Rows
section
variable {prog : Program} {w : World} {A : Around} {E : Value → Shared → Prop} {s : Shared} {K : Frag} {h₀ : Heap} {L x C f : Addr} {ox : Obj} {od : Option Obj} {m : Str → Option Value} {b tb : Value}
/-- a special that is a built-in slot -/
theorem ifBound_B {M : Model} {name : Str} {id : String} {args : List Value} {Q : Option Value → Shared → Prop} (X : K.In s.heap) (I : InstAt s.heap x ox C od) (hs : findIn K (.ref C) name = some (some (.builtin id))) (hb : ∀ self, bindSpecial (.builtin id) self = pure (.builtin id, [self]))
    (h : wpAny M A (call (.builtin id) (.ref x :: args)) (fun v => Q (some v)) E s) : wpAny M A (callSpecialIfBound? (.ref x) name args) Q E s := by
  simp only [callSpecialIfBound?, bindSpecialIfBound?]
  refine wpAny_holding (wpAny_bind (wpAny_bind (wpAny_bind (I.type.here ((looks_findIn X hs).here ?_)))))
  refine wpAny_bind (wpAny_askSetting (wpAny_ite ?_))
  have last : wpAny M A (call (.builtin id) ([.ref x] ++ args) >>= fun v => pure (some v)) Q E s := wpAny_bind (wpAny_mono h (fun v s' h' => wpAny_pure h') fun _ _ h' => h')
  simp only [hb]
  split
  · exact wpAny_bind (wpAny_pure (wpAny_pure last))
  · exact wpAny_tryCatch (wpAny_bind (wpAny_pure (wpAny_pure last)))
theorem ne_bind (self : Value) : bindSpecial (.builtin "object.__ne__") self = pure (.builtin "object.__ne__", [self]) := PySem.F.slot_tuple_iterator_ne.bind self
theorem ne_K {Q : Value → Shared → Prop} (hu : A.units + 1 < cLine) (F : Fr h₀ L s.heap m) (X₀ : K.In h₀) (I : InstAt s.heap x ox C od) (hb : Looks (model prog w) s.heap (typeOf b) tb) (hn : notFirst K C tb = true)
    (hs : findIn K (.ref C) "__eq__" = some (some (.ref f))) (hf : isFn K (.ref f) = true) (hne : findIn K (.ref C) "__ne__" = some (some (.builtin "object.__ne__"))) (hm : mroIn K C (.type "object") = some true)
    (h : wpAny (model prog w) A.in1 (call (.ref f) [.ref x, b]) (fun v s' => ∃ k, v = .bool k ∧ Q (.bool (!k)) s') E s) : wpAny (model prog w) A (richCompare .NotEq (.ref x) b) Q E s := by
  have X := X₀.keeps F.keep
  have inst : Looks (model prog w) s.heap (isInstance (.ref x) (.type "object")) true := I.type.andThen (looks_mroIn X hm)
  have one : wpAny (model prog w) A (tryCompare (.ref x) "__ne__" b) (fun r s' => ∃ v, r = some v ∧ Q v s') E s := by
    unfold tryCompare
    refine wpAny_bind (ifBound_B X I hne ne_bind ?_)
    refine wpAny_call (codeAny_call_builtin PySem.F.slot_tuple_iterator_ne.plain PySem.F.cmpEntry_ne (check_slot PySem.F.cmpKind_ne PySem.F.cmpSplit_ne inst (PySem.F.cmpArgs_ne _ _) ?_))
    unfold Builtin.«object.__ne__»
    refine wpAny_bind (wpAny_pure ?_)
    refine wpAny_bind (wpAny_cRoomFor hu ?_)
    refine wpAny_bind (ifBound_K X I hs hf (wpAny_mono h (fun v s' hv => ?_) fun _ _ e => e))
    obtain ⟨k, rfl, q⟩ := hv
    refine wpAny_bind (wpAny_truthy_bool ?_)
    exact wpAny_pure (wpAny_pure ⟨_, rfl, q⟩)
  unfold richCompare
  simp only [oneThing_ref]
  refine wpAny_holding (wpAny_bind (wpAny_cRoomFor (by omega) ?_))
  refine wpAny_bind (I.type.here (wpAny_bind (hb.here ?_)))
  split
  · rename_i q
    have e : subIn K tb (.ref C) = some false := by
      rcases Bool.or_eq_true_iff.mp hn with e | e
      · rw [beq_iff_eq.mp e] at q; simp at q
      · exact beq_iff_eq.mp e
    refine wpAny_bind ((looks_subIn X e).here ?_)
    simp only [Bool.false_eq_true, if_false]
    refine wpAny_bind (wpAny_mono one (fun r s' z => ?_) fun _ _ e => e)
    obtain ⟨v, rfl, hq⟩ := z
    exact wpAny_pure hq
  · refine wpAny_bind (wpAny_pure ?_)
    simp only [Bool.false_eq_true, if_false]
    refine wpAny_bind (wpAny_mono one (fun r s' z => ?_) fun _ _ e => e)
    obtain ⟨v, rfl, hq⟩ := z
    exact wpAny_pure hq
end
end OwnK

set_option Elab.async false
set_option maxRecDepth 100000
set_option maxHeartbeats 4000000
set_option linter.all false
/-! the mirror layer: own operators -/
namespace Md
open PySem PySem.Spec PyProof.Rows L2
def badS : FS := fun _ _ => .bad
theorem ds_never {X : Cx} {K : PySem.W.Frag} {Γ : Nat → Addr} {W : WX} {st : Stmt} : DS X K Γ W st tNever badS := ⟨ps_never, fun _ _ _ _ _ _ _ _ _ _ hp => hp⟩
theorem nf_kind {K : PySem.W.Frag} {C : Addr} : ∀ n ∈ Gl.kinds, PySem.W.subIn K (.type n) (.ref C) = some false := by
  intro n hn
  simp only [Gl.kinds, List.mem_cons, List.not_mem_nil, or_false] at hn
  rcases hn with h | h | h | h | h | h | h <;> subst h <;> rfl
/-! ### == and != of instances, by an own __eq__ -/
/-- the right side: of a plain kind, or an instance -/
def RightOk (K : PySem.W.Frag) (C : Addr) (H : Hp) (y : V) : Prop := (∃ n, Gl.Knd K H y n) ∨ ∃ b C' dy ws, y = .ref b ∧ SlX.Slt H b C' dy ws ∧ PySem.W.notFirst K C (.ref C') = true
def rOwnC (K : PySem.W.Frag) (C : Addr) (sp : Sp) (k : Bool → Bool) : R2 := fun x y H Q => ∃ a dx vs, x = .ref a ∧ SlX.Slt H a C dx vs ∧ RightOk K C H y ∧ sp [x, y] H (fun z H' => ∃ b, z = .bl b ∧ Q (.bl (k b)) H') E0
section
variable {X : Cx} {K : PySem.W.Frag} {Γ : Nat → Addr} {sp : Sp} {g C : Addr} {n c : Nat} {m : Fn}
theorem right_ty {pins : List (Addr × Obj)} {σ : L2.St} {H : Hp} {s : Shared} {y : V} {u : Value} (I : Inv X pins σ H s) (ry : RelV y u) (h : RightOk X.K C H y) : ∃ tb, PySem.W.Looks (model X.prog X.w) s.heap (typeOf u) tb ∧ PySem.W.notFirst X.K C tb = true := by
  rcases h with ⟨k, hk⟩ | ⟨b, C', dy, ws, rfl, hb, hn⟩
  · obtain ⟨P, Z, p, _⟩ := kit_of I ry hk.ty
    refine ⟨.type k, Z.ty _ _ I.kIn p, ?_⟩
    unfold PySem.W.notFirst
    rw [nf_kind k hk.mem]
    rfl
  · cases (show u = Value.ref b from ry)
    obtain ⟨_, _, _, J, _⟩ := SlX.slt_inst I hb
    exact ⟨_, J.type, hn⟩
theorem op_eqOwn (hm : Meth X.K (Γ c) "__eq__" g) (_hne : PySem.W.findIn X.K (.ref (Γ c)) "__ne__" = some (some (.builtin "object.__ne__"))) (F : FnR X.prog X.w X.K X.mg X.base (L2.CX X.prog X.w) n g sp) (hr : Room (n + 1) X.A) (hK : X.K = K := by rfl) : OpR X (compareOp .Eq) (rOwnC K (Γ c) sp id) := by
  subst hK
  intro pins s σ H x y v u Q I rx ry h
  obtain ⟨a, dx, vs, rfl, ha, hy, q⟩ := h
  cases (show v = Value.ref a from rx)
  obtain ⟨tb, L, hn⟩ := right_ty I ry hy
  obtain ⟨_, _, _, J, _⟩ := SlX.slt_inst I ha
  obtain ⟨m, hF⟩ := I.fr
  show wpAny _ _ (richCompare .Eq (.ref a) u) _ _ _
  refine PySem.W.cmp_K (op := .Eq) hr.units0 hF I.ok.mod.kin J L hn hm.at_ hm.fn ?_
  refine wpAny_mono (wpAny_call (run_fnR (us := [.ref a, u]) (vs := [.ref a, y]) F (hr.mono (by omega)) passL I (.cons rfl (.cons ry .nil)) q)) ?_ fun _ _ x => x
  rintro w s' ⟨z, H', I', rz, b, rfl, qz⟩
  cases (show w = Value.bool b from rz)
  exact ⟨.bl b, H', I', rfl, qz⟩
theorem op_neOwn (hm : Meth X.K (Γ c) "__eq__" g) (hne : PySem.W.findIn X.K (.ref (Γ c)) "__ne__" = some (some (.builtin "object.__ne__"))) (F : FnR X.prog X.w X.K X.mg X.base (L2.CX X.prog X.w) n g sp) (hr : Room (n + 1) X.A) (si : SlX.SIsi X.K (Γ c)) (hK : X.K = K := by rfl) : OpR X (compareOp .NotEq) (rOwnC K (Γ c) sp not) := by
  subst hK
  intro pins s σ H x y v u Q I rx ry h
  obtain ⟨a, dx, vs, rfl, ha, hy, q⟩ := h
  cases (show v = Value.ref a from rx)
  obtain ⟨tb, L, hn⟩ := right_ty I ry hy
  obtain ⟨_, _, _, J, _⟩ := SlX.slt_inst I ha
  obtain ⟨m, hF⟩ := I.fr
  have hu := hr.units0
  show wpAny _ _ (richCompare .NotEq (.ref a) u) _ _ _
  refine OwnK.ne_K (by have := hr.units; omega) hF I.ok.mod.kin J L hn hm.at_ hm.fn hne si.cm ?_
  refine wpAny_mono (wpAny_call (SlX.run_at (us := [.ref a, u]) (ws := [.ref a, y]) F hr.in1 I.env0.in1 passL I (.cons rfl (.cons ry .nil)) q)) ?_ fun _ _ x => x
  rintro w s' ⟨z, H', I', rz, b, rfl, qz⟩
  cases (show w = Value.bool b from rz)
  exact ⟨b, rfl, .bl (!b), H', I', rfl, qz⟩
def rightD (cs : List Nat) (y : D) (s : Sto) : Bool := (kindD y s).isSome || ((clsD y s).any fun c => decide (c ∈ cs))
def cmpOwn (cs : List Nat) (c : Nat) (m : Fn) (k : Bool → Bool) (x y : D) (s : Sto) : Out D :=
  if clsD x s = some c then
    if rightD cs y s = true then
      match m [x, y] s with
      | .ok (.bl b) s' => .ok (.bl (k b)) s'
      | _ => .bad
    else .bad
  else .bad
theorem og_cmpOwn {cs : List Nat} {k : Bool → Bool} (hc : Cls K Γ cs) (hm : c ∈ cs) : OpG K Γ (rOwnC K (Γ c) (spD K Γ m) k) (cmpOwn cs c m k) := by
  intro W σ H Q G F ι s x y v u r h1 h2 hp
  unfold cmpOwn at hp
  split at hp
  · rename_i hx
    obtain ⟨a, dx, vs, rfl, sl⟩ := cls_rp r h1 hx
    split at hp
    · rename_i hy
      refine ⟨a, dx, vs, rfl, sl, ?_, G, F, ι, s, [x, y], .cons h1 (.cons h2 .nil), r, ?_⟩
      · unfold rightD at hy
        rw [Bool.or_eq_true] at hy
        rcases hy with hy | hy
        · obtain ⟨n, e⟩ := Option.isSome_iff_exists.mp hy
          exact Or.inl ⟨n, kind_rp r h2 e⟩
        · cases e : clsD y s with
          | none => rw [e] at hy; cases hy
          | some c' =>
            rw [e] at hy
            obtain ⟨b, dy, ws, rfl, sl'⟩ := cls_rp r h2 e
            exact Or.inr ⟨b, _, dy, ws, rfl, sl', hc.nf c hm c' (of_decide_eq_true (p := c' ∈ cs) hy)⟩
      · split at hp
        · rename_i b s' e
          rw [e]
          intro v' H' F' ι' x' r' q'
          cases q'
          exact ⟨b, rfl, hp _ H' F' ι' x' r' (.bl _)⟩
        · exact hp.elim
    · exact hp.elim
  · exact hp.elim
theorem og_eqOwn {cs : List Nat} (hc : Cls K Γ cs) (hm : c ∈ cs) : OpG K Γ (rOwnC K (Γ c) (spD K Γ m) id) (cmpOwn cs c m id) := og_cmpOwn hc hm
theorem og_neOwn {cs : List Nat} (hc : Cls K Γ cs) (hm : c ∈ cs) : OpG K Γ (rOwnC K (Γ c) (spD K Γ m) not) (cmpOwn cs c m not) := og_cmpOwn hc hm
end
/-! ### x + y .. of instances of one class -/
def binOwn (c : Nat) (m : Fn) (x y : D) (s : Sto) : Out D := if (decide (clsD x s = some c) && decide (clsD y s = some c)) = true then m [x, y] s else .bad
def rOwnB (C : Addr) (sp : Sp) (E : XK) : R2 := fun x y H Q => ∃ a dx vs b dy ws, x = .ref a ∧ y = .ref b ∧ SlX.Slt H a C dx vs ∧ SlX.Slt H b C dy ws ∧ sp [x, y] H Q E
def unOwn (c : Nat) (m : Fn) (x : D) (s : Sto) : Out D := if clsD x s = some c then m [x] s else .bad
def rOwnU (C : Addr) (sp : Sp) (E : XK) : V → Hp → VK → Prop := fun x H Q => ∃ a dx vs, x = .ref a ∧ SlX.Slt H a C dx vs ∧ sp [x] H Q E
section
variable {X : Cx} {K : PySem.W.Frag} {Γ : Nat → Addr} {E : XK} {g : Addr} {n c : Nat} {m : Fn} {a b : Expr} {ta tb : TE} {φ ψ : FE} {pos : Pos}
theorem op_ownB {op : Operator} {C : Addr} {sp : Sp} {name : Str} (hc : PySem.W.selfFirst X.K C = true) (hm : Meth X.K C name g) (hn : PySem.dunder op.info.2 = name) (F : FnR X.prog X.w X.K X.mg X.base (L2.CX X.prog X.w) n g sp) (hr : Room n X.A) (hx : Passes (L2.CX X.prog X.w) X E) : OpR X (binaryOp op) (rOwnB C sp E) := by
  subst hn
  intro pins s σ H x y v u Q I rx ry h
  obtain ⟨a, dx, vs, b, dy, ws, rfl, rfl, ha, hb, q⟩ := h
  cases (show v = Value.ref a from rx)
  cases (show u = Value.ref b from ry)
  obtain ⟨_, _, _, J, _⟩ := SlX.slt_inst I ha
  obtain ⟨_, _, _, J', _⟩ := SlX.slt_inst I hb
  obtain ⟨m, hF⟩ := I.fr
  refine PySem.W.binop_K hF I.ok.mod.kin J J'.type hc hm.at_ hm.fn ?_
  refine wpAny_mono (wpAny_call (run_fnR (us := [.ref a, .ref b]) (vs := [.ref a, .ref b]) F hr hx I (.cons rfl (.cons rfl .nil)) q)) ?_ fun _ _ x => x
  rintro w s' ⟨z, H', I', rz, qz⟩
  exact SlX.cmpback rz ⟨z, H', I', rz, qz⟩
theorem de_ownB {op : Operator} {name : Str} (hc : PySem.W.selfFirst X.K (Γ c) = true) (hm : Meth X.K (Γ c) name g) (hn : PySem.dunder op.info.2 = name) (F : FnR X.prog X.w X.K X.mg X.base (L2.CX X.prog X.w) n g (spD K Γ m)) (tk : Takes X (WE' E)) (hr : Room n X.A) (ha : DE X K Γ (WE' E) a ta φ) (hb : DE X K Γ (WE' E) b tb ψ) :
    DE X K Γ (WE' E) (.BinOp a op b pos) (tOp (rOwnB (Γ c) (spD K Γ m) E) ta tb) (op2 (binOwn c m) φ ψ) := by
  refine ⟨pe_op (op_ownB hc hm hn F hr (passes_call tk fun _ _ _ _ h => h)) ha.pe hb.pe, fun σ H Q G F ι s ds hs hr hp => ?_⟩
  refine ha.gd.step hs hr hp fun x s1 v H1 F1 ι1 x1 r1 q1 hs1 hp1 => ?_
  refine hb.gd.step hs1 r1 hp1 fun y s2 u H2 F2 ι2 x2 r2 q2 hs2 hp2 => ?_
  unfold binOwn at hp2
  split at hp2
  · rename_i h
    rw [Bool.and_eq_true, decide_eq_true_eq, decide_eq_true_eq] at h
    obtain ⟨p, dx, vs, rfl, sl⟩ := cls_rp r2 (q1.ext x2) h.1
    obtain ⟨p', dx', vs', rfl, sl'⟩ := cls_rp r2 q2 h.2
    exact ⟨p, dx, vs, p', dx', vs', rfl, rfl, sl, sl', spD_of (W := WE' E) (.cons (q1.ext x2) (.cons q2 .nil)) r2 hp2⟩
  · exact hp2.elim
theorem un_ownN {C : Addr} {sp : Sp} (hm : Meth X.K C "__neg__" g) (F : FnR X.prog X.w X.K X.mg X.base (L2.CX X.prog X.w) n g sp) (hr : Room n X.A) (hx : Passes (L2.CX X.prog X.w) X E) : UnR X (unaryOp .USub) (rOwnU C sp E) := by
  intro pins s σ H x v Q I rx h
  obtain ⟨a, dx, vs, rfl, ha, q⟩ := h
  cases (show v = Value.ref a from rx)
  obtain ⟨_, _, _, J, _⟩ := SlX.slt_inst I ha
  obtain ⟨m, hF⟩ := I.fr
  exact PySem.W.ksp_neg hF I.ok.mod.kin J hm.at_ hm.fn (wpAny_call (run_fnR (us := [.ref a]) (vs := [.ref a]) F hr hx I (.cons rfl .nil) q))
theorem gd_ownU (h : Gd K Γ (WE' E) ta φ) : Gd K Γ (WE' E) (tUn (rOwnU (Γ c) (spD K Γ m) E) ta) (bindX φ fun _ => unOwn c m) := by
  intro σ H Q G F ι s ds hs hr hp
  refine h.step hs hr hp fun x s1 v H1 F1 ι1 x1 r1 q1 hs1 hp1 => ?_
  try dsimp only at hp1
  unfold unOwn at hp1
  split at hp1
  · rename_i h
    obtain ⟨p, dx, vs, rfl, sl⟩ := cls_rp r1 q1 h
    exact ⟨p, dx, vs, rfl, sl, spD_of (W := WE' E) (.cons q1 .nil) r1 hp1⟩
  · exact hp1.elim
theorem de_ownN (hm : Meth X.K (Γ c) "__neg__" g) (F : FnR X.prog X.w X.K X.mg X.base (L2.CX X.prog X.w) n g (spD K Γ m)) (tk : Takes X (WE' E)) (hr : Room n X.A) (ha : DE X K Γ (WE' E) a ta φ) : DE X K Γ (WE' E) (.UnaryOp .USub a pos) (tUn (rOwnU (Γ c) (spD K Γ m) E) ta) (bindX φ fun _ => unOwn c m) :=
  ⟨pe_un (un_ownN hm F hr (passes_call tk fun _ _ _ _ h => h)) ha.pe, gd_ownU ha.gd⟩
/-! x[i], by an own __getitem__ -/
theorem pe_ownIx {C : Addr} {sp : Sp} (hm : Meth X.K C "__getitem__" g) (hfn : PySem.W.fnIn X.K g = true) (F : FnR X.prog X.w X.K X.mg X.base (L2.CX X.prog X.w) n g sp) (hr : Room (n + 1) X.A) (hx : Passes (L2.CX X.prog X.w) X E) (ha : PE X a ta) (hb : PE X b tb)
    (hsl : ∀ x i, subscripted b true (.ref x) i = runValue (.builtin "lifetime.subscript" ⟨[.ref x, i], []⟩) := by intro _ _; with_unfolding_all rfl) :
    PE X (.Subscript a b pos) (tOp (fun x y H Q => ∃ p dx vs, x = .ref p ∧ SlX.Slt H p C dx vs ∧ sp [x, y] H Q E) ta tb) := by
  constructor
  intro pins s σ H Q I h
  refine Subscript_ (thn (ha.run pins s σ H _ I h) fun v s1 ⟨x, H1, I1, r1, q1⟩ => thn (hb.run pins s1 σ H1 _ I1 q1) fun u s2 ⟨y, H2, I2, r2, p, dx, vs, ex, sl, q⟩ => ?_)
  subst ex
  cases (show v = Value.ref p from r1)
  obtain ⟨_, _, _, J, _⟩ := SlX.slt_inst I2 sl
  obtain ⟨m, hF⟩ := I2.fr
  exact PySem.W.sub_K hF I2.ok.mod.kin J hm.at_ hfn hm.fn (wpAny_call (SlX.run_at (us := [.ref p, u]) (ws := [.ref p, y]) F hr.in1 I2.env0.in1 hx I2 (.cons rfl (.cons r2 .nil)) q)) (hsl _ _)
def ixOwn (c : Nat) (m : Fn) (x y : D) (s : Sto) : Out D := if clsD x s = some c then m [x, y] s else .bad
theorem de_ownIx (hm : Meth X.K (Γ c) "__getitem__" g) (hfn : PySem.W.fnIn X.K g = true) (F : FnR X.prog X.w X.K X.mg X.base (L2.CX X.prog X.w) n g (spD K Γ m)) (tk : Takes X (WE' E)) (hr : Room (n + 1) X.A) (ha : DE X K Γ (WE' E) a ta φ) (hb : DE X K Γ (WE' E) b tb ψ)
    (hsl : ∀ x i, subscripted b true (.ref x) i = runValue (.builtin "lifetime.subscript" ⟨[.ref x, i], []⟩) := by intro _ _; with_unfolding_all rfl) :
    DE X K Γ (WE' E) (.Subscript a b pos) (tOp (fun x y H Q => ∃ p dx vs, x = .ref p ∧ SlX.Slt H p (Γ c) dx vs ∧ spD K Γ m [x, y] H Q E) ta tb) (op2 (ixOwn c m) φ ψ) := by
  refine ⟨pe_ownIx hm hfn F hr (passes_call tk fun _ _ _ _ h => h) ha.pe hb.pe hsl, fun σ H Q G F ι s ds hs hr hp => ?_⟩
  refine ha.gd.step hs hr hp fun x s1 v H1 F1 ι1 x1 r1 q1 hs1 hp1 => ?_
  refine hb.gd.step hs1 r1 hp1 fun y s2 u H2 F2 ι2 x2 r2 q2 hs2 hp2 => ?_
  unfold ixOwn at hp2
  split at hp2
  · rename_i h
    obtain ⟨p, dx, vs, rfl, sl⟩ := cls_rp r2 (q1.ext x2) h
    exact ⟨p, dx, vs, rfl, sl, spD_of (W := WE' E) (.cons (q1.ext x2) (.cons q2 .nil)) r2 hp2⟩
  · exact hp2.elim
end
/-! ### len(x), str(x), bool(x) by own defs -/
def lenOwn (c : Nat) (m : Fn) (xs : List D) (s : Sto) : Out D := match xs with
  | [x] => if clsD x s = some c then match m [x] s with
      | .ok (.int i) s' => if (decide (0 ≤ i) && decide (i < 2 ^ 63)) = true then .ok (.int i) s' else .bad
      | _ => .bad
    else .bad
  | _ => .bad
def strOwn (c : Nat) (m : Fn) (xs : List D) (s : Sto) : Out D := match xs with
  | [x] => if clsD x s = some c then match m [x] s with
      | .ok (.str i) s' => .ok (.str i) s'
      | _ => .bad
    else .bad
  | _ => .bad
section
variable {X : Cx} {K : PySem.W.Frag} {Γ : Nat → Addr} {E : XK} {g : Addr} {n c : Nat} {m : Fn}
theorem call_lenOwnA {sp : Sp} (hm : Meth X.K (Γ c) "__len__" g) (F : FnR X.prog X.w X.K X.mg X.base (L2.CX X.prog X.w) n g sp) (hr : Room (n + 1) X.A) : CallR X (.builtin "len") (Gl.rLenOwn (Γ c) sp E0) := Gl.call_lenOwn hm.at_ hm.fn F hr passL
theorem cg_lenOwn : CallG K Γ (Gl.rLenOwn (Γ c) (spD K Γ m) E0) (lenOwn c m) := by
  intro W σ H Q G F ι s xs vs r g hp
  unfold lenOwn at hp
  split at hp
  · rename_i x
    obtain ⟨v, rfl, gx⟩ := one_rp g
    split at hp
    · rename_i h
      obtain ⟨p, dx, ws, rfl, sl⟩ := cls_rp r gx h
      refine ⟨p, dx, ws, rfl, sl, G, F, ι, s, [x], .cons gx .nil, r, ?_⟩
      split at hp
      · rename_i i s' e
        rw [e]
        split at hp
        · rename_i hi
          rw [Bool.and_eq_true, decide_eq_true_eq, decide_eq_true_eq] at hi
          intro v' H' F' ι' x' r' q'
          cases q'
          exact ⟨i, rfl, hi, hp _ H' F' ι' x' r' (.int _)⟩
        · exact hp.elim
      · exact hp.elim
    · exact hp.elim
  · exact hp.elim
def rStrOwn (C : Addr) (sp : Sp) : List V → Hp → VK → Prop := fun xs H Q => ∃ a dx vs, xs = [V.ref a] ∧ SlX.Slt H a C dx vs ∧ sp [.ref a] H (fun z H' => ∃ y, z = .str y ∧ Q z H') E0
theorem call_strOwn {C : Addr} {sp : Sp} (hm : Meth X.K C "__str__" g) (F : FnR X.prog X.w X.K X.mg X.base (L2.CX X.prog X.w) n g sp) (hr : Room (n + 2) X.A) : CallR X (.type "str") (rStrOwn C sp) := by
  intro pins s σ H xs us Q I r h
  obtain ⟨a, dx, vs, rfl, hsl, q⟩ := h
  obtain ⟨u, rfl, ru⟩ := r.one
  cases (show u = Value.ref a from ru)
  obtain ⟨_, _, _, J, _⟩ := SlX.slt_inst I hsl
  have hr2 : Room n X.A.in1.in1 := (show Room (n + 1) X.A.in1 from Room.in1 hr).in1
  refine PySem.W.kso_call (by have := hr2.units; omega) I.kIn J hm.at_ hm.fn (wpAny_mono (wpAny_call (SlX.run_at (us := [.ref a]) (ws := [.ref a]) F hr2 I.env0.in1.in1 passL I (.cons rfl .nil) q)) ?_ fun _ _ x => x)
  rintro w s' ⟨z, H', I', rz, y, rfl, qz⟩
  obtain ⟨t, e⟩ := (show ∃ t, w = Value.str y t from rz)
  subst e
  exact ⟨.str y, H', I', ⟨t, rfl⟩, qz⟩
theorem cg_strOwn : CallG K Γ (rStrOwn (Γ c) (spD K Γ m)) (strOwn c m) := by
  intro W σ H Q G F ι s xs vs r g hp
  unfold strOwn at hp
  split at hp
  · rename_i x
    obtain ⟨v, rfl, gx⟩ := one_rp g
    split at hp
    · rename_i h
      obtain ⟨p, dx, ws, rfl, sl⟩ := cls_rp r gx h
      refine ⟨p, dx, ws, rfl, sl, G, F, ι, s, [x], .cons gx .nil, r, ?_⟩
      split at hp
      · rename_i i s' e
        rw [e]
        intro v' H' F' ι' x' r' q'
        cases q'
        exact ⟨i, rfl, hp _ H' F' ι' x' r' (.str _)⟩
      · exact hp.elim
    · exact hp.elim
  · exact hp.elim
end
/-! ### starred items -/
def starD (φ : FE) (ψ : FA) : FA := bindX φ fun ds x s => match vw x s with
  | .lst xs => (ψ ds s).bind fun ys s => .ok (xs ++ ys) s
  | .tup xs => (ψ ds s).bind fun ys s => .ok (xs ++ ys) s
  | _ => .bad
theorem da_star {X : Cx} {K : PySem.W.Frag} {Γ : Nat → Addr} {W : WX} {e : Expr} {es : List Expr} {te : TE} {ta : TA} {φ : FE} {ψ : FA} {p : Pos} (h1 : DE X K Γ W e te φ) (h2 : DA X K Γ W es ta ψ) (hK : X.K = K := by rfl) (hs : starEach (.Starred e p :: es) X.env = (true, eval e X.env) :: starEach es X.env := by rfl) :
    DA X K Γ W (.Starred e p :: es) (StX.tStar K te ta) (starD φ ψ) := by
  subst hK
  refine ⟨StX.pa_star h1.pe h2.pa hs, fun σ H Q G F ι s ds hs hr hp => ?_⟩
  refine h1.gd.step hs hr hp fun x s1 v H1 F1 ι1 x1 r1 q1 hs1 hp1 => ?_
  dsimp only at hp1
  split at hp1
  · rename_i xs e
    obtain ⟨a, vs, rfl, ha, gk⟩ := r1.view q1 (view_lst e)
    refine ⟨a, vs, rfl, Or.inr (SqL.of ha), h2.gd.step hs1 r1 hp1 fun ys s2 us H2 F2 ι2 x2 r2 q2 hs2 hp2 => ?_⟩
    exact hp2 _ _ _ _ Ext.refl r2 ((gk.ext x2.nil).up.append q2)
  · rename_i xs e
    have ex := view_tup e
    subst ex
    cases q1 with
    | tup t1 gk =>
      refine ⟨_, _, rfl, Or.inl (Gl.sqTS r1.sub t1), h2.gd.step hs1 r1 hp1 fun ys s2 us H2 F2 ι2 x2 r2 q2 hs2 hp2 => ?_⟩
      exact hp2 _ _ _ _ Ext.refl r2 ((gk.ext x2.nil).up.append q2)
  · exact hp1.elim
end Md

set_option Elab.async false
set_option maxRecDepth 100000
set_option maxHeartbeats 4000000
set_option linter.all false
/-! the mirror layer: texts of numbers, f-strings, bool by own defs, dicts written -/
namespace OwnK
open PySem PySem.Spec PySem.W PyProof.Rows
section
variable {prog : Program} {w : World} {A : Around} {E : Value → Shared → Prop} {s : Shared} {K : Frag} {h₀ : Heap} {L x C f : Addr} {ox : Obj} {od : Option Obj} {m : Str → Option Value}
/-- bool(x), x with an own __bool__ -/
theorem bool_own {Q : Value → Shared → Prop} (F : Fr h₀ L s.heap m) (X₀ : K.In h₀) (I : InstAt s.heap x ox C od) (hs : findIn K (.ref C) "__bool__" = some (some (.ref f))) (hf : isFn K (.ref f) = true)
    (h : wpAny (model prog w) A.in1.in1 (call (.ref f) [.ref x]) (PySem.W.BoolBack fun b s₁ => Q (.bool b) s₁) E s) : wpAny (model prog w) A (call (.type "bool") [.ref x]) Q E s := by
  refine callType_codes (T := "bool") (Bi := Builtin.«object.__init__») (Q₁ := fun r s₁ => ∃ b, r = Value.bool b ∧ Q r s₁) PySem.F.called_bool (PySem.F.typeCall_bool_1 _) PySem.F.entry_object_init ?_ ?_
  · refine codeAny_of_tree ?_
    show wpAny _ A.in1.in1 (do checkBuiltinCall "bool.__new__" ⟨[.type "bool", .ref x], []⟩; again (.builtin "bool.__new__" ⟨[.type "bool", .ref x], []⟩)) _ _ s
    refine wpAny_bind (wpAny_of_eq (PySem.F.newCall_bool_1 _) (wpAny_pure ⟨plainId_quiet (by decide +kernel) _, codeAny_builtin PySem.F.entry_bool_new ?_⟩))
    rw [Around.under_plainId (by decide +kernel) _]
    obtain ⟨hp, gg, dd, tk, os⟩ := s
    have f1 := PySem.F.conv_sub_bool
    have tr : wpAny (model prog w) A.in1.in1 (truthy (.ref x)) (fun b s₁ => Q (.bool b) s₁) E ⟨hp, gg, dd, tk, os⟩ := truthy_K F X₀ I hs hf h
    repeat (any_goals (first | assumption | (with_reducible refine wpAny_mono tr ?_ fun _ _ z => z) | wp_step))
    all_goals first | (intro b s₁ q; exact wpAny_pure ⟨_, rfl, q⟩) | (intro b s₁ q; exact ⟨_, rfl, q⟩) | skip
  · rintro obj s₁ ⟨b, rfl, hq⟩
    exact ⟨rfl, PySem.F.args_object_init_2 _ _, object_init_meets PySem.F.called_bool.init.lookup PySem.F.called_bool.made (by decide) prog w A.in1 _ s₁ ⟨rfl, rfl, hq⟩⟩
end
end OwnK
namespace Md
open PySem PySem.Spec PyProof.Rows L2
/-! ### str(n), f'..' -/
def fmtD (x : D) (s : Sto) : Out D := match x with
  | .int i => if i.natAbs.log2 < 1920 then .ok (.str (toString i)) s else .bad
  | .str y => if y.length ≤ sizeLine then .ok (.str y) s else .bad
  | _ => .bad
def strD (xs : List D) (s : Sto) : Out D := match xs with
  | [.int i] => if i.natAbs.log2 < 1920 then .ok (.str (toString i)) s else .bad
  | _ => .bad
section
variable {X : Cx} {K : PySem.W.Frag} {Γ : Nat → Addr} {W : WX} {pos : Pos} {e : Expr} {te : TE} {φ : FE}
theorem cg_str : CallG K Γ (fun xs H Q => ∃ i, xs = [.int i] ∧ i.natAbs.log2 < 1920 ∧ Q (.str (toString i)) H) strD := by
  intro W σ H Q G F ι s xs vs r g hp
  unfold strD at hp
  split at hp
  · obtain ⟨v, rfl, gx⟩ := one_rp g
    cases gx
    split at hp
    · rename_i hz
      exact ⟨_, rfl, hz, hp _ _ _ _ Ext.refl r (.str _)⟩
    · exact hp.elim
  · exact hp.elim
theorem de_fmt (h : DE X K Γ W e te φ) : DE X K Γ W (.FormattedValue e (-1) none pos) (tFmt te) (bindX φ fun _ => fmtD) := by
  refine ⟨pe_fmt h.pe, fun σ H Q G F ι s ds hs hr hp => h.gd.step hs hr hp fun x s1 v H1 F1 ι1 x1 r1 q1 hs1 hp1 => ?_⟩
  try dsimp only at hp1
  unfold fmtD at hp1
  split at hp1
  · cases q1
    split at hp1
    · rename_i hz
      exact Or.inr ⟨_, rfl, hz, hp1 _ _ _ _ Ext.refl r1 (.str _)⟩
    · exact hp1.elim
  · cases q1
    split at hp1
    · rename_i hz
      exact Or.inl ⟨_, rfl, hz, hp1 _ _ _ _ Ext.refl r1 (.str _)⟩
    · exact hp1.elim
  · exact hp1.elim
abbrev FJ := Str → DSt → Sto → Out Str
def nilJ : FJ := fun acc _ s => .ok acc s
def consJ (φ : FE) (κ : FJ) : FJ := fun acc ds s => (φ ds s).bind fun x s => match x with
  | .str y => if (acc ++ y).length ≤ sizeLine then κ (acc ++ y) ds s else .bad
  | _ => .bad
structure DJ (X : Cx) (K : PySem.W.Frag) (Γ : Nat → Addr) (W : WX) (es : List Expr) (ts : List TE) (κ : FJ) : Prop where
  pj : PJ X es ts
  gd : ∀ (acc : Str) (σ : L2.St) (H : Hp) (Q : Str → Hp → Prop) (G F : Hp) (ι : List Addr) (s : Sto) (ds : DSt), RS K Γ F ι σ ds → Rel K Γ G F H ι s → Post K Γ W σ G F ι (fun _ _ (a : Str) b => a = b) Q (κ acc ds s) → tJs ts acc σ H Q
theorem dj_nil : DJ X K Γ W [] [] nilJ := ⟨.nil, fun acc σ H Q G F ι s ds hs hr hp => hp _ _ _ _ Ext.refl hr rfl⟩
theorem dj_cons {es : List Expr} {ts : List TE} {κ : FJ} (h : DE X K Γ W e te φ) (r : DJ X K Γ W es ts κ) : DJ X K Γ W (e :: es) (te :: ts) (consJ φ κ) := by
  refine ⟨.cons h.pe r.pj, fun acc σ H Q G F ι s ds hs hr hp => ?_⟩
  refine h.gd.step hs hr hp fun x s1 v H1 F1 ι1 x1 r1 q1 hs1 hp1 => ?_
  try dsimp only at hp1
  cases x <;> first | exact hp1.elim | skip
  cases q1
  rename_i y
  by_cases hz : (acc ++ y).length ≤ sizeLine
  · have hp2 : Post K Γ W σ G F1 ι1 (fun _ _ (a : Str) b => a = b) Q (κ (acc ++ y) ds s1) := by
      have e : (if (acc ++ y).length ≤ sizeLine then κ (acc ++ y) ds s1 else .bad) = κ (acc ++ y) ds s1 := if_pos hz
      rw [← e]; exact hp1
    exact ⟨y, rfl, hz, r.gd _ σ H1 Q G F1 ι1 s1 ds hs1 r1 hp2⟩
  · have e : (if (acc ++ y).length ≤ sizeLine then κ (acc ++ y) ds s1 else .bad) = .bad := if_neg hz
    have hp2 : Post K Γ W σ G F1 ι1 (fun _ _ (a : Str) b => a = b) Q .bad := by rw [← e]; exact hp1
    exact hp2.elim
def joinD (κ : FJ) : FE := fun ds s => (κ Str.empty ds s).bind fun z s => .ok (.str z) s
theorem de_joined {v1 v2 : Expr} {rest : List Expr} {ts : List TE} {κ : FJ} (h : DJ X K Γ W (v1 :: v2 :: rest) ts κ) : DE X K Γ W (.JoinedStr (v1 :: v2 :: rest) pos) (fun σ H Q => tJs ts Str.empty σ H fun out H1 => Q (.str out) H1) (joinD κ) := by
  refine ⟨pe_joined h.pj, fun σ H Q G F ι s ds hs hr hp => h.gd Str.empty σ H _ G F ι s ds hs hr ?_⟩
  unfold joinD at hp
  cases e : κ Str.empty ds s with
  | ok z s1 =>
    rw [e] at hp
    intro v H' F' ι' x r q
    cases (show v = z from q)
    exact hp _ H' F' ι' x r (.str _)
  | err c p s1 => rw [e] at hp; exact hp
  | bad => rw [e] at hp; exact hp
theorem de_joined1 (h : DE X K Γ W e te φ) : DE X K Γ W (.JoinedStr [e] pos) te φ := ⟨pe_joined1 h.pe, h.gd⟩
end
/-! ### bool(x) by an own def -/
def boolOwn (c : Nat) (m : Fn) (xs : List D) (s : Sto) : Out D := match xs with
  | [x] => if clsD x s = some c then match m [x] s with
      | .ok (.bl i) s' => .ok (.bl i) s'
      | _ => .bad
    else .bad
  | _ => .bad
section
variable {X : Cx} {K : PySem.W.Frag} {Γ : Nat → Addr} {g : Addr} {n c : Nat} {m : Fn}
def rBoolOwn (C : Addr) (sp : Sp) : List V → Hp → VK → Prop := fun xs H Q => ∃ a dx vs, xs = [V.ref a] ∧ SlX.Slt H a C dx vs ∧ sp [.ref a] H (fun z H' => ∃ y, z = .bl y ∧ Q z H') E0
theorem call_boolOwn {C : Addr} {sp : Sp} (hm : Meth X.K C "__bool__" g) (F : FnR X.prog X.w X.K X.mg X.base (L2.CX X.prog X.w) n g sp) (hr : Room (n + 2) X.A) : CallR X (.type "bool") (rBoolOwn C sp) := by
  intro pins s σ H xs us Q I r h
  obtain ⟨a, dx, vs, rfl, hsl, q⟩ := h
  obtain ⟨u, rfl, ru⟩ := r.one
  cases (show u = Value.ref a from ru)
  obtain ⟨_, _, _, J, _⟩ := SlX.slt_inst I hsl
  obtain ⟨m, hF⟩ := I.fr
  have hr2 : Room n X.A.in1.in1 := (show Room (n + 1) X.A.in1 from Room.in1 hr).in1
  refine OwnK.bool_own hF I.ok.mod.kin J hm.at_ hm.fn (wpAny_mono (wpAny_call (SlX.run_at (us := [.ref a]) (ws := [.ref a]) F hr2 I.env0.in1.in1 passL I (.cons rfl .nil) q)) ?_ fun _ _ x => x)
  rintro w s' ⟨z, H', I', rz, y, rfl, qz⟩
  cases (show w = Value.bool y from rz)
  exact ⟨.bl y, H', I', rfl, qz⟩
theorem cg_boolOwn : CallG K Γ (rBoolOwn (Γ c) (spD K Γ m)) (boolOwn c m) := by
  intro W σ H Q G F ι s xs vs r g hp
  unfold boolOwn at hp
  split at hp
  · rename_i x
    obtain ⟨v, rfl, gx⟩ := one_rp g
    split at hp
    · rename_i h
      obtain ⟨p, dx, ws, rfl, sl⟩ := cls_rp r gx h
      refine ⟨p, dx, ws, rfl, sl, G, F, ι, s, [x], .cons gx .nil, r, ?_⟩
      split at hp
      · rename_i i s' e
        rw [e]
        intro v' H' F' ι' x' r' q'
        cases q'
        exact ⟨i, rfl, hp _ H' F' ι' x' r' (.bl _)⟩
      · exact hp.elim
    · exact hp.elim
  · exact hp.elim
end
/-! ### a dict that is written, frozen at once -/
abbrev FP := DSt → Sto → Out (List (D × D))
def dnil : FP := fun _ s => .ok [] s
def dcons (φ ψ : FE) (π : FP) : FP := fun ds s => (φ ds s).bind fun x s => (ψ ds s).bind fun y s => (π ds s).bind fun ps s => .ok ((x, y) :: ps) s
def keysOf : List (D × D) → Option (List (Key × D))
  | [] => some []
  | (k, d) :: r => match keyOf k, keysOf r with
    | some q, some qs => if nc d = true then some ((q, d) :: qs) else none
    | _, _ => none
def putKD (kvs : List (Key × D)) (k : Key) (v : D) : List (Key × D) :=
  if (kvs.any fun kv => decide (kv.1 = k)) = true then kvs.map (fun kv => if kv.1 = k then (kv.1, v) else kv) else kvs ++ [(k, v)]
def mergeKD (kvs more : List (Key × D)) : List (Key × D) := more.foldl (fun acc kv => putKD acc kv.1 kv.2) kvs
def dictD (π : FP) : FE := fun ds s => (nb (π ds s)).bind fun ps s => match keysOf ps with
  | some kvs => if kvs.length ≤ 15 then .ok (.dic (mergeKD [] kvs)) s else .bad
  | none => .bad
section
variable {X : Cx} {K : PySem.W.Frag} {Γ : Nat → Addr} {W : WX} {F : Hp} {ι : List Addr} {pos : Pos}
inductive RpP (K : PySem.W.Frag) (Γ : Nat → Addr) (F : Hp) (ι : List Addr) : List (V × V) → List (D × D) → Prop
  | nil : RpP K Γ F ι [] []
  | cons {v u : V} {x y : D} {vs : List (V × V)} {xs : List (D × D)} : Rp K Γ F ι v x → Rp K Γ F ι u y → RpP K Γ F ι vs xs → RpP K Γ F ι ((v, u) :: vs) ((x, y) :: xs)
structure DP (X : Cx) (K : PySem.W.Frag) (Γ : Nat → Addr) (W : WX) (pos : Pos) (keys : List (Option Expr)) (values : List Expr) (trs : List (TE × TE)) (π : FP) : Prop where
  pp : PPs X pos keys values trs
  gd : GdX K Γ W (fun F ι vs xs => RpP K Γ F ι vs xs) (fun σ H Q => tPairs trs σ H Q) π
theorem dp_nil : DP X K Γ W pos [] [] [] dnil := ⟨pps_nil, fun σ H Q G F ι s ds hs hr hp => hp _ _ _ _ Ext.refl hr .nil⟩
theorem dp_cons {k v : Expr} {ks : List (Option Expr)} {vs : List Expr} {tk tv : TE} {trs : List (TE × TE)} {φ ψ : FE} {π : FP} (hk : DE X K Γ W k tk φ) (hv : DE X K Γ W v tv ψ) (hr : DP X K Γ W pos ks vs trs π) : DP X K Γ W pos (some k :: ks) (v :: vs) ((tk, tv) :: trs) (dcons φ ψ π) := by
  refine ⟨pps_cons hk.pe hv.pe hr.pp, fun σ H Q G F ι s ds hs hr0 hp => ?_⟩
  refine hk.gd.step hs hr0 hp fun x s1 v1 H1 F1 ι1 x1 r1 q1 hs1 hp1 => ?_
  refine hv.gd.step hs1 r1 hp1 fun y s2 v2 H2 F2 ι2 x2 r2 q2 hs2 hp2 => ?_
  refine hr.gd.step hs2 r2 hp2 fun ps s3 vs H3 F3 ι3 x3 r3 q3 hs3 hp3 => ?_
  exact hp3 _ _ _ _ Ext.refl r3 (.cons (q1.ext (x2.trans x3)) (q2.ext x3) q3)
theorem keysOf_rp : ∀ {vs : List (V × V)} {ps : List (D × D)} {kvs : List (Key × D)}, RpP K Γ F ι vs ps → keysOf ps = some kvs → ∃ ks : List (Key × V), vs = ks.map (fun kv => (kV kv.1, kv.2)) ∧ RpK K Γ F [] ks kvs ∧ ks.length = kvs.length
  | _, _, _, .nil, e => by cases e; exact ⟨[], rfl, .nil, rfl⟩
  | _, _, kvs, .cons (x := x) (y := y) (xs := xs) h1 h2 t, e => by
    unfold keysOf at e
    split at e
    · rename_i q qs e1 e2
      split at e
      · rename_i hn
        cases e
        obtain ⟨ks, rfl, g, hl⟩ := keysOf_rp t e2
        have ev := keyOf_rp h1 e1
        subst ev
        exact ⟨(q, _) :: ks, rfl, .cons (h2.fz hn) g, by simp [hl]⟩
      · cases e
    · cases e
theorem RpK.append : ∀ {vs ws : List (Key × V)} {ds es : List (Key × D)}, RpK K Γ F ι vs ds → RpK K Γ F ι ws es → RpK K Γ F ι (vs ++ ws) (ds ++ es)
  | _, _, _, _, .nil, g => g
  | _, _, _, _, .cons h t, g => .cons h (RpK.append t g)
theorem RpK.anyk {k : Key} : ∀ {vs : List (Key × V)} {ds : List (Key × D)}, RpK K Γ F ι vs ds → (vs.any fun kv => decide (kv.1 = k)) = (ds.any fun kv => decide (kv.1 = k))
  | _, _, .nil => rfl
  | _, _, .cons h t => by rw [List.any_cons, List.any_cons, RpK.anyk t]
theorem RpK.mapk {k : Key} {v : V} {d : D} (r : Rp K Γ F ι v d) : ∀ {vs : List (Key × V)} {ds : List (Key × D)}, RpK K Γ F ι vs ds → RpK K Γ F ι (vs.map fun kv => if kv.1 = k then (kv.1, v) else kv) (ds.map fun kv => if kv.1 = k then (kv.1, d) else kv)
  | _, _, .nil => .nil
  | _, _, .cons (k := k') h t => by
    rw [List.map_cons, List.map_cons]
    by_cases e : k' = k
    · rw [if_pos e, if_pos e]
      exact .cons r (RpK.mapk r t)
    · rw [if_neg e, if_neg e]
      exact .cons h (RpK.mapk r t)
theorem RpK.put {vs : List (Key × V)} {ds : List (Key × D)} (g : RpK K Γ F ι vs ds) {v : V} {d : D} (r : Rp K Γ F ι v d) (k : Key) : RpK K Γ F ι (putK vs k v) (putKD ds k d) := by
  unfold putK putKD
  rw [g.anyk]
  split
  · exact g.mapk r
  · exact g.append (.cons r .nil)
theorem RpK.merge : ∀ {more : List (Key × V)} {mds : List (Key × D)}, RpK K Γ F ι more mds → ∀ {vs : List (Key × V)} {ds : List (Key × D)}, RpK K Γ F ι vs ds → RpK K Γ F ι (mergeK vs more) (mergeKD ds mds)
  | _, _, .nil, _, _, g => g
  | _, _, .cons h t, _, _, g => RpK.merge t (g.put h _)
/-- what stands at its value is locked -/
def tFrz (te : TE) : TE := fun σ H Q => te σ H fun v H1 => ∃ d u, v = .ref d ∧ H1 d = some u ∧ Mut (some u) ∧ ∀ od, Q v (upd H1 d (.frz od u))
theorem pe_frz {e : Expr} {te : TE} (h : PE X e te) : PE X e (tFrz te) := by
  constructor
  intro pins s σ H Q I q
  refine thn (h.run pins s σ H _ I q) ?_
  rintro v s1 ⟨x, H1, I1, r1, d, u, rfl, hd, mu, k⟩
  obtain ⟨od, I2⟩ := I1.lock hd mu
  exact ⟨_, _, I2, r1, k od⟩
theorem de_dict {keys : List (Option Expr)} {values : List Expr} {trs : List (TE × TE)} {π : FP} (h : DP X K Γ W pos keys values trs π) (hall : keys.all (·.isSome) = true) (hl : keys.length = values.length) (h0 : keys ≠ []) (h15 : keys.length ≤ 15) : DE X K Γ W (.Dict keys values pos) (tFrz (tDisp trs)) (dictD π) := by
  refine ⟨pe_frz (pe_disp h.pp hall hl h0 h15), fun σ H Q G F ι s ds hs hr hp => ?_⟩
  intro p np
  unfold dictD at hp
  have r1 := hr.put (o := .dK []) np
  have nG : G p = none := same_newF hr.aside np
  refine h.gd σ _ _ (upd G p (.dK [])) F ι s ds hs r1 ?_
  cases e : π ds s with
  | bad => rw [e] at hp; exact hp
  | err c q s1 => rw [e] at hp; exact hp.elim
  | ok ps s1 =>
    rw [e] at hp
    intro vs H' F' ι' x r q
    obtain ⟨H3, n3, u3, r3, e3⟩ := r.back nG (fun b z => nomatch z) (fun z => nomatch z)
    have hp : Post K Γ W σ G F ι (RV K Γ) Q (match keysOf ps with | some kvs => if kvs.length ≤ 15 then .ok (.dic (mergeKD [] kvs)) s1 else .bad | none => .bad) := hp
    split at hp
    · rename_i kvs ek
      split at hp
      · rename_i h5
        obtain ⟨ks, rfl, g, hk⟩ := keysOf_rp q ek
        refine ⟨e3, ks, rfl, by rw [hk]; exact h5, p, _, rfl, upd_same, trivial, fun od => ?_⟩
        rw [upd_upd, ← u3]
        obtain ⟨r4, x4⟩ := r3.new (o := .frz od (.dK (mergeK [] ks))) n3
        exact hp _ _ _ _ (x.trans x4) r4 (.dK upd_same ((g.merge .nil).ext x4.nil))
      · exact hp.elim
    · exact hp.elim
theorem de_dict0 : DE X K Γ W (.Dict [] [] pos) (tFrz tDNewK) (cD (.dic [])) := by
  refine ⟨pe_frz pe_dnewK, fun σ H Q G F ι s ds hs hr hp p np => ⟨p, _, rfl, upd_same, trivial, fun od => ?_⟩⟩
  rw [upd_upd]
  obtain ⟨r4, x4⟩ := hr.new (o := .frz od (.dK [])) np
  exact hp _ _ _ _ x4 r4 (.dK upd_same .nil)
end
end Md

set_option Elab.async false
set_option maxRecDepth 100000
set_option maxHeartbeats 4000000
set_option linter.all false
/-! the mirror layer: evaluation by frames, head first -/
namespace Md
open PySem PySem.Spec PyProof.Rows L2
section
variable {α β : Type} {ds : DSt} {s : Sto}
theorem e_bind_ok (a : α) (f : α → Sto → Out β) : (Out.ok a s).bind f = f a s := rfl
theorem e_bind_err {n : Nat} {p : Option (Str × D)} (f : α → Sto → Out β) : (Out.err n p s : Out α).bind f = .err n p s := rfl
theorem e_bindX (φ : DSt → Sto → Out α) (k : DSt → α → Sto → Out β) : bindX φ k ds s = (φ ds s).bind (k ds) := rfl
def seqO (b : FS) (o : SOut) : SOut := match o with
  | .nx ds s => b ds s
  | o => o
theorem e_seq (a b : FS) : seqS a b ds s = seqO b (a ds s) := by
  cases h : a ds s <;> simp only [seqS, seqO, h]
theorem e_seqO_nx (b : FS) : seqO b (.nx ds s) = b ds s := rfl
theorem e_seqO_rt (b : FS) {d : D} : seqO b (.rt d s) = .rt d s := rfl
theorem e_seqO_bk (b : FS) : seqO b (.bk ds s) = .bk ds s := rfl
theorem e_seqO_ct (b : FS) : seqO b (.ct ds s) = .ct ds s := rfl
theorem e_seqO_err (b : FS) {n : Nat} {p : Option (Str × D)} : seqO b (.err n p ds s) = .err n p ds s := rfl
theorem e_nil : nilS ds s = .nx ds s := rfl
theorem e_brk : brkS ds s = .bk ds s := rfl
theorem e_cnt : cntS ds s = .ct ds s := rfl
theorem e_retN : retN ds s = .rt .non s := rfl
def exprB (ds : DSt) (o : Out D) : SOut := match o with
  | .ok _ s => .nx ds s
  | .err c p s => .err c p ds s
  | _ => .bad
theorem e_expr (φ : FE) : exprS φ ds s = exprB ds (φ ds s) := by
  unfold exprS exprB bindS
  cases φ ds s <;> rfl
theorem e_exprB {d : D} : exprB ds (.ok d s) = .nx ds s := rfl
theorem e_exprB_err {n : Nat} {p : Option (Str × D)} : exprB ds (.err n p s) = .err n p ds s := rfl
def retB (ds : DSt) (o : Out D) : SOut := match o with
  | .ok d s => .rt d s
  | .err c p s => .err c p ds s
  | _ => .bad
theorem e_ret (φ : FE) : retS φ ds s = retB ds (φ ds s) := by
  unfold retS retB bindS
  cases φ ds s <;> rfl
theorem e_retB {d : D} : retB ds (.ok d s) = .rt d s := rfl
theorem e_retB_err {n : Nat} {p : Option (Str × D)} : retB ds (.err n p s) = .err n p ds s := rfl
def ifB (a b : FS) (ds : DSt) (o : Out Bool) : SOut := match o with
  | .ok true s => a ds s
  | .ok false s => b ds s
  | .err c p s => .err c p ds s
  | _ => .bad
theorem e_if (μ : FT) (a b : FS) : ifS μ a b ds s = ifB a b ds (μ ds s) := by
  unfold ifS ifB bindS
  cases μ ds s <;> first | rfl | (rename_i c _; cases c <;> rfl)
theorem e_ifB_t (a b : FS) : ifB a b ds (.ok true s) = a ds s := rfl
theorem e_ifB_f (a b : FS) : ifB a b ds (.ok false s) = b ds s := rfl
theorem e_ifB_err (a b : FS) {n : Nat} {p : Option (Str × D)} : ifB a b ds (.err n p s) = .err n p ds s := rfl
def asgO (γ : Option DSt) (s : Sto) : SOut := match γ with
  | some ds => .nx ds s
  | none => .bad
def asgB (γ : FG) (ds : DSt) (o : Out D) : SOut := match o with
  | .ok d s => asgO (γ d ds) s
  | .err c p s => .err c p ds s
  | _ => .bad
theorem e_asg (φ : FE) (γ : FG) : asgS φ γ ds s = asgB γ ds (φ ds s) := by
  unfold asgS asgB bindS asgO
  cases φ ds s <;> rfl
theorem e_asgB (γ : FG) {d : D} : asgB γ ds (.ok d s) = asgO (γ d ds) s := rfl
theorem e_asgB_err (γ : FG) {n : Nat} {p : Option (Str × D)} : asgB γ ds (.err n p s) = .err n p ds s := rfl
theorem e_asgO : asgO (some ds) s = .nx ds s := rfl
theorem e_name {i : Nat} {d : D} : nameG i d ds = some (ds.set i (some d)) := rfl
theorem e_nilG : nilG [] ds = some ds := rfl
def consE (δ : List D → DSt → Option DSt) (r : List D) (o : Option DSt) : Option DSt := match o with
  | some ds => δ r ds
  | none => none
theorem e_consG (γ : FG) (δ : List D → DSt → Option DSt) (x : D) (r : List D) : consG γ δ (x :: r) ds = consE δ r (γ x ds) := rfl
theorem e_consE (δ : List D → DSt → Option DSt) (r : List D) : consE δ r (some ds) = δ r ds := rfl
theorem e_tupG (n : Nat) (δ : List D → DSt → Option DSt) (es : List D) : tupG n δ (.tup es) ds = if es.length = n then δ es ds else none := rfl
def parE (i j : Nat) (ds : DSt) (o : Out (List D)) : SOut := match o with
  | .ok [x, y] s => .nx ((ds.set i (some x)).set j (some y)) s
  | .err c p s => .err c p ds s
  | _ => .bad
theorem e_par (i j : Nat) (ψ : FA) : parS i j ψ ds s = parE i j ds (ψ ds s) := by
  unfold parS parE bindS
  cases ψ ds s <;> first | rfl | skip
  rename_i xs _
  match xs with
  | [] => rfl
  | [_] => rfl
  | [_, _] => rfl
  | _ :: _ :: _ :: _ => rfl
theorem e_parE (i j : Nat) {x y : D} : parE i j ds (.ok [x, y] s) = .nx ((ds.set i (some x)).set j (some y)) s := rfl
def par3E (i j l : Nat) (ds : DSt) (o : Out (List D)) : SOut := match o with
  | .ok [x, y, z] s => .nx (((ds.set i (some x)).set j (some y)).set l (some z)) s
  | .err c p s => .err c p ds s
  | _ => .bad
theorem e_par3 (i j l : Nat) (ψ : FA) : par3S i j l ψ ds s = par3E i j l ds (ψ ds s) := by
  unfold par3S par3E bindS
  cases ψ ds s <;> first | rfl | skip
  rename_i xs _
  match xs with
  | [] => rfl
  | [_] => rfl
  | [_, _] => rfl
  | [_, _, _] => rfl
  | _ :: _ :: _ :: _ :: _ => rfl
theorem e_par3E (i j l : Nat) {x y z : D} : par3E i j l ds (.ok [x, y, z] s) = .nx (((ds.set i (some x)).set j (some y)).set l (some z)) s := rfl
theorem e_var0 {d : D} : varD 0 (some d :: ds) s = .ok d s := rfl
theorem e_varS {n : Nat} {x : Option D} : varD (n + 1) (x :: ds) s = varD n ds s := rfl
theorem e_c {d : D} : cD d ds s = .ok d s := rfl
theorem e_nilD : nilD ds s = .ok [] s := rfl
def consC (x : D) (o : Out (List D)) : Out (List D) := match o with
  | .ok xs s => .ok (x :: xs) s
  | .err c p s => .err c p s
  | _ => .bad
def consB (ψ : FA) (ds : DSt) (o : Out D) : Out (List D) := match o with
  | .ok x s => consC x (ψ ds s)
  | .err c p s => .err c p s
  | _ => .bad
theorem e_cons (φ : FE) (ψ : FA) : consD φ ψ ds s = consB ψ ds (φ ds s) := by
  simp only [consD, bindX, consB]
  cases φ ds s <;> first | rfl | skip
  rename_i x s1
  simp only [Out.bind, consC]
  cases ψ ds s1 <;> rfl
theorem e_consB (ψ : FA) {x : D} : consB ψ ds (.ok x s) = consC x (ψ ds s) := rfl
theorem e_consB_err (ψ : FA) {n : Nat} {p : Option (Str × D)} : consB ψ ds (.err n p s) = .err n p s := rfl
theorem e_consC {x : D} {xs : List D} : consC x (.ok xs s) = .ok (x :: xs) s := rfl
theorem e_consC_err {x : D} {n : Nat} {p : Option (Str × D)} : consC x (.err n p s) = .err n p s := rfl
def opC (f : D → D → Sto → Out D) (x : D) (o : Out D) : Out D := match o with
  | .ok y s => f x y s
  | .err c p s => .err c p s
  | _ => .bad
def opB (f : D → D → Sto → Out D) (ψ : FE) (ds : DSt) (o : Out D) : Out D := match o with
  | .ok x s => opC f x (ψ ds s)
  | .err c p s => .err c p s
  | _ => .bad
theorem e_op2 (f : D → D → Sto → Out D) (φ ψ : FE) : op2 f φ ψ ds s = opB f ψ ds (φ ds s) := by
  simp only [op2, bindX, opB]
  cases φ ds s <;> first | rfl | skip
  rename_i x s1
  simp only [Out.bind, opC]
  cases ψ ds s1 <;> rfl
theorem e_opB (f : D → D → Sto → Out D) (ψ : FE) {x : D} : opB f ψ ds (.ok x s) = opC f x (ψ ds s) := rfl
theorem e_opB_err (f : D → D → Sto → Out D) (ψ : FE) {n : Nat} {p : Option (Str × D)} : opB f ψ ds (.err n p s) = .err n p s := rfl
theorem e_opC (f : D → D → Sto → Out D) {x y : D} : opC f x (.ok y s) = f x y s := rfl
theorem e_opC_err (f : D → D → Sto → Out D) {x : D} {n : Nat} {p : Option (Str × D)} : opC f x (.err n p s) = .err n p s := rfl
def asB (d : D) (s : Sto) : Out Bool := match d with
  | .bl b => .ok b s
  | _ => .bad
theorem e_test (φ : FE) : testD φ ds s = (φ ds s).bind asB := by
  unfold testD bindX
  cases φ ds s <;> first | rfl | (rename_i x _; cases x <;> rfl)
theorem e_asB (b : Bool) : asB (.bl b) s = .ok b s := rfl
theorem e_not (b : Bool) : notD (.bl b) s = .ok (.bl (!b)) s := rfl
theorem e_neg (i : Int) : negD (.int i) s = .ok (.int (-i)) s := rfl
def andB (ψ : FE) (ds : DSt) (o : Out D) : Out D := match o with
  | .ok (.bl true) s => ψ ds s
  | .ok (.bl false) s => .ok (.bl false) s
  | .err c p s => .err c p s
  | _ => .bad
theorem e_and (φ ψ : FE) : andD φ ψ ds s = andB ψ ds (φ ds s) := by
  unfold andD bindX andB Out.bind
  cases φ ds s <;> first | rfl | skip
  rename_i x s1
  cases x <;> first | rfl | (rename_i b; cases b <;> rfl)
theorem e_andB_go (ψ : FE) : andB ψ ds (.ok (.bl true) s) = ψ ds s := rfl
theorem e_andB_st (ψ : FE) : andB ψ ds (.ok (.bl false) s) = .ok (.bl false) s := rfl
theorem e_andB_err (ψ : FE) {n : Nat} {p : Option (Str × D)} : andB ψ ds (.err n p s) = .err n p s := rfl
def andT' (ψ : FT) (ds : DSt) (o : Out Bool) : Out Bool := match o with
  | .ok true s => ψ ds s
  | .ok false s => .ok false s
  | .err c p s => .err c p s
  | _ => .bad
theorem e_andT (φ ψ : FT) : andT φ ψ ds s = andT' ψ ds (φ ds s) := by
  unfold andT bindX andT' Out.bind
  cases φ ds s <;> first | rfl | skip
  rename_i x s1
  cases x <;> rfl
theorem e_andT_go (ψ : FT) : andT' ψ ds (.ok true s) = ψ ds s := rfl
theorem e_andT_st (ψ : FT) : andT' ψ ds (.ok false s) = .ok false s := rfl
theorem e_andT_err (ψ : FT) {n : Nat} {p : Option (Str × D)} : andT' ψ ds (.err n p s) = .err n p s := rfl
def orB (ψ : FE) (ds : DSt) (o : Out D) : Out D := match o with
  | .ok (.bl false) s => ψ ds s
  | .ok (.bl true) s => .ok (.bl true) s
  | .err c p s => .err c p s
  | _ => .bad
theorem e_or (φ ψ : FE) : orD φ ψ ds s = orB ψ ds (φ ds s) := by
  unfold orD bindX orB Out.bind
  cases φ ds s <;> first | rfl | skip
  rename_i x s1
  cases x <;> first | rfl | (rename_i b; cases b <;> rfl)
theorem e_orB_go (ψ : FE) : orB ψ ds (.ok (.bl false) s) = ψ ds s := rfl
theorem e_orB_st (ψ : FE) : orB ψ ds (.ok (.bl true) s) = .ok (.bl true) s := rfl
theorem e_orB_err (ψ : FE) {n : Nat} {p : Option (Str × D)} : orB ψ ds (.err n p s) = .err n p s := rfl
def orT' (ψ : FT) (ds : DSt) (o : Out Bool) : Out Bool := match o with
  | .ok false s => ψ ds s
  | .ok true s => .ok true s
  | .err c p s => .err c p s
  | _ => .bad
theorem e_orT (φ ψ : FT) : orT φ ψ ds s = orT' ψ ds (φ ds s) := by
  unfold orT bindX orT' Out.bind
  cases φ ds s <;> first | rfl | skip
  rename_i x s1
  cases x <;> rfl
theorem e_orT_go (ψ : FT) : orT' ψ ds (.ok false s) = ψ ds s := rfl
theorem e_orT_st (ψ : FT) : orT' ψ ds (.ok true s) = .ok true s := rfl
theorem e_orT_err (ψ : FT) {n : Nat} {p : Option (Str × D)} : orT' ψ ds (.err n p s) = .err n p s := rfl
def notE (b : Bool) (s : Sto) : Out Bool := .ok (!b) s
theorem e_notT (φ : FT) : notT φ ds s = (φ ds s).bind notE := rfl
theorem e_notE (b : Bool) : notE b s = .ok (!b) s := rfl
def ifE (φ ψ : FE) (ds : DSt) (o : Out Bool) : Out D := match o with
  | .ok true s => φ ds s
  | .ok false s => ψ ds s
  | .err c p s => .err c p s
  | _ => .bad
theorem e_ifD (μ : FT) (φ ψ : FE) : ifD μ φ ψ ds s = ifE φ ψ ds (μ ds s) := by
  unfold ifD bindX ifE Out.bind
  cases μ ds s <;> first | rfl | skip
  rename_i x s1
  cases x <;> rfl
theorem e_ifE_t (φ ψ : FE) : ifE φ ψ ds (.ok true s) = φ ds s := rfl
theorem e_ifE_f (φ ψ : FE) : ifE φ ψ ds (.ok false s) = ψ ds s := rfl
theorem e_ifE_err (φ ψ : FE) {n : Nat} {p : Option (Str × D)} : ifE φ ψ ds (.err n p s) = .err n p s := rfl
theorem e_yes : yesD ds s = .ok true s := rfl
def chE (f' : D → D → Sto → Out D) (χ : FE) (y : D) (ds : DSt) (o : Out D) : Out D := match o with
  | .ok (.bl true) s => opC f' y (χ ds s)
  | .ok (.bl false) s => .ok (.bl false) s
  | .err c p s => .err c p s
  | _ => .bad
def chC (f f' : D → D → Sto → Out D) (χ : FE) (x : D) (ds : DSt) (o : Out D) : Out D := match o with
  | .ok y s => chE f' χ y ds (f x y s)
  | .err c p s => .err c p s
  | _ => .bad
def chB (f f' : D → D → Sto → Out D) (ψ χ : FE) (ds : DSt) (o : Out D) : Out D := match o with
  | .ok x s => chC f f' χ x ds (ψ ds s)
  | .err c p s => .err c p s
  | _ => .bad
theorem e_chain (f f' : D → D → Sto → Out D) (φ ψ χ : FE) : chainD f f' φ ψ χ ds s = chB f f' ψ χ ds (φ ds s) := by
  unfold chainD bindX chB
  cases φ ds s <;> first | rfl | skip
  rename_i x s1
  simp only [Out.bind, chC]
  cases ψ ds s1 <;> first | rfl | skip
  rename_i y s2
  simp only [Out.bind, chE]
  cases f x y s2 <;> first | rfl | skip
  rename_i z s3
  simp only
  cases z <;> first | rfl | skip
  rename_i b
  cases b <;> first | rfl | skip
  simp only [opC]
  cases χ ds s3 <;> rfl
theorem e_chB (f f' : D → D → Sto → Out D) (ψ χ : FE) {x : D} : chB f f' ψ χ ds (.ok x s) = chC f f' χ x ds (ψ ds s) := rfl
theorem e_chC (f f' : D → D → Sto → Out D) (χ : FE) {x y : D} : chC f f' χ x ds (.ok y s) = chE f' χ y ds (f x y s) := rfl
theorem e_chE_t (f' : D → D → Sto → Out D) (χ : FE) {y : D} : chE f' χ y ds (.ok (.bl true) s) = opC f' y (χ ds s) := rfl
theorem e_chE_f (f' : D → D → Sto → Out D) (χ : FE) {y : D} : chE f' χ y ds (.ok (.bl false) s) = .ok (.bl false) s := rfl
def tupE (xs : List D) (s : Sto) : Out D := if (decide (xs.length ≤ sizeLine) && ncA xs) = true then .ok (.tup xs) s else .bad
def lstE (xs : List D) (s : Sto) : Out D := if (decide (xs.length ≤ sizeLine) && ncA xs) = true then .ok (.lst xs) s else .bad
def lstCE (xs : List D) (s : Sto) : Out D := if (decide (xs.length ≤ sizeLine) && ncA xs) = true then .ok (.cell s.length) (s ++ [.lst xs]) else .bad
theorem szn {n : Nat} (h : n ≤ 1000) : decide (n ≤ sizeLine) = true := decide_eq_true (Nat.le_trans h (by decide +kernel))
theorem e_tup (ψ : FA) : tupD ψ ds s = (ψ ds s).bind tupE := rfl
theorem e_lst (ψ : FA) : lstD ψ ds s = (ψ ds s).bind lstE := rfl
theorem e_lstC (ψ : FA) : lstC ψ ds s = (ψ ds s).bind lstCE := rfl
theorem tupE_eq {xs : List D} (h : xs.length ≤ 1000) (hn : ncA xs = true) : tupE xs s = .ok (.tup xs) s := by
  unfold tupE
  rw [szn h, hn]
  rfl
theorem lstE_eq {xs : List D} (h : xs.length ≤ 1000) (hn : ncA xs = true) : lstE xs s = .ok (.lst xs) s := by
  unfold lstE
  rw [szn h, hn]
  rfl
theorem lstCE_eq {xs : List D} (h : xs.length ≤ 1000) (hn : ncA xs = true) : lstCE xs s = .ok (.cell s.length) (s ++ [.lst xs]) := by
  unfold lstCE
  rw [szn h, hn]
  rfl
theorem dsp1 {x : D} {xs : List D} (h : xs.length ≤ 999 ∧ ncA xs = true) (hx : nc x = true) : (x :: xs).length ≤ 1000 ∧ ncA (x :: xs) = true := ⟨by rw [List.length_cons]; omega, by show (nc x && ncA xs) = true; rw [hx, h.2]; rfl⟩
theorem e_tupE0  : tupE [] s = .ok (.tup []) s := tupE_eq (by decide) rfl
theorem e_lstE0  : lstE [] s = .ok (.lst []) s := lstE_eq (by decide) rfl
theorem e_lstCE0  : lstCE [] s = .ok (.cell s.length) (s ++ [.lst []]) := lstCE_eq (by decide) rfl
theorem e_tupE1 {x0 : D} (h0 : nc x0 = true) : tupE [x0] s = .ok (.tup [x0]) s := tupE_eq (by simp only [List.length_cons, List.length_nil]; omega) (by simp only [ncA, List.all_cons, List.all_nil, Bool.and_true, h0])
theorem e_lstE1 {x0 : D} (h0 : nc x0 = true) : lstE [x0] s = .ok (.lst [x0]) s := lstE_eq (by simp only [List.length_cons, List.length_nil]; omega) (by simp only [ncA, List.all_cons, List.all_nil, Bool.and_true, h0])
theorem e_lstCE1 {x0 : D} (h0 : nc x0 = true) : lstCE [x0] s = .ok (.cell s.length) (s ++ [.lst [x0]]) := lstCE_eq (by simp only [List.length_cons, List.length_nil]; omega) (by simp only [ncA, List.all_cons, List.all_nil, Bool.and_true, h0])
theorem e_tupE2 {x0 x1 : D} (h0 : nc x0 = true) (h1 : nc x1 = true) : tupE [x0, x1] s = .ok (.tup [x0, x1]) s := tupE_eq (by simp only [List.length_cons, List.length_nil]; omega) (by simp only [ncA, List.all_cons, List.all_nil, Bool.and_true, h0, h1])
theorem e_lstE2 {x0 x1 : D} (h0 : nc x0 = true) (h1 : nc x1 = true) : lstE [x0, x1] s = .ok (.lst [x0, x1]) s := lstE_eq (by simp only [List.length_cons, List.length_nil]; omega) (by simp only [ncA, List.all_cons, List.all_nil, Bool.and_true, h0, h1])
theorem e_lstCE2 {x0 x1 : D} (h0 : nc x0 = true) (h1 : nc x1 = true) : lstCE [x0, x1] s = .ok (.cell s.length) (s ++ [.lst [x0, x1]]) := lstCE_eq (by simp only [List.length_cons, List.length_nil]; omega) (by simp only [ncA, List.all_cons, List.all_nil, Bool.and_true, h0, h1])
theorem e_tupE3 {x0 x1 x2 : D} (h0 : nc x0 = true) (h1 : nc x1 = true) (h2 : nc x2 = true) : tupE [x0, x1, x2] s = .ok (.tup [x0, x1, x2]) s := tupE_eq (by simp only [List.length_cons, List.length_nil]; omega) (by simp only [ncA, List.all_cons, List.all_nil, Bool.and_true, h0, h1, h2])
theorem e_lstE3 {x0 x1 x2 : D} (h0 : nc x0 = true) (h1 : nc x1 = true) (h2 : nc x2 = true) : lstE [x0, x1, x2] s = .ok (.lst [x0, x1, x2]) s := lstE_eq (by simp only [List.length_cons, List.length_nil]; omega) (by simp only [ncA, List.all_cons, List.all_nil, Bool.and_true, h0, h1, h2])
theorem e_lstCE3 {x0 x1 x2 : D} (h0 : nc x0 = true) (h1 : nc x1 = true) (h2 : nc x2 = true) : lstCE [x0, x1, x2] s = .ok (.cell s.length) (s ++ [.lst [x0, x1, x2]]) := lstCE_eq (by simp only [List.length_cons, List.length_nil]; omega) (by simp only [ncA, List.all_cons, List.all_nil, Bool.and_true, h0, h1, h2])
theorem e_tupE4 {x0 x1 x2 x3 : D} (h0 : nc x0 = true) (h1 : nc x1 = true) (h2 : nc x2 = true) (h3 : nc x3 = true) : tupE [x0, x1, x2, x3] s = .ok (.tup [x0, x1, x2, x3]) s := tupE_eq (by simp only [List.length_cons, List.length_nil]; omega) (by simp only [ncA, List.all_cons, List.all_nil, Bool.and_true, h0, h1, h2, h3])
theorem e_lstE4 {x0 x1 x2 x3 : D} (h0 : nc x0 = true) (h1 : nc x1 = true) (h2 : nc x2 = true) (h3 : nc x3 = true) : lstE [x0, x1, x2, x3] s = .ok (.lst [x0, x1, x2, x3]) s := lstE_eq (by simp only [List.length_cons, List.length_nil]; omega) (by simp only [ncA, List.all_cons, List.all_nil, Bool.and_true, h0, h1, h2, h3])
theorem e_lstCE4 {x0 x1 x2 x3 : D} (h0 : nc x0 = true) (h1 : nc x1 = true) (h2 : nc x2 = true) (h3 : nc x3 = true) : lstCE [x0, x1, x2, x3] s = .ok (.cell s.length) (s ++ [.lst [x0, x1, x2, x3]]) := lstCE_eq (by simp only [List.length_cons, List.length_nil]; omega) (by simp only [ncA, List.all_cons, List.all_nil, Bool.and_true, h0, h1, h2, h3])
theorem e_tupE5 {x0 x1 x2 x3 x4 : D} (h0 : nc x0 = true) (h1 : nc x1 = true) (h2 : nc x2 = true) (h3 : nc x3 = true) (h4 : nc x4 = true) : tupE [x0, x1, x2, x3, x4] s = .ok (.tup [x0, x1, x2, x3, x4]) s := tupE_eq (by simp only [List.length_cons, List.length_nil]; omega) (by simp only [ncA, List.all_cons, List.all_nil, Bool.and_true, h0, h1, h2, h3, h4])
theorem e_lstE5 {x0 x1 x2 x3 x4 : D} (h0 : nc x0 = true) (h1 : nc x1 = true) (h2 : nc x2 = true) (h3 : nc x3 = true) (h4 : nc x4 = true) : lstE [x0, x1, x2, x3, x4] s = .ok (.lst [x0, x1, x2, x3, x4]) s := lstE_eq (by simp only [List.length_cons, List.length_nil]; omega) (by simp only [ncA, List.all_cons, List.all_nil, Bool.and_true, h0, h1, h2, h3, h4])
theorem e_lstCE5 {x0 x1 x2 x3 x4 : D} (h0 : nc x0 = true) (h1 : nc x1 = true) (h2 : nc x2 = true) (h3 : nc x3 = true) (h4 : nc x4 = true) : lstCE [x0, x1, x2, x3, x4] s = .ok (.cell s.length) (s ++ [.lst [x0, x1, x2, x3, x4]]) := lstCE_eq (by simp only [List.length_cons, List.length_nil]; omega) (by simp only [ncA, List.all_cons, List.all_nil, Bool.and_true, h0, h1, h2, h3, h4])
theorem e_tupE6 {x0 x1 x2 x3 x4 x5 : D} (h0 : nc x0 = true) (h1 : nc x1 = true) (h2 : nc x2 = true) (h3 : nc x3 = true) (h4 : nc x4 = true) (h5 : nc x5 = true) : tupE [x0, x1, x2, x3, x4, x5] s = .ok (.tup [x0, x1, x2, x3, x4, x5]) s := tupE_eq (by simp only [List.length_cons, List.length_nil]; omega) (by simp only [ncA, List.all_cons, List.all_nil, Bool.and_true, h0, h1, h2, h3, h4, h5])
theorem e_lstE6 {x0 x1 x2 x3 x4 x5 : D} (h0 : nc x0 = true) (h1 : nc x1 = true) (h2 : nc x2 = true) (h3 : nc x3 = true) (h4 : nc x4 = true) (h5 : nc x5 = true) : lstE [x0, x1, x2, x3, x4, x5] s = .ok (.lst [x0, x1, x2, x3, x4, x5]) s := lstE_eq (by simp only [List.length_cons, List.length_nil]; omega) (by simp only [ncA, List.all_cons, List.all_nil, Bool.and_true, h0, h1, h2, h3, h4, h5])
theorem e_lstCE6 {x0 x1 x2 x3 x4 x5 : D} (h0 : nc x0 = true) (h1 : nc x1 = true) (h2 : nc x2 = true) (h3 : nc x3 = true) (h4 : nc x4 = true) (h5 : nc x5 = true) : lstCE [x0, x1, x2, x3, x4, x5] s = .ok (.cell s.length) (s ++ [.lst [x0, x1, x2, x3, x4, x5]]) := lstCE_eq (by simp only [List.length_cons, List.length_nil]; omega) (by simp only [ncA, List.all_cons, List.all_nil, Bool.and_true, h0, h1, h2, h3, h4, h5])
theorem e_tupE7 {x0 x1 x2 x3 x4 x5 x6 : D} (h0 : nc x0 = true) (h1 : nc x1 = true) (h2 : nc x2 = true) (h3 : nc x3 = true) (h4 : nc x4 = true) (h5 : nc x5 = true) (h6 : nc x6 = true) : tupE [x0, x1, x2, x3, x4, x5, x6] s = .ok (.tup [x0, x1, x2, x3, x4, x5, x6]) s := tupE_eq (by simp only [List.length_cons, List.length_nil]; omega) (by simp only [ncA, List.all_cons, List.all_nil, Bool.and_true, h0, h1, h2, h3, h4, h5, h6])
theorem e_lstE7 {x0 x1 x2 x3 x4 x5 x6 : D} (h0 : nc x0 = true) (h1 : nc x1 = true) (h2 : nc x2 = true) (h3 : nc x3 = true) (h4 : nc x4 = true) (h5 : nc x5 = true) (h6 : nc x6 = true) : lstE [x0, x1, x2, x3, x4, x5, x6] s = .ok (.lst [x0, x1, x2, x3, x4, x5, x6]) s := lstE_eq (by simp only [List.length_cons, List.length_nil]; omega) (by simp only [ncA, List.all_cons, List.all_nil, Bool.and_true, h0, h1, h2, h3, h4, h5, h6])
theorem e_lstCE7 {x0 x1 x2 x3 x4 x5 x6 : D} (h0 : nc x0 = true) (h1 : nc x1 = true) (h2 : nc x2 = true) (h3 : nc x3 = true) (h4 : nc x4 = true) (h5 : nc x5 = true) (h6 : nc x6 = true) : lstCE [x0, x1, x2, x3, x4, x5, x6] s = .ok (.cell s.length) (s ++ [.lst [x0, x1, x2, x3, x4, x5, x6]]) := lstCE_eq (by simp only [List.length_cons, List.length_nil]; omega) (by simp only [ncA, List.all_cons, List.all_nil, Bool.and_true, h0, h1, h2, h3, h4, h5, h6])
theorem e_tupE8 {x0 x1 x2 x3 x4 x5 x6 x7 : D} (h0 : nc x0 = true) (h1 : nc x1 = true) (h2 : nc x2 = true) (h3 : nc x3 = true) (h4 : nc x4 = true) (h5 : nc x5 = true) (h6 : nc x6 = true) (h7 : nc x7 = true) : tupE [x0, x1, x2, x3, x4, x5, x6, x7] s = .ok (.tup [x0, x1, x2, x3, x4, x5, x6, x7]) s := tupE_eq (by simp only [List.length_cons, List.length_nil]; omega) (by simp only [ncA, List.all_cons, List.all_nil, Bool.and_true, h0, h1, h2, h3, h4, h5, h6, h7])
theorem e_lstE8 {x0 x1 x2 x3 x4 x5 x6 x7 : D} (h0 : nc x0 = true) (h1 : nc x1 = true) (h2 : nc x2 = true) (h3 : nc x3 = true) (h4 : nc x4 = true) (h5 : nc x5 = true) (h6 : nc x6 = true) (h7 : nc x7 = true) : lstE [x0, x1, x2, x3, x4, x5, x6, x7] s = .ok (.lst [x0, x1, x2, x3, x4, x5, x6, x7]) s := lstE_eq (by simp only [List.length_cons, List.length_nil]; omega) (by simp only [ncA, List.all_cons, List.all_nil, Bool.and_true, h0, h1, h2, h3, h4, h5, h6, h7])
theorem e_lstCE8 {x0 x1 x2 x3 x4 x5 x6 x7 : D} (h0 : nc x0 = true) (h1 : nc x1 = true) (h2 : nc x2 = true) (h3 : nc x3 = true) (h4 : nc x4 = true) (h5 : nc x5 = true) (h6 : nc x6 = true) (h7 : nc x7 = true) : lstCE [x0, x1, x2, x3, x4, x5, x6, x7] s = .ok (.cell s.length) (s ++ [.lst [x0, x1, x2, x3, x4, x5, x6, x7]]) := lstCE_eq (by simp only [List.length_cons, List.length_nil]; omega) (by simp only [ncA, List.all_cons, List.all_nil, Bool.and_true, h0, h1, h2, h3, h4, h5, h6, h7])
theorem e_tupE9 {x0 x1 x2 x3 x4 x5 x6 x7 x8 : D} (h0 : nc x0 = true) (h1 : nc x1 = true) (h2 : nc x2 = true) (h3 : nc x3 = true) (h4 : nc x4 = true) (h5 : nc x5 = true) (h6 : nc x6 = true) (h7 : nc x7 = true) (h8 : nc x8 = true) : tupE [x0, x1, x2, x3, x4, x5, x6, x7, x8] s = .ok (.tup [x0, x1, x2, x3, x4, x5, x6, x7, x8]) s := tupE_eq (by simp only [List.length_cons, List.length_nil]; omega) (by simp only [ncA, List.all_cons, List.all_nil, Bool.and_true, h0, h1, h2, h3, h4, h5, h6, h7, h8])
theorem e_lstE9 {x0 x1 x2 x3 x4 x5 x6 x7 x8 : D} (h0 : nc x0 = true) (h1 : nc x1 = true) (h2 : nc x2 = true) (h3 : nc x3 = true) (h4 : nc x4 = true) (h5 : nc x5 = true) (h6 : nc x6 = true) (h7 : nc x7 = true) (h8 : nc x8 = true) : lstE [x0, x1, x2, x3, x4, x5, x6, x7, x8] s = .ok (.lst [x0, x1, x2, x3, x4, x5, x6, x7, x8]) s := lstE_eq (by simp only [List.length_cons, List.length_nil]; omega) (by simp only [ncA, List.all_cons, List.all_nil, Bool.and_true, h0, h1, h2, h3, h4, h5, h6, h7, h8])
theorem e_lstCE9 {x0 x1 x2 x3 x4 x5 x6 x7 x8 : D} (h0 : nc x0 = true) (h1 : nc x1 = true) (h2 : nc x2 = true) (h3 : nc x3 = true) (h4 : nc x4 = true) (h5 : nc x5 = true) (h6 : nc x6 = true) (h7 : nc x7 = true) (h8 : nc x8 = true) : lstCE [x0, x1, x2, x3, x4, x5, x6, x7, x8] s = .ok (.cell s.length) (s ++ [.lst [x0, x1, x2, x3, x4, x5, x6, x7, x8]]) := lstCE_eq (by simp only [List.length_cons, List.length_nil]; omega) (by simp only [ncA, List.all_cons, List.all_nil, Bool.and_true, h0, h1, h2, h3, h4, h5, h6, h7, h8])
theorem e_tupE10 {x0 x1 x2 x3 x4 x5 x6 x7 x8 x9 : D} (h0 : nc x0 = true) (h1 : nc x1 = true) (h2 : nc x2 = true) (h3 : nc x3 = true) (h4 : nc x4 = true) (h5 : nc x5 = true) (h6 : nc x6 = true) (h7 : nc x7 = true) (h8 : nc x8 = true) (h9 : nc x9 = true) : tupE [x0, x1, x2, x3, x4, x5, x6, x7, x8, x9] s = .ok (.tup [x0, x1, x2, x3, x4, x5, x6, x7, x8, x9]) s := tupE_eq (by simp only [List.length_cons, List.length_nil]; omega) (by simp only [ncA, List.all_cons, List.all_nil, Bool.and_true, h0, h1, h2, h3, h4, h5, h6, h7, h8, h9])
theorem e_lstE10 {x0 x1 x2 x3 x4 x5 x6 x7 x8 x9 : D} (h0 : nc x0 = true) (h1 : nc x1 = true) (h2 : nc x2 = true) (h3 : nc x3 = true) (h4 : nc x4 = true) (h5 : nc x5 = true) (h6 : nc x6 = true) (h7 : nc x7 = true) (h8 : nc x8 = true) (h9 : nc x9 = true) : lstE [x0, x1, x2, x3, x4, x5, x6, x7, x8, x9] s = .ok (.lst [x0, x1, x2, x3, x4, x5, x6, x7, x8, x9]) s := lstE_eq (by simp only [List.length_cons, List.length_nil]; omega) (by simp only [ncA, List.all_cons, List.all_nil, Bool.and_true, h0, h1, h2, h3, h4, h5, h6, h7, h8, h9])
theorem e_lstCE10 {x0 x1 x2 x3 x4 x5 x6 x7 x8 x9 : D} (h0 : nc x0 = true) (h1 : nc x1 = true) (h2 : nc x2 = true) (h3 : nc x3 = true) (h4 : nc x4 = true) (h5 : nc x5 = true) (h6 : nc x6 = true) (h7 : nc x7 = true) (h8 : nc x8 = true) (h9 : nc x9 = true) : lstCE [x0, x1, x2, x3, x4, x5, x6, x7, x8, x9] s = .ok (.cell s.length) (s ++ [.lst [x0, x1, x2, x3, x4, x5, x6, x7, x8, x9]]) := lstCE_eq (by simp only [List.length_cons, List.length_nil]; omega) (by simp only [ncA, List.all_cons, List.all_nil, Bool.and_true, h0, h1, h2, h3, h4, h5, h6, h7, h8, h9])
theorem e_tupE11 {x0 x1 x2 x3 x4 x5 x6 x7 x8 x9 x10 : D} (h0 : nc x0 = true) (h1 : nc x1 = true) (h2 : nc x2 = true) (h3 : nc x3 = true) (h4 : nc x4 = true) (h5 : nc x5 = true) (h6 : nc x6 = true) (h7 : nc x7 = true) (h8 : nc x8 = true) (h9 : nc x9 = true) (h10 : nc x10 = true) : tupE [x0, x1, x2, x3, x4, x5, x6, x7, x8, x9, x10] s = .ok (.tup [x0, x1, x2, x3, x4, x5, x6, x7, x8, x9, x10]) s := tupE_eq (by simp only [List.length_cons, List.length_nil]; omega) (by simp only [ncA, List.all_cons, List.all_nil, Bool.and_true, h0, h1, h2, h3, h4, h5, h6, h7, h8, h9, h10])
theorem e_lstE11 {x0 x1 x2 x3 x4 x5 x6 x7 x8 x9 x10 : D} (h0 : nc x0 = true) (h1 : nc x1 = true) (h2 : nc x2 = true) (h3 : nc x3 = true) (h4 : nc x4 = true) (h5 : nc x5 = true) (h6 : nc x6 = true) (h7 : nc x7 = true) (h8 : nc x8 = true) (h9 : nc x9 = true) (h10 : nc x10 = true) : lstE [x0, x1, x2, x3, x4, x5, x6, x7, x8, x9, x10] s = .ok (.lst [x0, x1, x2, x3, x4, x5, x6, x7, x8, x9, x10]) s := lstE_eq (by simp only [List.length_cons, List.length_nil]; omega) (by simp only [ncA, List.all_cons, List.all_nil, Bool.and_true, h0, h1, h2, h3, h4, h5, h6, h7, h8, h9, h10])
theorem e_lstCE11 {x0 x1 x2 x3 x4 x5 x6 x7 x8 x9 x10 : D} (h0 : nc x0 = true) (h1 : nc x1 = true) (h2 : nc x2 = true) (h3 : nc x3 = true) (h4 : nc x4 = true) (h5 : nc x5 = true) (h6 : nc x6 = true) (h7 : nc x7 = true) (h8 : nc x8 = true) (h9 : nc x9 = true) (h10 : nc x10 = true) : lstCE [x0, x1, x2, x3, x4, x5, x6, x7, x8, x9, x10] s = .ok (.cell s.length) (s ++ [.lst [x0, x1, x2, x3, x4, x5, x6, x7, x8, x9, x10]]) := lstCE_eq (by simp only [List.length_cons, List.length_nil]; omega) (by simp only [ncA, List.all_cons, List.all_nil, Bool.and_true, h0, h1, h2, h3, h4, h5, h6, h7, h8, h9, h10])
theorem e_tupE12 {x0 x1 x2 x3 x4 x5 x6 x7 x8 x9 x10 x11 : D} (h0 : nc x0 = true) (h1 : nc x1 = true) (h2 : nc x2 = true) (h3 : nc x3 = true) (h4 : nc x4 = true) (h5 : nc x5 = true) (h6 : nc x6 = true) (h7 : nc x7 = true) (h8 : nc x8 = true) (h9 : nc x9 = true) (h10 : nc x10 = true) (h11 : nc x11 = true) : tupE [x0, x1, x2, x3, x4, x5, x6, x7, x8, x9, x10, x11] s = .ok (.tup [x0, x1, x2, x3, x4, x5, x6, x7, x8, x9, x10, x11]) s := tupE_eq (by simp only [List.length_cons, List.length_nil]; omega) (by simp only [ncA, List.all_cons, List.all_nil, Bool.and_true, h0, h1, h2, h3, h4, h5, h6, h7, h8, h9, h10, h11])
theorem e_lstE12 {x0 x1 x2 x3 x4 x5 x6 x7 x8 x9 x10 x11 : D} (h0 : nc x0 = true) (h1 : nc x1 = true) (h2 : nc x2 = true) (h3 : nc x3 = true) (h4 : nc x4 = true) (h5 : nc x5 = true) (h6 : nc x6 = true) (h7 : nc x7 = true) (h8 : nc x8 = true) (h9 : nc x9 = true) (h10 : nc x10 = true) (h11 : nc x11 = true) : lstE [x0, x1, x2, x3, x4, x5, x6, x7, x8, x9, x10, x11] s = .ok (.lst [x0, x1, x2, x3, x4, x5, x6, x7, x8, x9, x10, x11]) s := lstE_eq (by simp only [List.length_cons, List.length_nil]; omega) (by simp only [ncA, List.all_cons, List.all_nil, Bool.and_true, h0, h1, h2, h3, h4, h5, h6, h7, h8, h9, h10, h11])
theorem e_lstCE12 {x0 x1 x2 x3 x4 x5 x6 x7 x8 x9 x10 x11 : D} (h0 : nc x0 = true) (h1 : nc x1 = true) (h2 : nc x2 = true) (h3 : nc x3 = true) (h4 : nc x4 = true) (h5 : nc x5 = true) (h6 : nc x6 = true) (h7 : nc x7 = true) (h8 : nc x8 = true) (h9 : nc x9 = true) (h10 : nc x10 = true) (h11 : nc x11 = true) : lstCE [x0, x1, x2, x3, x4, x5, x6, x7, x8, x9, x10, x11] s = .ok (.cell s.length) (s ++ [.lst [x0, x1, x2, x3, x4, x5, x6, x7, x8, x9, x10, x11]]) := lstCE_eq (by simp only [List.length_cons, List.length_nil]; omega) (by simp only [ncA, List.all_cons, List.all_nil, Bool.and_true, h0, h1, h2, h3, h4, h5, h6, h7, h8, h9, h10, h11])
theorem e_nc_int {i : Int} : nc (.int i) = true := rfl
theorem e_nc_str {i : Str} : nc (.str i) = true := rfl
theorem e_nc_bl {i : Bool} : nc (.bl i) = true := rfl
theorem e_nc_tup {i : List D} : nc (.tup i) = true := rfl
theorem e_nc_lst {i : List D} : nc (.lst i) = true := rfl
theorem e_nc_dic {i : List (Key × D)} : nc (.dic i) = true := rfl
theorem e_nc_scr {i : List Int} : nc (.scr i) = true := rfl
theorem e_nc_non : nc .non = true := rfl
theorem e_nc_ins {n : Nat} {f : List D} : nc (.ins n f) = true := rfl
def endO (o : SOut) : Out D := match o with
  | .rt d s => .ok d s
  | .nx _ s => .ok .non s
  | .err c p _ s => .err c p s
  | _ => .bad
theorem e_raw {n : Nat} (ψ : FS) (xs : List D) : rawD n ψ xs s = endO (ψ (xs.map some ++ List.replicate n none) s) := by
  unfold rawD endO
  rfl
theorem e_end_rt {d : D} : endO (.rt d s) = .ok d s := rfl
theorem e_end_nx : endO (.nx ds s) = .ok .non s := rfl
theorem e_end_err {n : Nat} {p : Option (Str × D)} : endO (.err n p ds s) = .err n p s := rfl
theorem trimS_le {n : Nat} {xs : List D} (h : s.length ≤ n) : trimS n xs s = s := by
  unfold trimS
  rw [if_pos h]
theorem e_trim_self {d : D} : trimO s.length (.ok d s) = .ok d s := by
  show Out.ok d (trimS s.length [d] s) = _
  rw [trimS_le (Nat.le_refl _)]
theorem e_trim_errS {n : Nat} {p : Option (Str × D)} : trimO s.length (.err n p s) = .err n p s := by
  show Out.err n p (trimS s.length _ s) = _
  rw [trimS_le (Nat.le_refl _)]
theorem trim_le {n : Nat} {d : D} (h : s.length ≤ n) : trimO n (.ok d s) = .ok d s := by
  show Out.ok d (trimS n [d] s) = _
  rw [trimS_le h]
theorem trim_eq {s' : Sto} {d : D} (h : s'.length = s.length) : trimO s.length (.ok d s') = .ok d s' := trim_le (Nat.le_of_eq h)
theorem e_body1 {n : Nat} (ψ : FS) {x1 : D} : bodyD 1 n ψ [x1] s = trimO s.length (endO (ψ (some x1 :: List.replicate n none) s)) := by
  show trimO s.length (rawD n ψ [x1] s) = _
  rw [e_raw]
  rfl
theorem e_body0 {n : Nat} (ψ : FS) : bodyD 0 n ψ [] s = trimO s.length (endO (ψ (List.replicate n none) s)) := by
  show trimO s.length (rawD n ψ [] s) = _
  rw [e_raw]
  rfl
theorem e_body2 {n : Nat} (ψ : FS) {x1 x2 : D} : bodyD 2 n ψ [x1, x2] s = trimO s.length (endO (ψ (some x1 :: some x2 :: List.replicate n none) s)) := by
  show trimO s.length (rawD n ψ [x1, x2] s) = _
  rw [e_raw]
  rfl
theorem e_body3 {n : Nat} (ψ : FS) {x1 x2 x3 : D} : bodyD 3 n ψ [x1, x2, x3] s = trimO s.length (endO (ψ (some x1 :: some x2 :: some x3 :: List.replicate n none) s)) := by
  show trimO s.length (rawD n ψ [x1, x2, x3] s) = _
  rw [e_raw]
  rfl
theorem e_body4 {n : Nat} (ψ : FS) {x1 x2 x3 x4 : D} : bodyD 4 n ψ [x1, x2, x3, x4] s = trimO s.length (endO (ψ (some x1 :: some x2 :: some x3 :: some x4 :: List.replicate n none) s)) := by
  show trimO s.length (rawD n ψ [x1, x2, x3, x4] s) = _
  rw [e_raw]
  rfl
theorem e_body5 {n : Nat} (ψ : FS) {x1 x2 x3 x4 x5 : D} : bodyD 5 n ψ [x1, x2, x3, x4, x5] s = trimO s.length (endO (ψ (some x1 :: some x2 :: some x3 :: some x4 :: some x5 :: List.replicate n none) s)) := by
  show trimO s.length (rawD n ψ [x1, x2, x3, x4, x5] s) = _
  rw [e_raw]
  rfl
theorem e_body6 {n : Nat} (ψ : FS) {x1 x2 x3 x4 x5 x6 : D} : bodyD 6 n ψ [x1, x2, x3, x4, x5, x6] s = trimO s.length (endO (ψ (some x1 :: some x2 :: some x3 :: some x4 :: some x5 :: some x6 :: List.replicate n none) s)) := by
  show trimO s.length (rawD n ψ [x1, x2, x3, x4, x5, x6] s) = _
  rw [e_raw]
  rfl
theorem e_guard {np n : Nat} (ψ : FS) {xs : List D} : body0 np n ψ xs s = nb (bodyD np n ψ xs s) := rfl
theorem e_nb_ok (a : α) : nb (Out.ok a s) = .ok a s := rfl
theorem e_rep0 : List.replicate 0 (none : Option D) = [] := rfl
theorem e_repS {n : Nat} : List.replicate (n + 1) (none : Option D) = none :: List.replicate n none := rfl
theorem e_set0 {x y : Option D} {r : DSt} : (x :: r).set 0 y = y :: r := rfl
theorem e_setS {n : Nat} {x y : Option D} {r : DSt} : (x :: r).set (n + 1) y = x :: r.set n y := rfl
theorem e_callD (m : Fn) (ψ : FA) : callD m ψ ds s = (ψ ds s).bind m := rfl
theorem e_callB (f : List D → Sto → Out D) (ψ : FA) : callB f ψ ds s = (ψ ds s).bind f := rfl
def isiE (f : List D → Sto → Out D) (x : D) (s : Sto) : Out D := f [x, .non] s
theorem e_isiD (φ : FE) (f : List D → Sto → Out D) : isiD φ f ds s = (φ ds s).bind (isiE f) := rfl
theorem e_isiE (f : List D → Sto → Out D) {x : D} : isiE f x s = f [x, .non] s := rfl
def methC (m : Fn) (x : D) (o : Out (List D)) : Out D := match o with
  | .ok xs s => m (x :: xs) s
  | .err c p s => .err c p s
  | _ => .bad
def methB (n : Nat) (m : Fn) (ψ : FA) (ds : DSt) (o : Out D) : Out D := match o with
  | .ok x s => if clsD x s = some n then methC m x (ψ ds s) else .bad
  | .err c p s => .err c p s
  | _ => .bad
theorem e_meth (n : Nat) (m : Fn) (φ : FE) (ψ : FA) : methD n m φ ψ ds s = methB n m ψ ds (φ ds s) := by
  unfold methD bindX methB
  cases φ ds s <;> first | rfl | skip
  rename_i x s1
  simp only [Out.bind, methC]
  split <;> first | rfl | skip
  cases ψ ds s1 <;> rfl
theorem e_methB (n : Nat) (m : Fn) (ψ : FA) {f : List D} : methB n m ψ ds (.ok (.ins n f) s) = methC m (.ins n f) (ψ ds s) := if_pos rfl
theorem methB_of {n : Nat} {m : Fn} {ψ : FA} {x : D} (h : clsD x s = some n) : methB n m ψ ds (.ok x s) = methC m x (ψ ds s) := if_pos h
theorem e_methC (m : Fn) {x : D} {xs : List D} : methC m x (.ok xs s) = m (x :: xs) s := rfl
def propE (n : Nat) (m : Fn) (x : D) (s : Sto) : Out D := if clsD x s = some n then nb (m [x] s) else .bad
theorem e_prop (n : Nat) (m : Fn) (φ : FE) : propD n m φ ds s = (φ ds s).bind (propE n m) := rfl
theorem e_propE (n : Nat) (m : Fn) {f : List D} : propE n m (.ins n f) s = nb (m [.ins n f] s) := if_pos rfl
def makeE (n : Nat) (m : Fn) (xs : List D) (s : Sto) : Out D := (m (.cell s.length :: xs) (s ++ [.ins n []])).bind fun r s' => doneI n s.length r s'
theorem e_make (n : Nat) (m : Fn) (ψ : FA) : makeD n m ψ ds s = (ψ ds s).bind (makeE n m) := rfl
/-- an __init__ that leaves the fields fs -/
theorem make_eq {n : Nat} {m : Fn} {xs fs : List D} (h : m (.cell s.length :: xs) (s ++ [.ins n []]) = .ok .non (s ++ [.ins n (fs.map some)])) (hn : fs.all nc = true) (hs : okS s.length s = true) : makeE n m xs s = .ok (.ins n fs) s := by
  unfold makeE
  rw [h]
  show doneI n s.length .non (s ++ [.ins n (fs.map some)]) = _
  have hA : ∀ l : List D, l.all nc = true → allO (l.map some) = some l := by
    intro l
    induction l with
    | nil => intro _; rfl
    | cons x r ih =>
      intro h
      rw [List.all_cons, Bool.and_eq_true] at h
      show (if nc x = true then (allO (r.map some)).map (x :: ·) else none) = _
      rw [if_pos h.1, ih h.2]
      rfl
  unfold doneI
  rw [List.getElem?_append_right (Nat.le_refl _), Nat.sub_self]
  simp only [List.getElem?_cons_zero, hA fs hn, decide_true, List.length_append, List.length_cons, List.length_nil, List.take_left, hs, Bool.and_self, if_true]
theorem e_binOwn {n : Nat} {m : Fn} {f g : List D} : binOwn n m (.ins n f) (.ins n g) s = m [.ins n f, .ins n g] s := by
  unfold binOwn
  simp only [clsD, decide_true, Bool.and_self, if_true]
theorem e_unOwn {n : Nat} {m : Fn} {f : List D} : unOwn n m (.ins n f) s = m [.ins n f] s := if_pos rfl
theorem e_ixOwn {n : Nat} {m : Fn} {f : List D} {y : D} : ixOwn n m (.ins n f) y s = m [.ins n f, y] s := if_pos rfl
def ansO (k : Bool → Bool) (o : Out D) : Out D := match o with
  | .ok (.bl b) s => .ok (.bl (k b)) s
  | _ => .bad
def strO (o : Out D) : Out D := match o with
  | .ok (.str b) s => .ok (.str b) s
  | _ => .bad
theorem e_cmpOwn {cs : List Nat} {n : Nat} {m : Fn} {k : Bool → Bool} {f : List D} {y : D} (h : rightD cs y s = true) : cmpOwn cs n m k (.ins n f) y s = ansO k (m [.ins n f, y] s) := by
  unfold cmpOwn ansO
  simp only [clsD, if_true, h] <;> (cases m [.ins n f, y] s <;> first | rfl | (rename_i x _; cases x <;> rfl))
theorem e_right_ins {cs : List Nat} {n : Nat} {f : List D} (h : n ∈ cs) : rightD cs (.ins n f) s = true := decide_eq_true h
theorem e_right_int {cs : List Nat} {i : Int} : rightD cs (.int i) s = true := rfl
theorem e_right_str {cs : List Nat} {i : Str} : rightD cs (.str i) s = true := rfl
theorem e_right_tup {cs : List Nat} {i : List D} : rightD cs (.tup i) s = true := rfl
theorem e_right_lst {cs : List Nat} {i : List D} : rightD cs (.lst i) s = true := rfl
theorem e_right_dic {cs : List Nat} {i : List (Key × D)} : rightD cs (.dic i) s = true := rfl
theorem e_right_bl {cs : List Nat} {i : Bool} : rightD cs (.bl i) s = true := rfl
theorem e_right_non {cs : List Nat} : rightD cs .non s = true := rfl
theorem e_ans {k : Bool → Bool} {b : Bool} : ansO k (.ok (.bl b) s) = .ok (.bl (k b)) s := rfl
theorem e_strOwn {n : Nat} {m : Fn} {f : List D} : strOwn n m [.ins n f] s = strO (m [.ins n f] s) := by
  unfold strOwn strO
  simp only [clsD, if_true] <;> (cases m [.ins n f] s <;> first | rfl | (rename_i x _; cases x <;> rfl))
theorem e_strO {z : Str} : strO (.ok (.str z) s) = .ok (.str z) s := rfl
theorem e_boolOwn {n : Nat} {m : Fn} {f : List D} : boolOwn n m [.ins n f] s = ansO id (m [.ins n f] s) := by
  unfold boolOwn ansO
  simp only [clsD, if_true] <;> (cases m [.ins n f] s <;> first | rfl | (rename_i x _; cases x <;> rfl))
theorem e_isiC_same {cs : List Nat} {n : Nat} {f : List D} {u : D} (h : n ∈ cs) : isiC cs n [.ins n f, u] s = .ok (.bl true) s := by
  show (if n ∈ cs then Out.ok (D.bl (n == n)) s else .bad) = _
  rw [if_pos h, beq_self_eq_true]
theorem e_isiC_diff {cs : List Nat} {k n : Nat} {f : List D} {u : D} (h : n ∈ cs) (hk : n ≠ k) : isiC cs k [.ins n f, u] s = .ok (.bl false) s := by
  show (if n ∈ cs then Out.ok (D.bl (n == k)) s else .bad) = _
  rw [if_pos h, beq_false_of_ne hk]
theorem isiC_k {cs : List Nat} {k : Nat} {x u : D} {n : String} (h : kindD x s = some n) : isiC cs k [x, u] s = .ok (.bl false) s := by
  simp only [isiC, h]
theorem isiT_k {cs : List Nat} {T : String} {x u : D} {n : String} (h : kindD x s = some n) : isiT cs T [x, u] s = .ok (.bl (Gl.isKind n T)) s := by
  simp only [isiT, h]
theorem e_isiC_int {cs : List Nat} {k : Nat} {u : D} {i : Int} : isiC cs k [(.int i), u] s = .ok (.bl false) s := isiC_k (n := "int") rfl
theorem e_isiT_int_int {cs : List Nat} {u : D} {i : Int} : isiT cs "int" [(.int i), u] s = .ok (.bl true) s := isiT_k (n := "int") rfl
theorem e_isiT_int_bool {cs : List Nat} {u : D} {i : Int} : isiT cs "bool" [(.int i), u] s = .ok (.bl false) s := isiT_k (n := "int") rfl
theorem e_isiT_int_str {cs : List Nat} {u : D} {i : Int} : isiT cs "str" [(.int i), u] s = .ok (.bl false) s := isiT_k (n := "int") rfl
theorem e_isiT_int_tuple {cs : List Nat} {u : D} {i : Int} : isiT cs "tuple" [(.int i), u] s = .ok (.bl false) s := isiT_k (n := "int") rfl
theorem e_isiT_int_list {cs : List Nat} {u : D} {i : Int} : isiT cs "list" [(.int i), u] s = .ok (.bl false) s := isiT_k (n := "int") rfl
theorem e_isiT_int_dict {cs : List Nat} {u : D} {i : Int} : isiT cs "dict" [(.int i), u] s = .ok (.bl false) s := isiT_k (n := "int") rfl
theorem e_isiC_str {cs : List Nat} {k : Nat} {u : D} {i : Str} : isiC cs k [(.str i), u] s = .ok (.bl false) s := isiC_k (n := "str") rfl
theorem e_isiT_str_int {cs : List Nat} {u : D} {i : Str} : isiT cs "int" [(.str i), u] s = .ok (.bl false) s := isiT_k (n := "str") rfl
theorem e_isiT_str_bool {cs : List Nat} {u : D} {i : Str} : isiT cs "bool" [(.str i), u] s = .ok (.bl false) s := isiT_k (n := "str") rfl
theorem e_isiT_str_str {cs : List Nat} {u : D} {i : Str} : isiT cs "str" [(.str i), u] s = .ok (.bl true) s := isiT_k (n := "str") rfl
theorem e_isiT_str_tuple {cs : List Nat} {u : D} {i : Str} : isiT cs "tuple" [(.str i), u] s = .ok (.bl false) s := isiT_k (n := "str") rfl
theorem e_isiT_str_list {cs : List Nat} {u : D} {i : Str} : isiT cs "list" [(.str i), u] s = .ok (.bl false) s := isiT_k (n := "str") rfl
theorem e_isiT_str_dict {cs : List Nat} {u : D} {i : Str} : isiT cs "dict" [(.str i), u] s = .ok (.bl false) s := isiT_k (n := "str") rfl
theorem e_isiC_bl {cs : List Nat} {k : Nat} {u : D} {i : Bool} : isiC cs k [(.bl i), u] s = .ok (.bl false) s := isiC_k (n := "bool") rfl
theorem e_isiT_bl_int {cs : List Nat} {u : D} {i : Bool} : isiT cs "int" [(.bl i), u] s = .ok (.bl true) s := isiT_k (n := "bool") rfl
theorem e_isiT_bl_bool {cs : List Nat} {u : D} {i : Bool} : isiT cs "bool" [(.bl i), u] s = .ok (.bl true) s := isiT_k (n := "bool") rfl
theorem e_isiT_bl_str {cs : List Nat} {u : D} {i : Bool} : isiT cs "str" [(.bl i), u] s = .ok (.bl false) s := isiT_k (n := "bool") rfl
theorem e_isiT_bl_tuple {cs : List Nat} {u : D} {i : Bool} : isiT cs "tuple" [(.bl i), u] s = .ok (.bl false) s := isiT_k (n := "bool") rfl
theorem e_isiT_bl_list {cs : List Nat} {u : D} {i : Bool} : isiT cs "list" [(.bl i), u] s = .ok (.bl false) s := isiT_k (n := "bool") rfl
theorem e_isiT_bl_dict {cs : List Nat} {u : D} {i : Bool} : isiT cs "dict" [(.bl i), u] s = .ok (.bl false) s := isiT_k (n := "bool") rfl
theorem e_isiC_tup {cs : List Nat} {k : Nat} {u : D} {i : List D} : isiC cs k [(.tup i), u] s = .ok (.bl false) s := isiC_k (n := "tuple") rfl
theorem e_isiT_tup_int {cs : List Nat} {u : D} {i : List D} : isiT cs "int" [(.tup i), u] s = .ok (.bl false) s := isiT_k (n := "tuple") rfl
theorem e_isiT_tup_bool {cs : List Nat} {u : D} {i : List D} : isiT cs "bool" [(.tup i), u] s = .ok (.bl false) s := isiT_k (n := "tuple") rfl
theorem e_isiT_tup_str {cs : List Nat} {u : D} {i : List D} : isiT cs "str" [(.tup i), u] s = .ok (.bl false) s := isiT_k (n := "tuple") rfl
theorem e_isiT_tup_tuple {cs : List Nat} {u : D} {i : List D} : isiT cs "tuple" [(.tup i), u] s = .ok (.bl true) s := isiT_k (n := "tuple") rfl
theorem e_isiT_tup_list {cs : List Nat} {u : D} {i : List D} : isiT cs "list" [(.tup i), u] s = .ok (.bl false) s := isiT_k (n := "tuple") rfl
theorem e_isiT_tup_dict {cs : List Nat} {u : D} {i : List D} : isiT cs "dict" [(.tup i), u] s = .ok (.bl false) s := isiT_k (n := "tuple") rfl
theorem e_isiC_lst {cs : List Nat} {k : Nat} {u : D} {i : List D} : isiC cs k [(.lst i), u] s = .ok (.bl false) s := isiC_k (n := "list") rfl
theorem e_isiT_lst_int {cs : List Nat} {u : D} {i : List D} : isiT cs "int" [(.lst i), u] s = .ok (.bl false) s := isiT_k (n := "list") rfl
theorem e_isiT_lst_bool {cs : List Nat} {u : D} {i : List D} : isiT cs "bool" [(.lst i), u] s = .ok (.bl false) s := isiT_k (n := "list") rfl
theorem e_isiT_lst_str {cs : List Nat} {u : D} {i : List D} : isiT cs "str" [(.lst i), u] s = .ok (.bl false) s := isiT_k (n := "list") rfl
theorem e_isiT_lst_tuple {cs : List Nat} {u : D} {i : List D} : isiT cs "tuple" [(.lst i), u] s = .ok (.bl false) s := isiT_k (n := "list") rfl
theorem e_isiT_lst_list {cs : List Nat} {u : D} {i : List D} : isiT cs "list" [(.lst i), u] s = .ok (.bl true) s := isiT_k (n := "list") rfl
theorem e_isiT_lst_dict {cs : List Nat} {u : D} {i : List D} : isiT cs "dict" [(.lst i), u] s = .ok (.bl false) s := isiT_k (n := "list") rfl
theorem e_isiC_dic {cs : List Nat} {k : Nat} {u : D} {i : List (Key × D)} : isiC cs k [(.dic i), u] s = .ok (.bl false) s := isiC_k (n := "dict") rfl
theorem e_isiT_dic_int {cs : List Nat} {u : D} {i : List (Key × D)} : isiT cs "int" [(.dic i), u] s = .ok (.bl false) s := isiT_k (n := "dict") rfl
theorem e_isiT_dic_bool {cs : List Nat} {u : D} {i : List (Key × D)} : isiT cs "bool" [(.dic i), u] s = .ok (.bl false) s := isiT_k (n := "dict") rfl
theorem e_isiT_dic_str {cs : List Nat} {u : D} {i : List (Key × D)} : isiT cs "str" [(.dic i), u] s = .ok (.bl false) s := isiT_k (n := "dict") rfl
theorem e_isiT_dic_tuple {cs : List Nat} {u : D} {i : List (Key × D)} : isiT cs "tuple" [(.dic i), u] s = .ok (.bl false) s := isiT_k (n := "dict") rfl
theorem e_isiT_dic_list {cs : List Nat} {u : D} {i : List (Key × D)} : isiT cs "list" [(.dic i), u] s = .ok (.bl false) s := isiT_k (n := "dict") rfl
theorem e_isiT_dic_dict {cs : List Nat} {u : D} {i : List (Key × D)} : isiT cs "dict" [(.dic i), u] s = .ok (.bl true) s := isiT_k (n := "dict") rfl
theorem e_isiC_non {cs : List Nat} {k : Nat} {u : D} : isiC cs k [.non, u] s = .ok (.bl false) s := isiC_k (n := "NoneType") rfl
theorem e_isiT_non_int {cs : List Nat} {u : D} : isiT cs "int" [.non, u] s = .ok (.bl false) s := isiT_k (n := "NoneType") rfl
theorem e_isiT_non_bool {cs : List Nat} {u : D} : isiT cs "bool" [.non, u] s = .ok (.bl false) s := isiT_k (n := "NoneType") rfl
theorem e_isiT_non_str {cs : List Nat} {u : D} : isiT cs "str" [.non, u] s = .ok (.bl false) s := isiT_k (n := "NoneType") rfl
theorem e_isiT_non_tuple {cs : List Nat} {u : D} : isiT cs "tuple" [.non, u] s = .ok (.bl false) s := isiT_k (n := "NoneType") rfl
theorem e_isiT_non_list {cs : List Nat} {u : D} : isiT cs "list" [.non, u] s = .ok (.bl false) s := isiT_k (n := "NoneType") rfl
theorem e_isiT_non_dict {cs : List Nat} {u : D} : isiT cs "dict" [.non, u] s = .ok (.bl false) s := isiT_k (n := "NoneType") rfl
theorem e_isiT_ins {cs : List Nat} {T : String} {n : Nat} {f : List D} {u : D} (h : n ∈ cs) : isiT cs T [.ins n f, u] s = .ok (.bl false) s := if_pos h
theorem attr_ins {tab : Nat → Option Nat} {n i : Nat} {f : List D} {d : D} (h : tab n = some i) (h2 : f[i]? = some d) : attrD tab (.ins n f) s = .ok d s := by
  simp only [attrD, h, h2]
theorem e_add {a b : Int} : addD (.int a) (.int b) s = .ok (.int (a + b)) s := rfl
theorem e_sub {a b : Int} : subD (.int a) (.int b) s = .ok (.int (a - b)) s := rfl
theorem mulB_l {a b : Int} (h : sm64 a = true) : mulB a b = true := by unfold mulB; rw [h]; rfl
theorem mulB_r {a b : Int} (h : sm64 b = true) : mulB a b = true := by unfold mulB; rw [h, Bool.true_or, Bool.or_true]
theorem mulB_s {a b : Int} (h : smB a = true) (h2 : smB b = true) : mulB a b = true := by unfold mulB; rw [h, h2, Bool.and_self, Bool.or_true, Bool.or_true]
theorem e_mul {a b : Int} (h : mulB a b = true) : mulD (.int a) (.int b) s = .ok (.int (a * b)) s := if_pos h
theorem e_mod {a b : Int} (h : 0 < b) : modD (.int a) (.int b) s = .ok (.int (a % b)) s := if_pos h
theorem e_div {a b : Int} (h : 0 < b) (h2 : b < Gl.B9) : divD (.int a) (.int b) s = .ok (.int (a / b)) s := by
  show (if (decide (0 < b) && decide (b < Gl.B9)) = true then Out.ok (D.int (a / b)) s else .bad) = _
  rw [decide_eq_true h, decide_eq_true h2]
  rfl
theorem e_lt {a b : Int} : ltD (.int a) (.int b) s = .ok (.bl (decide (a < b))) s := rfl
theorem e_le {a b : Int} : leD (.int a) (.int b) s = .ok (.bl (decide (a ≤ b))) s := rfl
theorem e_gt {a b : Int} : gtD (.int a) (.int b) s = .ok (.bl (decide (b < a))) s := rfl
theorem e_ge {a b : Int} : geD (.int a) (.int b) s = .ok (.bl (decide (b ≤ a))) s := rfl
theorem e_eq_int {a b : Int} : eqD (.int a) (.int b) s = .ok (.bl (decide (a = b))) s := rfl
theorem e_ne_int {a b : Int} : neD (.int a) (.int b) s = .ok (.bl (!decide (a = b))) s := rfl
theorem e_eq_str {a b : Str} : eqD (.str a) (.str b) s = .ok (.bl (decide (a = b))) s := rfl
theorem e_ne_str {a b : Str} : neD (.str a) (.str b) s = .ok (.bl (!decide (a = b))) s := rfl
theorem e_eq_bl {a b : Bool} : eqD (.bl a) (.bl b) s = .ok (.bl (decide (a = b))) s := rfl
theorem e_ne_bl {a b : Bool} : neD (.bl a) (.bl b) s = .ok (.bl (!decide (a = b))) s := rfl
theorem eq_lst {xs ys : List D} {p q : PyData} (hx : (D.lst xs).py = some p) (hy : (D.lst ys).py = some q) (h : (SeqAt.shaped p && SeqAt.shaped q) = true) : eqD (.lst xs) (.lst ys) s = .ok (.bl (PyData.eqv p q)) s := by
  show eqP (.lst xs) (.lst ys) s id = _
  simp only [eqP, vw, hx, hy, h, if_true]
  rfl
theorem eq_tup {xs ys : List D} {p q : PyData} (hx : (D.tup xs).py = some p) (hy : (D.tup ys).py = some q) (h : (SeqAt.shaped p && SeqAt.shaped q) = true) : eqD (.tup xs) (.tup ys) s = .ok (.bl (PyData.eqv p q)) s := by
  show eqP (.tup xs) (.tup ys) s id = _
  simp only [eqP, vw, hx, hy, h, if_true]
  rfl
theorem eqv_p2 (a b c d : Int) : PyData.eqv (.tuple [.int a, .int b]) (.tuple [.int c, .int d]) = (decide (a = c) && decide (b = d)) := by
  show (decide (a = c) && (decide (b = d) && true)) = _
  rw [Bool.and_true]
theorem e_eqP2 {a b c d : Int} : eqD (.tup [.int a, .int b]) (.tup [.int c, .int d]) s = .ok (.bl (decide (a = c) && decide (b = d))) s := by
  show Out.ok (D.bl (PyData.eqv (.tuple [.int a, .int b]) (.tuple [.int c, .int d]))) s = _
  rw [eqv_p2]
theorem e_neP2 {a b c d : Int} : neD (.tup [.int a, .int b]) (.tup [.int c, .int d]) s = .ok (.bl (!(decide (a = c) && decide (b = d)))) s := by
  show Out.ok (D.bl (!PyData.eqv (.tuple [.int a, .int b]) (.tuple [.int c, .int d]))) s = _
  rw [eqv_p2]
theorem e_isN_int {i : Int} : isND (.int i) .non s = .ok (.bl false) s := rfl
theorem e_isNN_int {i : Int} : isNotND (.int i) .non s = .ok (.bl true) s := rfl
theorem e_isN_str {i : Str} : isND (.str i) .non s = .ok (.bl false) s := rfl
theorem e_isNN_str {i : Str} : isNotND (.str i) .non s = .ok (.bl true) s := rfl
theorem e_isN_tup {i : List D} : isND (.tup i) .non s = .ok (.bl false) s := rfl
theorem e_isNN_tup {i : List D} : isNotND (.tup i) .non s = .ok (.bl true) s := rfl
theorem e_isN_lst {i : List D} : isND (.lst i) .non s = .ok (.bl false) s := rfl
theorem e_isNN_lst {i : List D} : isNotND (.lst i) .non s = .ok (.bl true) s := rfl
theorem e_isN_dic {i : List (Key × D)} : isND (.dic i) .non s = .ok (.bl false) s := rfl
theorem e_isNN_dic {i : List (Key × D)} : isNotND (.dic i) .non s = .ok (.bl true) s := rfl
theorem e_isN_bl {i : Bool} : isND (.bl i) .non s = .ok (.bl false) s := rfl
theorem e_isNN_bl {i : Bool} : isNotND (.bl i) .non s = .ok (.bl true) s := rfl
theorem e_isN_ins {n : Nat} {f : List D} : isND (.ins n f) .non s = .ok (.bl false) s := rfl
theorem e_isNN_ins {n : Nat} {f : List D} : isNotND (.ins n f) .non s = .ok (.bl true) s := rfl
theorem e_isN_non : isND .non .non s = .ok (.bl true) s := rfl
theorem e_isNN_non : isNotND .non .non s = .ok (.bl false) s := rfl
theorem e_len_tup {xs : List D} : lenD [.tup xs] s = .ok (.int xs.length) s := rfl
theorem e_len_lst {xs : List D} : lenD [.lst xs] s = .ok (.int xs.length) s := rfl
theorem e_len_scr {xs : List Int} : lenD [.scr xs] s = .ok (.int xs.length) s := rfl
theorem e_len_dic {xs : List (Key × D)} : lenD [.dic xs] s = .ok (.int xs.length) s := rfl
theorem e_abs {i : Int} : absD [.int i] s = .ok (.int (if i < 0 then -i else i)) s := rfl
theorem e_int {i : Int} : intD [.int i] s = .ok (.int i) s := rfl
theorem e_intB {i : Bool} : intD [.bl i] s = .ok (.int (if i then 1 else 0)) s := rfl
theorem e_max {i j : Int} : maxD [.int i, .int j] s = .ok (.int (if j > i then j else i)) s := rfl
theorem e_min {i j : Int} : minD [.int i, .int j] s = .ok (.int (if j < i then j else i)) s := rfl
theorem e_tuple_tup {xs : List D} : tupleD [.tup xs] s = .ok (.tup xs) s := rfl
theorem e_tuple_lst {xs : List D} : tupleD [.lst xs] s = .ok (.tup xs) s := rfl
theorem e_list_tup {xs : List D} : listD [.tup xs] s = .ok (.lst xs) s := rfl
theorem e_list_lst {xs : List D} : listD [.lst xs] s = .ok (.lst xs) s := rfl
theorem repr_eq {x : D} {q : PyData} (h : (vw x s).py = some q) (hc : canShow q = true) : reprD [x] s = .ok (.str q.shown) s := by
  simp only [reprD, h, hc, if_true]
theorem e_str {i : Int} (h : i.natAbs.log2 < 1920) : strD [.int i] s = .ok (.str (toString i)) s := if_pos h
theorem e_fmt {i : Int} (h : i.natAbs.log2 < 1920) : fmtD (.int i) s = .ok (.str (toString i)) s := if_pos h
theorem e_ixt0 {x : D} {xs : List D} : ixD (.tup (x :: xs)) (.int 0) s = .ok x s := by
  simp only [ixD, vw, atI, List.length_cons, Gl.ix_0, List.getElem?_cons_zero]
  rfl
theorem e_ixt1 {x y : D} {xs : List D} : ixD (.tup (x :: y :: xs)) (.int 1) s = .ok y s := by
  simp only [ixD, vw, atI, List.length_cons, Gl.ix_1]
  rfl
theorem e_ixl0 {x : D} {xs : List D} : ixD (.lst (x :: xs)) (.int 0) s = .ok x s := by
  simp only [ixD, vw, atI, List.length_cons, Gl.ix_0, List.getElem?_cons_zero]
  rfl
theorem e_ixl1 {x y : D} {xs : List D} : ixD (.lst (x :: y :: xs)) (.int 1) s = .ok y s := by
  simp only [ixD, vw, atI, List.length_cons, Gl.ix_1]
  rfl
theorem ix_tup {xs : List D} {i : Int} {d : D} (h : atI xs i = some d) : ixD (.tup xs) (.int i) s = .ok d s := by
  simp only [ixD, vw, h]
theorem ix_lst {xs : List D} {i : Int} {d : D} (h : atI xs i = some d) : ixD (.lst xs) (.int i) s = .ok d s := by
  simp only [ixD, vw, h]
theorem ix_dicE {kvs : List (Key × D)} {k d : D} {q : Key} (h : keyOf k = some q) (e : valD kvs q = some d) : ixD (.dic kvs) k s = .ok d s := by
  simp only [ixD, vw, h, e]
theorem e_it (φ : FE) : itD φ ds s = (φ ds s).bind itemsD := rfl
theorem e_items_tup {xs : List D} : itemsD (.tup xs) s = .ok xs s := rfl
theorem e_items_lst {xs : List D} : itemsD (.lst xs) s = .ok xs s := rfl
def rngE (xs : List D) (s : Sto) : Out (List D) := match xs with
  | [.int j] => if (decide (-(2 ^ 62) ≤ j) && decide (j < 2 ^ 62)) = true then .ok (rngL 0 j.toNat) s else .bad
  | _ => .bad
theorem e_rng1 (ψ : FA) : rng1D ψ ds s = (ψ ds s).bind rngE := rfl
theorem rngE_eq {j : Int} (h0 : -1000000 ≤ j) (h : j ≤ 1000000) : rngE [.int j] s = .ok (rngL 0 j.toNat) s := by
  show (if (decide (-(2 ^ 62 : Int) ≤ j) && decide (j < 2 ^ 62)) = true then Out.ok (rngL 0 j.toNat) s else .bad) = _
  rw [decide_eq_true (by omega), decide_eq_true (by omega)]
  rfl
def forE (γ : FG) (body : FS) (ds : DSt) (o : Out (List D)) : SOut := match o with
  | .ok xs s => forGo γ body xs ds s
  | .err c p s => .err c p ds s
  | .bad => .bad
def forO (γ : FG) (body : FS) (r : List D) (o : SOut) : SOut := match o with
  | .nx ds2 s2 => forGo γ body r ds2 s2
  | .ct ds2 s2 => forGo γ body r ds2 s2
  | .bk ds2 s2 => .nx ds2 s2
  | o => o
theorem e_for (η : FA) (γ : FG) (body : FS) : forS η γ body ds s = forE γ body ds (η ds s) := by
  unfold forS forE bindS
  cases η ds s <;> rfl
theorem e_forE (γ : FG) (body : FS) (xs : List D) : forE γ body ds (.ok xs s) = forGo γ body xs ds s := rfl
theorem e_forGo0 (γ : FG) (body : FS) : forGo γ body [] ds s = .nx ds s := rfl
theorem forGo1 (i : Nat) (body : FS) (x : D) (r : List D) : forGo (nameG i) body (x :: r) ds s = forO (nameG i) body r (body (ds.set i (some x)) s) := by
  simp only [forGo, nameG, forO] <;> (cases body (ds.set i (some x)) s <;> rfl)
theorem e_forO_nx (γ : FG) (body : FS) (r : List D) : forO γ body r (.nx ds s) = forGo γ body r ds s := rfl
theorem e_forO_ct (γ : FG) (body : FS) (r : List D) : forO γ body r (.ct ds s) = forGo γ body r ds s := rfl
theorem e_forO_bk (γ : FG) (body : FS) (r : List D) : forO γ body r (.bk ds s) = .nx ds s := rfl
theorem e_forO_rt (γ : FG) (body : FS) (r : List D) {d : D} : forO γ body r (.rt d s) = .rt d s := rfl
/-- a walk with an invariant -/
theorem for_inv {i : Nat} {body : FS} (I : Nat → DSt → Sto → Prop) : ∀ (xs : List D) (k : Nat) (ds : DSt) (s : Sto), I k ds s → (∀ (j : Nat) (x : D) (ds : DSt) (s : Sto), k ≤ j → xs[j - k]? = some x → I j ds s → ∃ ds' s', body (ds.set i (some x)) s = .nx ds' s' ∧ I (j + 1) ds' s') → ∃ ds' s', forGo (nameG i) body xs ds s = .nx ds' s' ∧ I (k + xs.length) ds' s'
  | [], k, ds, s, h, _ => ⟨ds, s, rfl, h⟩
  | x :: r, k, ds, s, h, st => by
    obtain ⟨d1, s1, e, h1⟩ := st k x ds s (Nat.le_refl _) (by rw [Nat.sub_self]; rfl) h
    obtain ⟨d2, s2, e2, h2⟩ := for_inv I r (k + 1) d1 s1 h1 fun j y ds s hj hy hI => st j y ds s (by omega) (by rw [show j - k = (j - (k + 1)) + 1 by omega]; exact hy) hI
    refine ⟨d2, s2, ?_, ?_⟩
    · rw [forGo1, e, e_forO_nx, e2]
    · rw [List.length_cons, show k + (r.length + 1) = k + 1 + r.length by omega]
      exact h2
theorem rng_at {lo : Int} {n j : Nat} {x : D} (h : (rngL lo n)[j]? = some x) : x = .int (lo + (j : Int)) ∧ j < n := by
  unfold rngL at h
  rw [List.getElem?_map] at h
  cases e : (List.range n)[j]? with
  | none => rw [e] at h; cases h
  | some k =>
    rw [e] at h
    have hl : j < n := by
      have := List.getElem?_eq_some_iff.mp e
      obtain ⟨q, _⟩ := this
      rw [List.length_range] at q
      exact q
    rw [List.getElem?_range hl] at e
    cases e
    cases h
    exact ⟨rfl, hl⟩
theorem rng_len (lo : Int) (n : Nat) : (rngL lo n).length = n := by
  unfold rngL
  rw [List.length_map, List.length_range]
/-- for i in range(n), with an invariant -/
theorem for_rng {i : Nat} {body : FS} {n : Nat} (I : Nat → DSt → Sto → Prop) {ds : DSt} {s : Sto} (h0 : I 0 ds s) (st : ∀ (j : Nat) (ds : DSt) (s : Sto), j < n → I j ds s → ∃ ds' s', body (ds.set i (some (.int (j : Int)))) s = .nx ds' s' ∧ I (j + 1) ds' s') : ∃ ds' s', forGo (nameG i) body (rngL 0 n) ds s = .nx ds' s' ∧ I n ds' s' := by
  obtain ⟨d, s', e, h⟩ := for_inv (i := i) (body := body) I (rngL 0 n) 0 ds s h0 fun j x ds s _ hx hI => by
    obtain ⟨rfl, hj⟩ := rng_at hx
    rw [Nat.sub_zero] at hj
    obtain ⟨d, s', e, h⟩ := st j ds s hj hI
    refine ⟨d, s', ?_, h⟩
    rw [Int.zero_add, Nat.sub_zero]
    exact e
  rw [Nat.zero_add, rng_len] at h
  exact ⟨d, s', e, h⟩
def lcE (γ : FG) (μ : FT) (φ : FE) (vs : List Nat) (ds : DSt) (xs : List D) (s : Sto) : Out (List D) := if xs.length < sizeLine then lcGo γ μ φ (wipeD ds vs) xs s else .bad
def lstR (ys : List D) (s : Sto) : Out D := .ok (.lst ys) s
def lstRC (ys : List D) (s : Sto) : Out D := .ok (.cell s.length) (s ++ [.lst ys])
theorem lc_map {i : Nat} {φ : FE} {ds : DSt} {s : Sto} (g : D → D) : ∀ xs : List D, (∀ x ∈ xs, φ (ds.set i (some x)) s = .ok (g x) s ∧ nc (g x) = true) → lcGo (nameG i) yesD φ ds xs s = .ok (xs.map g) s
  | [], _ => rfl
  | x :: r, h => by
    obtain ⟨e, hn⟩ := h x (List.mem_cons_self ..)
    show ((nb (φ (ds.set i (some x)) s)).bind fun y s2 => if nc y = true then (lcGo (nameG i) yesD φ ds r s2).bind fun ys s3 => .ok (y :: ys) s3 else .bad) = _
    rw [e]
    show (if nc (g x) = true then (lcGo (nameG i) yesD φ ds r s).bind fun ys s3 => .ok (g x :: ys) s3 else .bad) = _
    rw [if_pos hn, lc_map g r fun y hy => h y (List.mem_cons_of_mem _ hy)]
    rfl
theorem e_lcA (η : FA) (γ : FG) (μ : FT) (φ : FE) (vs : List Nat) : lcA η γ μ φ vs ds s = (η ds s).bind (lcE γ μ φ vs ds) := rfl
theorem e_lcD (η : FA) (γ : FG) (μ : FT) (φ : FE) (vs : List Nat) : lcD η γ μ φ vs ds s = (lcA η γ μ φ vs ds s).bind lstR := rfl
theorem e_lcC (η : FA) (γ : FG) (μ : FT) (φ : FE) (vs : List Nat) : lcC η γ μ φ vs ds s = (lcA η γ μ φ vs ds s).bind lstRC := rfl
theorem e_lstR {ys : List D} : lstR ys s = .ok (.lst ys) s := rfl
theorem lcE_eq {γ : FG} {μ : FT} {φ : FE} {vs : List Nat} {xs : List D} (h : xs.length ≤ 1000) : lcE γ μ φ vs ds xs s = lcGo γ μ φ (wipeD ds vs) xs s := if_pos (Nat.lt_of_le_of_lt h (by decide +kernel))
theorem e_wipe0 : wipeD ds [] = ds := rfl
theorem e_wipeS {v : Nat} {vs : List Nat} : wipeD ds (v :: vs) = (wipeD ds vs).set v none := rfl
def conJ (κ : FJ) (acc : Str) (ds : DSt) (o : Out D) : Out Str := match o with
  | .ok (.str y) s => if (acc ++ y).length ≤ sizeLine then κ (acc ++ y) ds s else .bad
  | .err c p s => .err c p s
  | _ => .bad
theorem e_consJ (φ : FE) (κ : FJ) (acc : Str) : consJ φ κ acc ds s = conJ κ acc ds (φ ds s) := by
  unfold consJ conJ Out.bind
  cases φ ds s <;> first | rfl | skip
  rename_i x s1
  cases x <;> rfl
theorem conJ_eq {κ : FJ} {acc y : Str} (h : (acc ++ y).length ≤ 100000) : conJ κ acc ds (.ok (.str y) s) = κ (acc ++ y) ds s := if_pos (Nat.le_trans h (by decide +kernel))
theorem e_nilJ (acc : Str) : nilJ acc ds s = .ok acc s := rfl
def strR (z : Str) (s : Sto) : Out D := .ok (.str z) s
theorem e_join (κ : FJ) : joinD κ ds s = (κ Str.empty ds s).bind strR := rfl
theorem e_strR {z : Str} : strR z s = .ok (.str z) s := rfl
def dcE (x y : D) (o : Out (List (D × D))) : Out (List (D × D)) := match o with
  | .ok ps s => .ok ((x, y) :: ps) s
  | .err c p s => .err c p s
  | _ => .bad
def dcC (x : D) (π : FP) (ds : DSt) (o : Out D) : Out (List (D × D)) := match o with
  | .ok y s => dcE x y (π ds s)
  | .err c p s => .err c p s
  | _ => .bad
def dcB (ψ : FE) (π : FP) (ds : DSt) (o : Out D) : Out (List (D × D)) := match o with
  | .ok x s => dcC x π ds (ψ ds s)
  | .err c p s => .err c p s
  | _ => .bad
theorem e_dcons (φ ψ : FE) (π : FP) : dcons φ ψ π ds s = dcB ψ π ds (φ ds s) := by
  unfold dcons dcB
  cases φ ds s <;> first | rfl | skip
  rename_i x s1
  simp only [Out.bind, dcC]
  cases ψ ds s1 <;> first | rfl | skip
  rename_i y s2
  simp only [Out.bind, dcE]
  cases π ds s2 <;> rfl
theorem e_dcB (ψ : FE) (π : FP) {x : D} : dcB ψ π ds (.ok x s) = dcC x π ds (ψ ds s) := rfl
theorem e_dcC (π : FP) {x y : D} : dcC x π ds (.ok y s) = dcE x y (π ds s) := rfl
theorem e_dcE {x y : D} {ps : List (D × D)} : dcE x y (.ok ps s) = .ok ((x, y) :: ps) s := rfl
theorem e_dnil : dnil ds s = .ok [] s := rfl
def dicE (ps : List (D × D)) (s : Sto) : Out D := match keysOf ps with
  | some kvs => if kvs.length ≤ 15 then .ok (.dic (mergeKD [] kvs)) s else .bad
  | none => .bad
theorem e_dict (π : FP) : dictD π ds s = (nb (π ds s)).bind dicE := rfl
def setE (ds : DSt) (o : Option Sto) : SOut := match o with
  | some s' => .nx ds s'
  | none => .bad
def saC (tab : Nat → Option Nat) (d : D) (ds : DSt) (o : Out D) : SOut := match o with
  | .ok x s => setE ds (setAttrD tab x d s)
  | .err c p s => .err c p ds s
  | _ => .bad
def saB (tab : Nat → Option Nat) (φ : FE) (ds : DSt) (o : Out D) : SOut := match o with
  | .ok d s => saC tab d ds (φ ds s)
  | .err c p s => .err c p ds s
  | _ => .bad
theorem e_setAttr (tab : Nat → Option Nat) (φ ψ : FE) : setAttrS tab φ ψ ds s = saB tab φ ds (ψ ds s) := by
  unfold setAttrS saB bindS
  cases ψ ds s <;> first | rfl | skip
  rename_i d s1
  simp only [saC]
  cases φ ds s1 <;> rfl
theorem e_saB (tab : Nat → Option Nat) (φ : FE) {d : D} : saB tab φ ds (.ok d s) = saC tab d ds (φ ds s) := rfl
theorem e_saC (tab : Nat → Option Nat) {d x : D} : saC tab d ds (.ok x s) = setE ds (setAttrD tab x d s) := rfl
theorem e_setE : setE ds (some s) = .nx ds s := rfl
theorem setAttr_last {tab : Nat → Option Nat} {n i : Nat} {fs : List (Option D)} {d : D} (h : tab n = some i) : setAttrD tab (.cell s.length) d (s ++ [.ins n fs]) = some (s ++ [.ins n (putO i d fs)]) := by
  simp only [setAttrD]
  rw [List.getElem?_append_right (Nat.le_refl _), Nat.sub_self]
  simp only [List.getElem?_cons_zero, h]
  rw [List.set_append_right _ _ (Nat.le_refl _), Nat.sub_self]
  rfl
theorem attr_last {tab : Nat → Option Nat} {n i : Nat} {fs : List (Option D)} {d : D} (h : tab n = some i) (e : fs[i]? = some (some d)) : attrD tab (.cell s.length) (s ++ [.ins n fs]) = .ok d (s ++ [.ins n fs]) := by
  simp only [attrD]
  rw [List.getElem?_append_right (Nat.le_refl _), Nat.sub_self]
  simp only [List.getElem?_cons_zero, h, e]
theorem cls_last {n : Nat} {fs : List (Option D)} : clsD (.cell s.length) (s ++ [.ins n fs]) = some n := by
  simp only [clsD]
  rw [List.getElem?_append_right (Nat.le_refl _), Nat.sub_self]
  rfl
theorem e_trim_last {d : D} {c c1 : Cl} : trimO (s ++ [c]).length (.ok d (s ++ [c1])) = .ok d (s ++ [c1]) := by
  refine trim_le ?_
  simp only [List.length_append, List.length_cons, List.length_nil]
  exact Nat.le_refl _
theorem e_put00 {d : D} : putO 0 d [] = [some d] := rfl
theorem e_put11 {d x : D} : putO 1 d [some x] = [some x, some d] := rfl
theorem e_put22 {d x y : D} : putO 2 d [some x, some y] = [some x, some y, some d] := rfl
theorem e_put33 {d x y z : D} : putO 3 d [some x, some y, some z] = [some x, some y, some z, some d] := rfl
theorem e_put44 {d x y z w : D} : putO 4 d [some x, some y, some z, some w] = [some x, some y, some z, some w, some d] := rfl
def siE (x d : D) (ds : DSt) (o : Out D) : SOut := match o with
  | .ok y s => setE ds (setItD x y d s)
  | .err c p s => .err c p ds s
  | _ => .bad
def siC (φi : FE) (d : D) (ds : DSt) (o : Out D) : SOut := match o with
  | .ok x s => siE x d ds (φi ds s)
  | .err c p s => .err c p ds s
  | _ => .bad
def siB (φx φi : FE) (ds : DSt) (o : Out D) : SOut := match o with
  | .ok d s => siC φi d ds (φx ds s)
  | .err c p s => .err c p ds s
  | _ => .bad
theorem e_setIt (φx φi φv : FE) : setItS φx φi φv ds s = siB φx φi ds (φv ds s) := by
  unfold setItS siB bindS
  cases φv ds s <;> first | rfl | skip
  rename_i d s1
  simp only [siC]
  cases φx ds s1 <;> first | rfl | skip
  rename_i x s2
  simp only [siE]
  cases φi ds s2 <;> rfl
theorem e_siB (φx φi : FE) {d : D} : siB φx φi ds (.ok d s) = siC φi d ds (φx ds s) := rfl
theorem e_siC (φi : FE) {d x : D} : siC φi d ds (.ok x s) = siE x d ds (φi ds s) := rfl
theorem e_siE {x y d : D} : siE x d ds (.ok y s) = setE ds (setItD x y d s) := rfl
def lcK (y : D) (o : Out (List D)) : Out (List D) := match o with
  | .ok ys s => .ok (y :: ys) s
  | .err c p s => .err c p s
  | _ => .bad
def lcB (γ : FG) (μ : FT) (φ : FE) (ds : DSt) (r : List D) (o : Out D) : Out (List D) := match o with
  | .ok y s => if nc y = true then lcK y (lcGo γ μ φ ds r s) else .bad
  | .err c p s => .err c p s
  | _ => .bad
theorem e_lcGo0 (γ : FG) (μ : FT) (φ : FE) : lcGo γ μ φ ds [] s = .ok [] s := rfl
theorem e_lcGoY (i : Nat) (φ : FE) (x : D) (r : List D) : lcGo (nameG i) yesD φ ds (x :: r) s = lcB (nameG i) yesD φ ds r (nb (φ (ds.set i (some x)) s)) := by
  show ((nb (φ (ds.set i (some x)) s)).bind fun y s2 => if nc y = true then (lcGo (nameG i) yesD φ ds r s2).bind fun ys s3 => .ok (y :: ys) s3 else .bad) = _
  cases nb (φ (ds.set i (some x)) s) <;> first | rfl | skip
  rename_i y s1
  simp only [Out.bind, lcB, lcK]
  split <;> first | rfl | skip
  cases lcGo (nameG i) yesD φ ds r s1 <;> rfl
theorem e_lcB (γ : FG) (μ : FT) (φ : FE) {r : List D} {y : D} (h : nc y = true) : lcB γ μ φ ds r (.ok y s) = lcK y (lcGo γ μ φ ds r s) := if_pos h
theorem e_lcK {y : D} {ys : List D} : lcK y (.ok ys s) = .ok (y :: ys) s := rfl
theorem pow_eq {a b : Int} (h : (decide (0 ≤ b) && decide ((Builtin.Int.intBits a : Int) * b ≤ 2 ^ 27)) = true) : powD (.int a) (.int b) s = .ok (.int (a ^ b.toNat)) s := if_pos h
theorem trim_new {c : Cl} : trimO s.length (.ok (.cell s.length) (s ++ [c])) = .ok (.cell s.length) (s ++ [c]) := by
  show Out.ok _ (trimS s.length [.cell s.length] (s ++ [c])) = _
  unfold trimS
  rw [if_neg (by rw [List.length_append, List.length_cons, List.length_nil]; omega), if_neg]
  simp only [List.all_cons, belowD, Nat.lt_irrefl, decide_false, Bool.false_and, Bool.false_eq_true, not_false_eq_true]
/-! ### dice -/
structure Dn (n : Nat) (s : Sto) : Prop where
  at_ : ∃ l k c : Int, s[n]? = some (.lst [.int l, .int k, .int c])
  calm : ∀ m, okS m s = true
theorem Dn.lt {n : Nat} (h : Dn n s) : n < s.length := by
  obtain ⟨l, k, c, e⟩ := h.at_
  exact (List.getElem?_eq_some_iff.mp e).1
theorem Dn.put {n : Nat} (h : Dn n s) (l k c : Int) : Dn n (s.set n (.lst [.int l, .int k, .int c])) := by
  refine ⟨⟨l, k, c, ?_⟩, fun m => ?_⟩
  · rw [List.getElem?_set_self h.lt]
  · have := h.calm m
    unfold okS at this ⊢
    rw [List.all_eq_true] at this ⊢
    intro x hx
    rcases List.mem_or_eq_of_mem_set hx with q | rfl
    · exact this x q
    · rfl
theorem calm_nil : ∀ m, okS m [] = true := fun _ => rfl
theorem Dn.new (hs : ∀ m, okS m s = true) (l k c : Int) : Dn s.length (s ++ [.lst [.int l, .int k, .int c]]) := by
  refine ⟨⟨l, k, c, by rw [List.getElem?_append_right (Nat.le_refl _), Nat.sub_self]; rfl⟩, fun m => ?_⟩
  have := hs m
  unfold okS at this ⊢
  rw [List.all_append, this]
  rfl
theorem ix_cell {n : Nat} {xs : List D} {i : Int} {d : D} (e : s[n]? = some (.lst xs)) (h : atI xs i = some d) : ixD (.cell n) (.int i) s = .ok d s := by
  simp only [ixD, vw, e, h]
theorem setIt_eq {φx φi φv : FE} {ds : DSt} {x y d : D} (hv : φv ds s = .ok d s) (hx : φx ds s = .ok x s) (hi : φi ds s = .ok y s) : setItS φx φi φv ds s = setE ds (setItD x y d s) := by
  unfold setItS
  rw [hv]
  simp only [bindS]
  rw [hx]
  simp only [bindS]
  rw [hi]
  rfl
theorem setItD_eq {n j : Nat} {xs : List D} {i : Int} {d : D} (e : s[n]? = some (.lst xs)) (h : ixN xs.length i = some j) (hd : nc d = true) : setItD (.cell n) (.int i) d s = some (s.set n (.lst (xs.set j d))) := by
  simp only [setItD, e, h, hd, if_true]
/-- all of them, in one -/
def evAll := And.intro @e_bind_ok (And.intro @e_bind_err (And.intro @e_bindX (And.intro @e_seq (And.intro @e_seqO_nx (And.intro @e_seqO_rt (And.intro @e_seqO_bk (And.intro @e_seqO_ct (And.intro @e_seqO_err (And.intro @e_nil (And.intro @e_brk (And.intro @e_cnt (And.intro @e_retN (And.intro @e_expr (And.intro @e_exprB (And.intro @e_exprB_err (And.intro @e_ret (And.intro @e_retB (And.intro @e_retB_err (And.intro @e_if (And.intro @e_ifB_t (And.intro @e_ifB_f (And.intro @e_ifB_err (And.intro @e_asg (And.intro @e_asgB (And.intro @e_asgB_err (And.intro @e_asgO (And.intro @e_name (And.intro @e_nilG (And.intro @e_consG (And.intro @e_consE (And.intro @e_tupG (And.intro @e_par (And.intro @e_parE (And.intro @e_par3 (And.intro @e_par3E (And.intro @e_var0 (And.intro @e_varS (And.intro @e_c (And.intro @e_nilD (And.intro @e_cons (And.intro @e_consB (And.intro @e_consB_err (And.intro @e_consC (And.intro @e_consC_err (And.intro @e_op2 (And.intro @e_opB (And.intro @e_opB_err (And.intro @e_opC (And.intro @e_opC_err (And.intro @e_test (And.intro @e_asB (And.intro @e_not (And.intro @e_neg (And.intro @e_and (And.intro @e_andB_go (And.intro @e_andB_st (And.intro @e_andB_err (And.intro @e_andT (And.intro @e_andT_go (And.intro @e_andT_st (And.intro @e_andT_err (And.intro @e_or (And.intro @e_orB_go (And.intro @e_orB_st (And.intro @e_orB_err (And.intro @e_orT (And.intro @e_orT_go (And.intro @e_orT_st (And.intro @e_orT_err (And.intro @e_notT (And.intro @e_notE (And.intro @e_ifD (And.intro @e_ifE_t (And.intro @e_ifE_f (And.intro @e_ifE_err (And.intro @e_yes (And.intro @e_chain (And.intro @e_chB (And.intro @e_chC (And.intro @e_chE_t (And.intro @e_chE_f (And.intro @e_tup (And.intro @e_lst (And.intro @e_lstC (And.intro @e_tupE0 (And.intro @e_lstE0 (And.intro @e_lstCE0 (And.intro @e_tupE1 (And.intro @e_lstE1 (And.intro @e_lstCE1 (And.intro @e_tupE2 (And.intro @e_lstE2 (And.intro @e_lstCE2 (And.intro @e_tupE3 (And.intro @e_lstE3 (And.intro @e_lstCE3 (And.intro @e_tupE4 (And.intro @e_lstE4 (And.intro @e_lstCE4 (And.intro @e_tupE5 (And.intro @e_lstE5 (And.intro @e_lstCE5 (And.intro @e_tupE6 (And.intro @e_lstE6 (And.intro @e_lstCE6 (And.intro @e_tupE7 (And.intro @e_lstE7 (And.intro @e_lstCE7 (And.intro @e_tupE8 (And.intro @e_lstE8 (And.intro @e_lstCE8 (And.intro @e_tupE9 (And.intro @e_lstE9 (And.intro @e_lstCE9 (And.intro @e_tupE10 (And.intro @e_lstE10 (And.intro @e_lstCE10 (And.intro @e_tupE11 (And.intro @e_lstE11 (And.intro @e_lstCE11 (And.intro @e_tupE12 (And.intro @e_lstE12 (And.intro @e_lstCE12 (And.intro @e_nc_int (And.intro @e_nc_str (And.intro @e_nc_bl (And.intro @e_nc_tup (And.intro @e_nc_lst (And.intro @e_nc_dic (And.intro @e_nc_scr (And.intro @e_nc_non (And.intro @e_nc_ins (And.intro @e_raw (And.intro @e_end_rt (And.intro @e_end_nx (And.intro @e_end_err (And.intro @e_trim_self (And.intro @e_trim_errS (And.intro @e_body1 (And.intro @e_body0 (And.intro @e_body2 (And.intro @e_body3 (And.intro @e_body4 (And.intro @e_body5 (And.intro @e_body6 (And.intro @e_guard (And.intro @e_nb_ok (And.intro @e_rep0 (And.intro @e_repS (And.intro @e_set0 (And.intro @e_setS (And.intro @e_callD (And.intro @e_callB (And.intro @e_isiD (And.intro @e_isiE (And.intro @e_meth (And.intro @e_methB (And.intro @e_methC (And.intro @e_prop (And.intro @e_propE (And.intro @e_make (And.intro @e_binOwn (And.intro @e_unOwn (And.intro @e_ixOwn (And.intro @e_cmpOwn (And.intro @e_right_ins (And.intro @e_right_int (And.intro @e_right_str (And.intro @e_right_tup (And.intro @e_right_lst (And.intro @e_right_dic (And.intro @e_right_bl (And.intro @e_right_non (And.intro @e_ans (And.intro @e_strOwn (And.intro @e_strO (And.intro @e_boolOwn (And.intro @e_isiC_same (And.intro @e_isiC_diff (And.intro @e_isiC_int (And.intro @e_isiT_int_int (And.intro @e_isiT_int_bool (And.intro @e_isiT_int_str (And.intro @e_isiT_int_tuple (And.intro @e_isiT_int_list (And.intro @e_isiT_int_dict (And.intro @e_isiC_str (And.intro @e_isiT_str_int (And.intro @e_isiT_str_bool (And.intro @e_isiT_str_str (And.intro @e_isiT_str_tuple (And.intro @e_isiT_str_list (And.intro @e_isiT_str_dict (And.intro @e_isiC_bl (And.intro @e_isiT_bl_int (And.intro @e_isiT_bl_bool (And.intro @e_isiT_bl_str (And.intro @e_isiT_bl_tuple (And.intro @e_isiT_bl_list (And.intro @e_isiT_bl_dict (And.intro @e_isiC_tup (And.intro @e_isiT_tup_int (And.intro @e_isiT_tup_bool (And.intro @e_isiT_tup_str (And.intro @e_isiT_tup_tuple (And.intro @e_isiT_tup_list (And.intro @e_isiT_tup_dict (And.intro @e_isiC_lst (And.intro @e_isiT_lst_int (And.intro @e_isiT_lst_bool (And.intro @e_isiT_lst_str (And.intro @e_isiT_lst_tuple (And.intro @e_isiT_lst_list (And.intro @e_isiT_lst_dict (And.intro @e_isiC_dic (And.intro @e_isiT_dic_int (And.intro @e_isiT_dic_bool (And.intro @e_isiT_dic_str (And.intro @e_isiT_dic_tuple (And.intro @e_isiT_dic_list (And.intro @e_isiT_dic_dict (And.intro @e_isiC_non (And.intro @e_isiT_non_int (And.intro @e_isiT_non_bool (And.intro @e_isiT_non_str (And.intro @e_isiT_non_tuple (And.intro @e_isiT_non_list (And.intro @e_isiT_non_dict (And.intro @e_isiT_ins (And.intro @e_add (And.intro @e_sub (And.intro @e_mul (And.intro @e_mod (And.intro @e_div (And.intro @e_lt (And.intro @e_le (And.intro @e_gt (And.intro @e_ge (And.intro @e_eq_int (And.intro @e_ne_int (And.intro @e_eq_str (And.intro @e_ne_str (And.intro @e_eq_bl (And.intro @e_ne_bl (And.intro @e_eqP2 (And.intro @e_neP2 (And.intro @e_isN_int (And.intro @e_isNN_int (And.intro @e_isN_str (And.intro @e_isNN_str (And.intro @e_isN_tup (And.intro @e_isNN_tup (And.intro @e_isN_lst (And.intro @e_isNN_lst (And.intro @e_isN_dic (And.intro @e_isNN_dic (And.intro @e_isN_bl (And.intro @e_isNN_bl (And.intro @e_isN_ins (And.intro @e_isNN_ins (And.intro @e_isN_non (And.intro @e_isNN_non (And.intro @e_len_tup (And.intro @e_len_lst (And.intro @e_len_scr (And.intro @e_len_dic (And.intro @e_abs (And.intro @e_int (And.intro @e_intB (And.intro @e_max (And.intro @e_min (And.intro @e_tuple_tup (And.intro @e_tuple_lst (And.intro @e_list_tup (And.intro @e_list_lst (And.intro @e_str (And.intro @e_fmt (And.intro @e_ixt0 (And.intro @e_ixt1 (And.intro @e_ixl0 (And.intro @e_ixl1 (And.intro @e_it (And.intro @e_items_tup (And.intro @e_items_lst (And.intro @e_rng1 (And.intro @e_for (And.intro @e_forE (And.intro @e_forGo0 (And.intro @e_forO_nx (And.intro @e_forO_ct (And.intro @e_forO_bk (And.intro @e_forO_rt (And.intro @e_lcA (And.intro @e_lcD (And.intro @e_lcC (And.intro @e_lstR (And.intro @e_wipe0 (And.intro @e_wipeS (And.intro @e_consJ (And.intro @e_nilJ (And.intro @e_join (And.intro @e_strR (And.intro @e_dcons (And.intro @e_dcB (And.intro @e_dcC (And.intro @e_dcE (And.intro @e_dnil (And.intro @e_dict (And.intro @e_setAttr (And.intro @e_saB (And.intro @e_saC (And.intro @e_setE (And.intro @e_trim_last (And.intro @e_put00 (And.intro @e_put11 (And.intro @e_put22 (And.intro @e_put33 (And.intro @e_put44 (And.intro @e_setIt (And.intro @e_siB (And.intro @e_siC (And.intro @e_siE (And.intro @e_lcGo0 (And.intro @e_lcGoY (And.intro @e_lcB @e_lcK)))))))))))))))))))))))))))))))))))))))))))))))))))))))))))))))))))))))))))))))))))))))))))))))))))))))))))))))))))))))))))))))))))))))))))))))))))))))))))))))))))))))))))))))))))))))))))))))))))))))))))))))))))))))))))))))))))))))))))))))))))))))))))))))))))))))))))))))))))))))))))))))))))))))))))))))))))))))))))))))))))))
end
end Md

set_option Elab.async false
set_option maxRecDepth 100000
set_option maxHeartbeats 4000000
set_option linter.all false
/-! the mirror layer: from a law's data to its promise -/
namespace Md
open PySem PySem.Spec PyProof.Rows L2
/-- True, for every script of at most 63 numbers -/
def spL (K : PySem.W.Frag) : Sp := fun vs H Q _ => ∃ (a : Addr) (ns : List Int), vs = [.ref a] ∧ SqL K H a (ns.map V.int) ∧ ns.length ≤ 63 ∧ ∀ H', Q (.bl true) H'
theorem spL_of {K : PySem.W.Frag} {Γ : Nat → Addr} {m : Fn} (h : ∀ ns : List Int, ns.length ≤ 63 → ∃ s', m [.scr ns] [] = .ok (.bl true) s') {vs : List V} {H : Hp} {Q : VK} {E : XK} (p : spL K vs H Q E) : spD K Γ m vs H Q E := by
  obtain ⟨a, ns, rfl, hS, hl, k⟩ := p
  obtain ⟨s', e⟩ := h ns hl
  refine ⟨fun _ => none, H, [], [], [.scr ns], .cons (.scr hS) .nil, ⟨Same.refl _, (fun _ _ e => nomatch e), (fun _ _ e => nomatch e), List.nodup_nil, rfl, (fun _ e => nomatch e), (fun _ _ _ e => nomatch e)⟩, ?_⟩
  rw [e]
  intro v H' F' ι' _ _ r
  cases r
  exact k H'
theorem fin_law {P : Program} {w : World} {K : PySem.W.Frag} {mg : Str → Option Value} {base : Heap} {Γ : Nat → Addr} {m : Fn} {n : Nat} {fa : Addr} {fd : FuncData} {ps : List Str} (F : Gl.FnG P w K mg base CX0 n fa fd ps (spD K Γ m)) (h : ∀ ns : List Int, ns.length ≤ 63 → ∃ s', m [.scr ns] [] = .ok (.bl true) s') : Gl.FnG P w K mg base CX0 n fa fd ps (spL K) :=
  ⟨fun vs H Q E p => F.len vs H Q E (spL_of h p), fun A outer s H args us vs Q E a b c d e p => F.go A outer s H args us vs Q E a b c d e (spL_of h p)⟩
end Md

set_option Elab.async false
set_option maxRecDepth 100000
set_option maxHeartbeats 4000000
set_option linter.all false
/-! points, their algebra and their sizes: no program in sight -/
namespace Pl
open PySem Md
def nameOf (tri : Bool) : Str := if tri then "triangle" else "square"
theorem isTri (tri : Bool) : decide (nameOf tri = Str.ofString "triangle") = tri := by cases tri <;> decide +kernel
theorem isSq (tri : Bool) : decide (nameOf tri = Str.ofString "square") = !tri := by cases tri <;> decide +kernel
def mulX (a b c d : Int) : Int := a * c - b * d
def mulY (tri : Bool) (a b c d : Int) : Int := a * d + b * c + (if tri then b * d else 0)
def nrm (tri : Bool) (a b : Int) : Int := a * a + b * b + (if tri then a * b else 0)
def flX (tri : Bool) (a b : Int) : Int := if tri then a + b else a
def nUn (tri : Bool) : Int := if tri then 6 else 4
def uX (tri : Bool) (r : Int) : Int := if tri then (if r = 0 then 1 else if r = 1 then 0 else if r = 2 then -1 else if r = 3 then -1 else if r = 4 then 0 else 1) else (if r = 0 then 1 else if r = 1 then 0 else if r = 2 then -1 else 0)
def uY (tri : Bool) (r : Int) : Int := if tri then (if r = 0 then 0 else if r = 1 then 1 else if r = 2 then 1 else if r = 3 then 0 else if r = 4 then -1 else -1) else (if r = 0 then 0 else if r = 1 then 1 else if r = 2 then 0 else -1)
theorem nUn_pos (tri : Bool) : 0 < nUn tri := by cases tri <;> decide
theorem fin_cases {n r : Int} (h0 : 0 ≤ r) (h1 : r < n) (hn : n ≤ 6) : r = 0 ∨ r = 1 ∨ r = 2 ∨ r = 3 ∨ r = 4 ∨ r = 5 := by omega
theorem mod_in (tri : Bool) (n : Int) : 0 ≤ n % nUn tri ∧ n % nUn tri < nUn tri := ⟨Int.emod_nonneg _ (by cases tri <;> decide), Int.emod_lt_of_pos _ (nUn_pos tri)⟩
theorem abs_mul_lt {a c : Int} {B : Nat} (h1 : a.natAbs < B) (h2 : c.natAbs < B) : (a * c).natAbs < B * B := by
  rw [Int.natAbs_mul]
  exact Nat.mul_lt_mul'' h1 h2
theorem mulX_lt {a b c d : Int} {B : Nat} (ha : a.natAbs < B) (hb : b.natAbs < B) (hc : c.natAbs < B) (hd : d.natAbs < B) : (mulX a b c d).natAbs < 3 * (B * B) := by
  have h1 := abs_mul_lt ha hc
  have h2 := abs_mul_lt hb hd
  unfold mulX
  generalize a * c = x at *
  generalize b * d = y at *
  omega
theorem mulY_lt {tri : Bool} {a b c d : Int} {B : Nat} (ha : a.natAbs < B) (hb : b.natAbs < B) (hc : c.natAbs < B) (hd : d.natAbs < B) : (mulY tri a b c d).natAbs < 3 * (B * B) := by
  have h1 := abs_mul_lt ha hd
  have h2 := abs_mul_lt hb hc
  have h3 := abs_mul_lt hb hd
  unfold mulY
  generalize a * d = x at *
  generalize b * c = y at *
  generalize b * d = z at *
  split <;> omega
theorem nrm_lt {tri : Bool} {a b : Int} {B : Nat} (ha : a.natAbs < B) (hb : b.natAbs < B) : (nrm tri a b).natAbs < 3 * (B * B) := by
  have h1 := abs_mul_lt ha ha
  have h2 := abs_mul_lt hb hb
  have h3 := abs_mul_lt ha hb
  unfold nrm
  generalize a * a = x at *
  generalize b * b = y at *
  generalize a * b = z at *
  split <;> omega
theorem flX_lt {tri : Bool} {a b : Int} {B : Nat} (ha : a.natAbs < B) (hb : b.natAbs < B) : (flX tri a b).natAbs < 2 * B := by
  unfold flX
  split <;> omega
/-! ### bounds, by figures -/
def Bd (n : Nat) (x : Int) : Prop := x.natAbs < 10 ^ n
theorem Bd.up {n m : Nat} {x : Int} (h : Bd n x) (e : n ≤ m) : Bd m x := Nat.lt_of_lt_of_le h (Nat.pow_le_pow_right (by decide) e)
theorem bd3 (n : Nat) : 3 * (10 ^ n * 10 ^ n) ≤ 10 ^ (2 * n + 1) := by
  rw [Nat.pow_succ, Nat.two_mul, Nat.pow_add]
  omega
theorem bd2 (n : Nat) : 2 * 10 ^ n ≤ 10 ^ (n + 1) := by
  rw [Nat.pow_succ]; omega
theorem Bd.mulX {n : Nat} {a b c d : Int} (ha : Bd n a) (hb : Bd n b) (hc : Bd n c) (hd : Bd n d) : Bd (2 * n + 1) (mulX a b c d) := Nat.lt_of_lt_of_le (mulX_lt ha hb hc hd) (bd3 n)
theorem Bd.mulY {n : Nat} {tri : Bool} {a b c d : Int} (ha : Bd n a) (hb : Bd n b) (hc : Bd n c) (hd : Bd n d) : Bd (2 * n + 1) (mulY tri a b c d) := Nat.lt_of_lt_of_le (mulY_lt ha hb hc hd) (bd3 n)
theorem Bd.nrm {n : Nat} {tri : Bool} {a b : Int} (ha : Bd n a) (hb : Bd n b) : Bd (2 * n + 1) (nrm tri a b) := Nat.lt_of_lt_of_le (nrm_lt ha hb) (bd3 n)
theorem Bd.flX {n : Nat} {tri : Bool} {a b : Int} (ha : Bd n a) (hb : Bd n b) : Bd (n + 1) (flX tri a b) := Nat.lt_of_lt_of_le (flX_lt ha hb) (bd2 n)
theorem Bd.add {n : Nat} {a b : Int} (ha : Bd n a) (hb : Bd n b) : Bd (n + 1) (a + b) := by
  refine Nat.lt_of_lt_of_le ?_ (bd2 n)
  unfold Bd at ha hb
  generalize 10 ^ n = B at *
  omega
theorem Bd.neg {n : Nat} {a : Int} (ha : Bd n a) : Bd n (-a) := by
  unfold Bd; rw [Int.natAbs_neg]; exact ha
theorem Bd.div {n : Nat} {a b : Int} (ha : Bd n a) (hb : 0 < b) : Bd (n + 1) (a / b) := by
  refine Nat.lt_of_lt_of_le ?_ (bd2 n)
  unfold Bd at ha
  have e : (a / b).natAbs ≤ a.natAbs := Int.natAbs_ediv_le_natAbs a b
  generalize 10 ^ n = B at *
  omega
theorem Bd.wide {n : Nat} {a : Int} (ha : Bd n a) (e : n ≤ 4300) : a.natAbs < 10 ^ 4300 := ha.up e
theorem bd20 {x : Int} (h : x.natAbs ≤ 20) : Bd 2 x := Nat.lt_of_le_of_lt h (by decide)
theorem log_lt {n k : Nat} (h : n < 2 ^ k) (hk : 0 < k) : n.log2 < k := by
  by_cases z : n = 0
  · subst z
    rw [Nat.log2_zero]
    exact hk
  · exact (Nat.log2_lt z).mpr h
theorem Bd.smB {n : Nat} {x : Int} (h : Bd n x) (e : n ≤ 10000) : Md.smB x = true := decide_eq_true (log_lt (Nat.lt_of_lt_of_le (h.up e) (by decide +kernel)) (by decide))
theorem Bd.str {n : Nat} {x : Int} (h : Bd n x) (e : n ≤ 577) : x.natAbs.log2 < 1920 := log_lt (Nat.lt_of_lt_of_le (h.up e) (by decide +kernel)) (by decide)
theorem Bd.b9 {n : Nat} {x : Int} (h : Bd n x) (e : n ≤ 2400) : x < Gl.B9 := by
  have h1 : x.natAbs < 2 ^ 8000 := Nat.lt_of_lt_of_le (h.up e) (by decide +kernel)
  unfold Gl.B9
  have : ((2 ^ 8000 : Nat) : Int) = 2 ^ 8000 := by decide +kernel
  rw [← this]
  generalize (2 ^ 8000 : Nat) = B at *
  omega
theorem Bd.sub {n : Nat} {a b : Int} (ha : Bd n a) (hb : Bd n b) : Bd (n + 1) (a - b) := by
  rw [Int.sub_eq_add_neg]
  exact ha.add hb.neg
theorem Bd.mul {n m : Nat} {a b : Int} (ha : Bd n a) (hb : Bd m b) : Bd (n + m) (a * b) := by
  unfold Bd
  rw [Int.natAbs_mul, Nat.pow_add]
  exact Nat.mul_lt_mul'' ha hb
theorem bd_lit {n : Nat} {x : Int} (h : x.natAbs < 10 ^ n) : Bd n x := h
theorem mulB_bd {n m : Nat} {a b : Int} (ha : Bd n a) (hb : Bd m b) (e : n ≤ 10000) (e2 : m ≤ 10000) : mulB a b = true := mulB_s (ha.smB e) (hb.smB e2)
/-! ### the algebra of points -/
theorem mulX_comm (a b c d : Int) : mulX c d a b = mulX a b c d := by unfold mulX; grind
theorem mulY_comm (tri : Bool) (a b c d : Int) : mulY tri c d a b = mulY tri a b c d := by unfold mulY; cases tri <;> grind
theorem nrm_mul (tri : Bool) (a b c d : Int) : nrm tri (mulX a b c d) (mulY tri a b c d) = nrm tri a b * nrm tri c d := by
  unfold nrm mulX mulY; cases tri <;> simp only [if_true, Bool.false_eq_true, if_false] <;> grind
theorem conj2 (tri : Bool) (a b : Int) : flX tri (flX tri a b) (-b) = a := by unfold flX; cases tri <;> grind
theorem self_conj (tri : Bool) (a b : Int) : mulX a b (flX tri a b) (-b) = nrm tri a b ∧ mulY tri a b (flX tri a b) (-b) = 0 := by
  unfold nrm mulX mulY flX; cases tri <;> simp only [if_true, Bool.false_eq_true, if_false] <;> constructor <;> grind
theorem conj_mul (tri : Bool) (a b c d : Int) : flX tri (mulX a b c d) (mulY tri a b c d) = mulX (flX tri a b) (-b) (flX tri c d) (-d) ∧ -(mulY tri a b c d) = mulY tri (flX tri a b) (-b) (flX tri c d) (-d) := by
  unfold mulX mulY flX; cases tri <;> simp only [if_true, Bool.false_eq_true, if_false] <;> constructor <;> grind
theorem assoc (tri : Bool) (a b c d e f : Int) : mulX (mulX a b c d) (mulY tri a b c d) e f = mulX a b (mulX c d e f) (mulY tri c d e f) ∧
    mulY tri (mulX a b c d) (mulY tri a b c d) e f = mulY tri a b (mulX c d e f) (mulY tri c d e f) := by
  unfold mulX mulY; cases tri <;> simp only [if_true, Bool.false_eq_true, if_false] <;> constructor <;> grind
theorem dist (tri : Bool) (a b c d e f : Int) : mulX (a + c) (b + d) e f = mulX a b e f + mulX c d e f ∧ mulY tri (a + c) (b + d) e f = mulY tri a b e f + mulY tri c d e f := by
  unfold mulX mulY; cases tri <;> simp only [if_true, Bool.false_eq_true, if_false] <;> constructor <;> grind
/-- times the divisor and its conjugate -/
theorem back (tri : Bool) (x y c d : Int) : mulX (mulX x y c d) (mulY tri x y c d) (flX tri c d) (-d) = x * nrm tri c d ∧ mulY tri (mulX x y c d) (mulY tri x y c d) (flX tri c d) (-d) = y * nrm tri c d := by
  unfold nrm mulX mulY flX; cases tri <;> simp only [if_true, Bool.false_eq_true, if_false] <;> constructor <;> grind
/-- (p * conj d) * d = N p -/
theorem forth (tri : Bool) (a b c d : Int) : mulX (mulX a b (flX tri c d) (-d)) (mulY tri a b (flX tri c d) (-d)) c d = nrm tri c d * a ∧ mulY tri (mulX a b (flX tri c d) (-d)) (mulY tri a b (flX tri c d) (-d)) c d = nrm tri c d * b := by
  unfold nrm mulX mulY flX; cases tri <;> simp only [if_true, Bool.false_eq_true, if_false] <;> constructor <;> grind
theorem scale (tri : Bool) (n x y c d : Int) : mulX (n * x) (n * y) c d = n * mulX x y c d ∧ mulY tri (n * x) (n * y) c d = n * mulY tri x y c d := by
  unfold mulX mulY; cases tri <;> simp only [if_true, Bool.false_eq_true, if_false] <;> constructor <;> grind
theorem nrm_pos (tri : Bool) (c d : Int) (h : ¬ (c = 0 ∧ d = 0)) : 0 < nrm tri c d := by
  have sq : ∀ x : Int, 0 ≤ x * x := fun x => by
    rcases Int.le_total 0 x with h | h
    · exact Int.mul_nonneg h h
    · have := Int.mul_nonneg (Int.neg_nonneg_of_nonpos h) (Int.neg_nonneg_of_nonpos h)
      rwa [Int.neg_mul_neg] at this
  have sp : ∀ x : Int, x ≠ 0 → 0 < x * x := fun x hx => by
    have h1 := sq x
    have h2 : x * x ≠ 0 := fun z => hx ((Int.mul_eq_zero.mp z).elim id id)
    omega
  unfold nrm
  cases tri with
  | false =>
    simp only [Bool.false_eq_true, if_false]
    by_cases hc : c = 0
    · have := sp d (fun z => h ⟨hc, z⟩); have := sq c; omega
    · have := sp c hc; have := sq d; omega
  | true =>
    simp only [if_true]
    have e : 2 * (c * c + d * d + c * d) = c * c + d * d + (c + d) * (c + d) := by grind
    have h3 := sq (c + d)
    by_cases hc : c = 0
    · have := sp d (fun z => h ⟨hc, z⟩); have := sq c; omega
    · have := sp c hc; have := sq d; omega
/-- a quotient is one exactly if it is whole -/
theorem quot_yes {tri : Bool} {a b c d : Int} (h : ¬ (c = 0 ∧ d = 0)) (z1 : mulX a b (flX tri c d) (-d) % nrm tri c d = 0) (z2 : mulY tri a b (flX tri c d) (-d) % nrm tri c d = 0) :
    mulX (mulX a b (flX tri c d) (-d) / nrm tri c d) (mulY tri a b (flX tri c d) (-d) / nrm tri c d) c d = a ∧ mulY tri (mulX a b (flX tri c d) (-d) / nrm tri c d) (mulY tri a b (flX tri c d) (-d) / nrm tri c d) c d = b := by
  have n0 := nrm_pos tri c d h
  have f := forth tri a b c d
  generalize hX : mulX a b (flX tri c d) (-d) = X at *
  generalize hY : mulY tri a b (flX tri c d) (-d) = Y at *
  generalize hN : nrm tri c d = N at *
  have e1 : X = N * (X / N) := by have := Int.emod_add_mul_ediv X N; omega
  have e2 : Y = N * (Y / N) := by have := Int.emod_add_mul_ediv Y N; omega
  have s := scale tri N (X / N) (Y / N) c d
  rw [← e1, ← e2] at s
  have g1 : N * mulX (X / N) (Y / N) c d = N * a := s.1.symm.trans f.1
  have g2 : N * mulY tri (X / N) (Y / N) c d = N * b := s.2.symm.trans f.2
  exact ⟨Int.eq_of_mul_eq_mul_left (by omega) g1, Int.eq_of_mul_eq_mul_left (by omega) g2⟩
theorem quot_only {tri : Bool} {a b c d x y : Int} (h : ¬ (c = 0 ∧ d = 0)) (e1 : mulX x y c d = a) (e2 : mulY tri x y c d = b) :
    (mulX a b (flX tri c d) (-d) % nrm tri c d = 0 ∧ mulY tri a b (flX tri c d) (-d) % nrm tri c d = 0) ∧ x = mulX a b (flX tri c d) (-d) / nrm tri c d ∧ y = mulY tri a b (flX tri c d) (-d) / nrm tri c d := by
  have n0 := nrm_pos tri c d h
  have f := back tri x y c d
  rw [e1, e2] at f
  rw [f.1, f.2]
  have nz : nrm tri c d ≠ 0 := by omega
  exact ⟨⟨Int.mul_emod_left _ _, Int.mul_emod_left _ _⟩, (Int.mul_ediv_cancel _ nz).symm, (Int.mul_ediv_cancel _ nz).symm⟩
/-! ### turning -/
def rX (tri : Bool) (a b n : Int) : Int := mulX a b (uX tri (n % nUn tri)) (uY tri (n % nUn tri))
def rY (tri : Bool) (a b n : Int) : Int := mulY tri a b (uX tri (n % nUn tri)) (uY tri (n % nUn tri))
theorem all_r {tri : Bool} {n : Int} {Q : Bool → Int → Prop} (h4 : ∀ r : Fin 4, Q false r.val) (h6 : ∀ r : Fin 6, Q true r.val) : Q tri (n % nUn tri) := by
  have m := mod_in tri n
  cases tri
  · have e := h4 ⟨(n % nUn false).toNat, by change 0 ≤ n % 4 ∧ n % 4 < 4 at m; show (n % 4).toNat < 4; omega⟩
    rwa [show (((n % nUn false).toNat : Nat) : Int) = n % nUn false from Int.toNat_of_nonneg m.1] at e
  · have e := h6 ⟨(n % nUn true).toNat, by change 0 ≤ n % 6 ∧ n % 6 < 6 at m; show (n % 6).toNat < 6; omega⟩
    rwa [show (((n % nUn true).toNat : Nat) : Int) = n % nUn true from Int.toNat_of_nonneg m.1] at e
theorem nrm_u (tri : Bool) (n : Int) : nrm tri (uX tri (n % nUn tri)) (uY tri (n % nUn tri)) = 1 :=
  all_r (Q := fun tri r => nrm tri (uX tri r) (uY tri r) = 1) (by decide +kernel) (by decide +kernel)
theorem nrm_r (tri : Bool) (a b n : Int) : nrm tri (rX tri a b n) (rY tri a b n) = nrm tri a b := by
  unfold rX rY
  rw [nrm_mul, nrm_u, Int.mul_one]
theorem u_add (tri : Bool) (m n : Int) : mulX (uX tri (m % nUn tri)) (uY tri (m % nUn tri)) (uX tri (n % nUn tri)) (uY tri (n % nUn tri)) = uX tri ((m + n) % nUn tri) ∧ mulY tri (uX tri (m % nUn tri)) (uY tri (m % nUn tri)) (uX tri (n % nUn tri)) (uY tri (n % nUn tri)) = uY tri ((m + n) % nUn tri) := by
  rw [Int.add_emod]
  exact all_r (tri := tri) (n := m) (Q := fun tri r => mulX (uX tri r) (uY tri r) (uX tri (n % nUn tri)) (uY tri (n % nUn tri)) = uX tri ((r + n % nUn tri) % nUn tri) ∧ mulY tri (uX tri r) (uY tri r) (uX tri (n % nUn tri)) (uY tri (n % nUn tri)) = uY tri ((r + n % nUn tri) % nUn tri))
    (fun r => all_r (tri := false) (n := n) (Q := fun tri s => tri = false → mulX (uX false r.val) (uY false r.val) (uX false s) (uY false s) = uX false ((r.val + s) % nUn false) ∧ mulY false (uX false r.val) (uY false r.val) (uX false s) (uY false s) = uY false ((r.val + s) % nUn false)) (fun s _ => by revert r s; decide +kernel) (fun s z => by cases z) rfl)
    (fun r => all_r (tri := true) (n := n) (Q := fun tri s => tri = true → mulX (uX true r.val) (uY true r.val) (uX true s) (uY true s) = uX true ((r.val + s) % nUn true) ∧ mulY true (uX true r.val) (uY true r.val) (uX true s) (uY true s) = uY true ((r.val + s) % nUn true)) (fun s z => by cases z) (fun s _ => by revert r s; decide +kernel) rfl)
theorem r_add (tri : Bool) (a b m n : Int) : rX tri (rX tri a b m) (rY tri a b m) n = rX tri a b (m + n) ∧ rY tri (rX tri a b m) (rY tri a b m) n = rY tri a b (m + n) := by
  unfold rX rY
  have h := assoc tri a b (uX tri (m % nUn tri)) (uY tri (m % nUn tri)) (uX tri (n % nUn tri)) (uY tri (n % nUn tri))
  rw [(u_add tri m n).1, (u_add tri m n).2] at h
  exact h
theorem r_mod (tri : Bool) (a b n : Int) : rX tri a b (n % nUn tri) = rX tri a b n ∧ rY tri a b (n % nUn tri) = rY tri a b n := by
  unfold rX rY
  rw [Int.emod_emod_of_dvd _ (Int.dvd_refl _)]
  exact ⟨rfl, rfl⟩
theorem r_one (tri : Bool) (a b : Int) : rX tri a b (nUn tri) = a ∧ rY tri a b (nUn tri) = b := by
  unfold rX rY mulX mulY
  rw [Int.emod_self]
  cases tri <;> simp [uX, uY]
theorem r_half (tri : Bool) (a b : Int) : rX tri a b (nUn tri / 2) = 0 - a ∧ rY tri a b (nUn tri / 2) = 0 - b := by
  unfold rX rY mulX mulY
  cases tri <;> simp [uX, uY, nUn]
theorem u_conj (tri : Bool) (n : Int) : flX tri (uX tri (n % nUn tri)) (uY tri (n % nUn tri)) = uX tri ((0 - n) % nUn tri) ∧ -(uY tri (n % nUn tri)) = uY tri ((0 - n) % nUn tri) := by
  have e : (0 - n) % nUn tri = (0 - n % nUn tri) % nUn tri := by rw [Int.sub_emod, Int.sub_emod 0 (n % nUn tri), Int.emod_emod_of_dvd _ (Int.dvd_refl _)]
  rw [e]
  exact all_r (tri := tri) (n := n) (Q := fun tri r => flX tri (uX tri r) (uY tri r) = uX tri ((0 - r) % nUn tri) ∧ -(uY tri r) = uY tri ((0 - r) % nUn tri)) (by decide +kernel) (by decide +kernel)
theorem r_conj (tri : Bool) (a b n : Int) : flX tri (rX tri (flX tri a b) (-b) n) (rY tri (flX tri a b) (-b) n) = rX tri a b (0 - n) ∧ -(rY tri (flX tri a b) (-b) n) = rY tri a b (0 - n) := by
  have h := conj_mul tri (flX tri a b) (-b) (uX tri (n % nUn tri)) (uY tri (n % nUn tri))
  rw [conj2, Int.neg_neg, (u_conj tri n).1, (u_conj tri n).2] at h
  exact h
theorem r_id (tri : Bool) (n : Int) : rX tri 1 0 n = uX tri (n % nUn tri) ∧ rY tri 1 0 n = uY tri (n % nUn tri) := by
  unfold rX rY mulX mulY
  cases tri <;> constructor <;> simp
theorem Bd.u (tri : Bool) (r : Int) : Bd 1 (uX tri r) ∧ Bd 1 (uY tri r) := by
  have h : ∀ x : Int, x = 0 ∨ x = 1 ∨ x = -1 → Bd 1 x := fun x hx => by show x.natAbs < 10 ^ 1; omega
  constructor
  · refine h _ ?_
    unfold uX; repeat' split
    all_goals omega
  · refine h _ ?_
    unfold uY; repeat' split
    all_goals omega
theorem Bd.r {k : Nat} {tri : Bool} {a b : Int} (n : Int) (ha : Bd k a) (hb : Bd k b) (hk : 1 ≤ k) : Bd (2 * k + 1) (rX tri a b n) ∧ Bd (2 * k + 1) (rY tri a b n) :=
  ⟨Bd.mulX ha hb ((Bd.u _ _).1.up hk) ((Bd.u _ _).2.up hk), Bd.mulY ha hb ((Bd.u _ _).1.up hk) ((Bd.u _ _).2.up hk)⟩
/-! ### powers -/
def pwX (tri : Bool) (a b : Int) : Nat → Int × Int
  | 0 => (1, 0)
  | n + 1 => (mulX (pwX tri a b n).1 (pwX tri a b n).2 a b, mulY tri (pwX tri a b n).1 (pwX tri a b n).2 a b)
theorem pw_add (tri : Bool) (a b : Int) (m : Nat) : ∀ n : Nat, pwX tri a b (m + n) = (mulX (pwX tri a b m).1 (pwX tri a b m).2 (pwX tri a b n).1 (pwX tri a b n).2, mulY tri (pwX tri a b m).1 (pwX tri a b m).2 (pwX tri a b n).1 (pwX tri a b n).2)
  | 0 => by
    show pwX tri a b m = (mulX (pwX tri a b m).1 (pwX tri a b m).2 1 0, mulY tri (pwX tri a b m).1 (pwX tri a b m).2 1 0)
    have h1 : ∀ x y : Int, mulX x y 1 0 = x := fun x y => by unfold mulX; grind
    have h2 : ∀ x y : Int, mulY tri x y 1 0 = y := fun x y => by unfold mulY; cases tri <;> grind
    rw [h1, h2]
  | n + 1 => by
    show (mulX (pwX tri a b (m + n)).1 (pwX tri a b (m + n)).2 a b, mulY tri (pwX tri a b (m + n)).1 (pwX tri a b (m + n)).2 a b) = _
    rw [pw_add tri a b m n]
    have := assoc tri (pwX tri a b m).1 (pwX tri a b m).2 (pwX tri a b n).1 (pwX tri a b n).2 a b
    exact Prod.ext this.1 this.2
theorem Bd.mulX2 {n m : Nat} {a b c d : Int} (ha : Bd n a) (hb : Bd n b) (hc : Bd m c) (hd : Bd m d) : Bd (n + m + 1) (Pl.mulX a b c d) := (ha.mul hc).sub (hb.mul hd)
theorem bd33 (n : Nat) : 3 * 10 ^ n ≤ 10 ^ (n + 1) := by rw [Nat.pow_succ]; omega
theorem Bd.mulY2 {n m : Nat} {tri : Bool} {a b c d : Int} (ha : Bd n a) (hb : Bd n b) (hc : Bd m c) (hd : Bd m d) : Bd (n + m + 1) (Pl.mulY tri a b c d) := by
  have h1 := ha.mul hd
  have h2 := hb.mul hc
  have h3 := hb.mul hd
  refine Nat.lt_of_lt_of_le ?_ (bd33 (n + m))
  unfold Bd at h1 h2 h3
  unfold Pl.mulY
  generalize a * d = x at *
  generalize b * c = y at *
  generalize b * d = z at *
  generalize 10 ^ (n + m) = B at *
  split <;> omega
theorem Bd.pw {k : Nat} {tri : Bool} {a b : Int} (ha : Bd k a) (hb : Bd k b) : ∀ n : Nat, Bd ((k + 1) * n + 1) (pwX tri a b n).1 ∧ Bd ((k + 1) * n + 1) (pwX tri a b n).2
  | 0 => ⟨by show (1 : Int).natAbs < 10 ^ ((k + 1) * 0 + 1); rw [Nat.mul_zero]; decide, by show (0 : Int).natAbs < 10 ^ ((k + 1) * 0 + 1); rw [Nat.mul_zero]; decide⟩
  | n + 1 => by
    have ih := Bd.pw ha hb n (tri := tri)
    have e : (k + 1) * n + 1 + k + 1 = (k + 1) * (n + 1) + 1 := by rw [Nat.mul_succ]; omega
    rw [← e]
    exact ⟨Bd.mulX2 ih.1 ih.2 ha hb, Bd.mulY2 ih.1 ih.2 ha hb⟩
/-! ### texts -/
structure Tx (n : Nat) (z : Str) : Prop where
  len : z.length ≤ n
  cps : ∀ c ∈ z.cps.toList, c < 16 ^ 8
theorem Tx.up {n m : Nat} {z : Str} (h : Tx n z) (e : n ≤ m) : Tx m z := ⟨Nat.le_trans h.len e, h.cps⟩
theorem Tx.app {n m : Nat} {x y : Str} (hx : Tx n x) (hy : Tx m y) : Tx (n + m) (x ++ y) := by
  refine ⟨by rw [Gl.len_app]; exact Nat.add_le_add hx.len hy.len, fun c hc => ?_⟩
  have e : (x ++ y).cps.toList = x.cps.toList ++ y.cps.toList := by
    show (x.cps ++ y.cps).toList = _
    rw [Array.toList_append]
  rw [e, List.mem_append] at hc
  exact hc.elim (hx.cps c) (hy.cps c)
theorem Tx.of (x : String) : Tx x.length (Str.ofString x) := by
  refine ⟨Nat.le_of_eq (PySem.ofString_length x), fun c hc => ?_⟩
  rw [Str.ofString_eq_toList] at hc
  obtain ⟨k, _, rfl⟩ := List.mem_map.mp hc
  exact Nat.lt_of_lt_of_le (UInt32.toNat_lt k.val) (by decide)
theorem Tx.int {n : Nat} {i : Int} (h : Bd n i) (hn : 0 < n) : Tx (n + 1) (Str.ofString (toString i)) := (Tx.of _).up (int_text_length_le10 hn h)
theorem Tx.emp : Tx 0 Str.empty := ⟨Nat.le_refl _, fun c hc => by cases hc⟩
theorem Tx.repr {n : Nat} {z : Str} (h : Tx n z) : (reprText z).length ≤ 10 * n + 2 := Nat.le_trans (PySem.StrLaws.reprText_len z h.cps) (by have := h.len; omega)
theorem emp_app (x : Str) : Str.empty ++ x = x := by
  show (⟨#[] ++ x.cps⟩ : Str) = x
  rw [Array.empty_append]
/-- a text of lists and tuples, by sizes -/
theorem show_of {q : PyData} (h1 : wideB q = true) (h2 : q.depth ≤ 30) (h3 : Gl.wt q ≤ 16000000) : canShow q = true := by
  unfold canShow
  rw [h1, decide_eq_true h2, decide_eq_true (Nat.le_trans h3 (by decide +kernel))]
  rfl
theorem w_list {xs : List PyData} : wideB (.list xs) = wideA xs := rfl
theorem w_tup {xs : List PyData} : wideB (.tuple xs) = wideA xs := rfl
theorem w_str {x : Str} : wideB (.str x) = true := rfl
theorem w_bl {x : Bool} : wideB (.bool x) = true := rfl
theorem w_non : wideB .none = true := rfl
theorem w_nil : wideA [] = true := rfl
theorem w_cons {x : PyData} {xs : List PyData} : wideA (x :: xs) = (wideB x && wideA xs) := rfl
theorem wide_int {n : Nat} {i : Int} (h : Bd n i) (e : n ≤ 4300) : wideB (.int i) = true := decide_eq_true (h.wide e)
end Pl

set_option Elab.async false
set_option maxRecDepth 100000
set_option maxHeartbeats 4000000
set_option linter.all false
/-! the mirror layer: instances that are walked by an own __iter__ -/
namespace Md
open PySem PySem.Spec PyProof.Rows L2
/-- a tuple's iterator, fresh -/
def TiO (p it : Addr) : HO := .ext fun h => h.IsTupleIter it p 0
theorem tiO_ok {P : Program} {w : World} {H : Hp} {h : Heap} {p it : Addr} (e : h.IsTupleIter it p 0) : ObjOk P w H h it (TiO p it) := ⟨e, let ⟨o, ho, _⟩ := e; ⟨o, ho⟩, fun h1 h2 q k => let ⟨o, ho, r⟩ := q; ⟨o, k _ ho, r⟩⟩
def rIterT (K : PySem.W.Frag) (n : Nat) : List V → Hp → VK → Prop := fun xs H Q => ∃ (p : Addr) (zs : List V), xs = [.ref p] ∧ SqT K H p zs ∧ ∀ it, H it = none → n ≤ it → Q (.ref it) (upd H it (TiO p it))
section
variable {X : Cx} {K : PySem.W.Frag} {Γ : Nat → Addr}
theorem call_iterT (hK : X.K = K := by rfl) : CallR X (.builtin "iter") (rIterT K X.s_0.heap.objs.size) := by
  subst hK
  intro pins s σ H xs us Q I r h
  obtain ⟨p, zs, rfl, hq, q⟩ := h
  obtain rfl := Vals.ref1 r
  obtain ⟨its, rv, pl, hz⟩ := I.tuple hq
  refine Calls.call_function_entry (by decide +kernel) (by decide +kernel) PySem.W.kdk_entry_iter (PySem.W.kdk_args_iter _) ?_
  unfold Builtin.«iter»
  refine wpAny_bind (m := someArgs "iter" 1 2 _) (wpAny_of_eq (a := [Value.ref p]) (by first | rfl | kernel_rfl!) ?_)
  show wpAny _ _ (pyIter (.ref p) >>= _) _ _ _
  refine wpAny_bind (wpAny_pyIter_tuple (show s.heap.IsTuple p its.toArray from pl) ?_)
  refine wpAny_pure ⟨_, rfl, ?_⟩
  exact ⟨.ref s.heap.objs.size, _, I.laid (t' := s.toks) (fun b u e => Heap.get?_push_of_some _ e) (Nat.le_refl _) (tiO_ok ⟨_, Heap.get?_push_size _ rfl, rfl, rfl⟩), rfl, q _ (I.hok.fresh (Nat.le_refl _)) I.sz⟩
end
/-! ### the promise of such an __iter__ -/
structure FnI (P : Program) (w : World) (K : PySem.W.Frag) (mg : Str → Option Value) (base : Heap) (k : Nat) (f : Addr) (sp : Nat → Sp) : Prop where
  go : ∀ (A : Around) (outer : List Env) (s : Shared) (H : Hp) (us : List Value) (vs : List V) (Q : VK) (E : XK), Room k A → Env0 P w K mg base A outer s H → Vals vs us → sp s.heap.objs.size vs H Q E →
    codeAny (model P w) A (.call (.ref f) ⟨us, []⟩) (CR CX0 outer P w H s Q E) s
section
variable {P : Program} {w : World} {K : PySem.W.Frag} {mg : Str → Option Value} {base : Heap} {Γ : Nat → Addr}
theorem okI {x qual : Str} {st : Stmt} {f : Addr} {fd : FuncData} {N ps : List Str} {k : Nat} {sp : Nat → Sp}
    (F : Fun K x qual st f fd) (S : FnScope N ps (defScope st)) (hb : Binds K fd ps [])
    (len : ∀ n vs H Q E, sp n vs H Q E → vs.length = ps.length)
    (body : ∀ (cdv : Value) (A : Around) (outer : List Env) (s : Shared) (H : Hp) (vs : List V) (Q : VK) (E : XK),
      Room k (A.deeper (envOfC qual (defScope st) s.heap.objs.size f cdv)) → sp s.heap.objs.size vs H Q E →
      ∃ t, PSs (cxOf CX0 P w K mg base N qual (defScope st) f cdv A outer s H E).nox (defBody st) t ∧
        t { nx := fun _ H' => Q .non H', rt := Q } (start N vs) H) :
    FnI P w K mg base (k + 1) f sp := by
  have hb' := hb
  obtain ⟨oc, od, kV, doc, pm, an, cdv, ct, osl, rfl, lk, hcd⟩ := F.ex
  refine ⟨?_⟩
  intro A outer s H us vs Q E hr e0 r hsp
  have hlen := len _ _ _ _ _ hsp
  have below : ∀ b o, base.get? b = some o → s.heap.get? b = some o := fun b o e => (e0.bs b o e).1
  have inK := e0.mod.kin.keeps below
  have nol := e0.mod.nolimit.keeps below
  have kinds : ∀ y ∈ ps.zip us, (defScope st).names.lookup y.1 = some .local ∨
      ((defScope st).names.lookup y.1 = some .cell ∧
        ((cellsFrom (s.heap.objs.size + 1) (defScope st).names []).lookup y.1).isSome = true) := by
    rintro ⟨n, v⟩ hy
    have hin := (List.of_mem_zip hy).1
    rcases S.par n hin with q | q
    · exact Or.inl q
    · exact Or.inr ⟨q, PySem.W.cellsFrom_some _ _ _ (Or.inl q)⟩
  have many : us.length = ps.length := r.length ▸ hlen
  have hbb := hb' s us inK (by rw [List.append_nil]; exact many)
  rw [List.append_nil] at hbb
  refine codeAny_call_function hr.depth (inK _ _ lk) rfl S.co S.gen rfl
    (PySem.W.codeRec_of inK hcd) (hbb _ _ _ _ ?_)
  refine wpAny_newFunctionEnv_cells S.kind kinds ?_
  intro env he s1 x
  subst he
  refine ⟨nol.keeps x.toInCall.keep, codeAny_func ?_⟩
  obtain ⟨t, ht, hq⟩ := body cdv A outer s H vs Q E (hr.deeper _) hsp
  have I := inv_start (CX := CX0) (P := P) (w := w) (K := K) (mg := mg) (base := base) (E := E) S hr.hd e0 hlen r x
  refine wpAny_mono (ht.nox.run [] s1 (start N vs) H _ I hq) ?_ (fun e s' hs => hs)
  intro fl s' hs
  cases fl with
  | ret u =>
    obtain ⟨v, σ', H', J, rv, q⟩ := hs
    exact ⟨v, H', J.os, J.bare, J.base, J.hok, rv, q⟩
  | next =>
    obtain ⟨σ', H', J, q⟩ := hs
    exact ⟨V.non, H', J.os, J.bare, J.base, J.hok, rfl, q⟩
  | brk => exact hs.elim fun _ z => z.elim fun _ z => z.2.elim
  | cont => exact hs.elim fun _ z => z.elim fun _ z => z.2.elim
/-- an iterator over what m gives -/
def PostI (K : PySem.W.Frag) (Γ : Nat → Addr) (n : Nat) (G F : Hp) (ι : List Addr) (Q : VK) : Out D → Prop
  | .ok (.tup xs) s => ∀ p H' F' ι', Ext F ι F' ι' → Rel K Γ G F' H' ι' s → Rp K Γ F' ι' (.ref p) (.tup xs) → ∀ it, H' it = none → n ≤ it → Q (.ref it) (upd H' it (TiO p it))
  | _ => False
def spIt (K : PySem.W.Frag) (Γ : Nat → Addr) (m : Fn) (n : Nat) : Sp := fun vs H Q _ => ∃ G F ι s ds, RpA K Γ F ι vs ds ∧ Rel K Γ G F H ι s ∧ ds.length = 1 ∧ PostI K Γ n G F ι Q (m ds s)
/-- def __iter__(self): return iter(e) -/
def bodyI (φ : FE) : Fn := fun ds s => nb (φ (ds.map some) s)
/-- e's reading and data, in the def's own place -/
theorem okIt {x qual : Str} {st : Stmt} {f : Addr} {fd : FuncData} {N ps : List Str} {k : Nat} {φ : FE} (Fn : Fun K x qual st f fd) (S : FnScope N ps (defScope st)) (hb : Binds K fd ps []) (hn : N.length = 1) (hp : ps.length = 1)
    (h : ∀ (cdv : Value) (A : Around) (outer : List Env) (s : Shared) (H : Hp) (E : XK), Room k (A.deeper (envOfC qual (defScope st) s.heap.objs.size f cdv)) →
      ∃ t, PSs (cxOf CX0 P w K mg base N qual (defScope st) f cdv A outer s H E).nox (defBody st) (tRet (tCB (rIterT K s.heap.objs.size) (tCons t tNil))) ∧ Gd K Γ W0 t φ) :
    FnI P w K mg base (k + 1) f (spIt K Γ (bodyI φ)) := by
  refine okI Fn S hb (fun n vs H Q E z => ?_) fun cdv A outer s H vs Q E hr z => ?_
  · obtain ⟨G, F, ι, s0, ds, g, r, hl, _⟩ := z
    rw [g.length, hl, hp]
  · obtain ⟨G, F, ι, s0, ds, g, r, hl, q⟩ := z
    obtain ⟨t, ht, gd⟩ := h cdv A outer s H E hr
    refine ⟨_, ht, ?_⟩
    have hs : RS K Γ F ι (L2.start N vs) (ds.map some) := by
      have := rs_start (N := N) (n := 0) g (by rw [hn, hl])
      rw [List.replicate_zero, List.append_nil] at this
      exact this
    refine gd _ H _ G F ι s0 _ hs r ?_
    unfold bodyI at q
    cases e : φ (ds.map some) s0 with
    | bad => rw [e] at q; exact q.elim
    | err c y s1 => rw [e] at q; exact q.elim
    | ok d s1 =>
      rw [e] at q
      have q : PostI K Γ s.heap.objs.size G F ι Q (.ok d s1) := q
      intro v H' F' ι' x' r' g'
      cases d with
      | tup xs =>
        cases g' with
        | tup h1 h2 => exact ⟨_, _, rfl, Gl.sqTS r'.sub h1, fun it hi hn' => q _ H' F' ι' x' r' (.tup h1 h2) it hi hn'⟩
      | _ => exact q.elim
end
/-! ### walking an instance -/
def iOwn (K : PySem.W.Frag) (C : Addr) (sp : Nat → Sp) (te : TE) : TI := fun σ H R => te σ H fun x H1 => ∃ a dx vs, x = .ref a ∧ SlX.Slt H1 a C dx vs ∧ ∀ n, sp n [.ref a] H1 (fun z H2 => ∃ it p H3, z = .ref it ∧ H3 it = none ∧ n ≤ it ∧ H2 = upd H3 it (TiO p it) ∧ R (Itt K p) H3) E0
section
variable {X : Cx} {K : PySem.W.Frag} {Γ : Nat → Addr} {W : WX} {tg e : Expr} {te : TE} {φ : FE} {g : Addr} {n c : Nat} {m : Fn} {sp : Nat → Sp}
theorem pi_own (hm : Meth X.K (Γ c) "__iter__" g) (F : FnI X.prog X.w X.K X.mg X.base n g sp) (hr : Room n X.A) (he : PE X e te) (hK : X.K = K := by rfl) : PI X tg e (iOwn K (Γ c) sp te) := by
  subst hK
  refine ⟨fun pins s σ H R I h => ?_⟩
  refine thn (he.run pins s σ H _ I h) ?_
  rintro v s1 ⟨x, H1, I1, r1, a, dx, vs, rfl, ha, q⟩
  cases (show v = Value.ref a from r1)
  obtain ⟨_, _, _, J, _⟩ := SlX.slt_inst I1 ha
  obtain ⟨mm, hF⟩ := I1.fr
  refine PySem.W.owit_iter hF I1.ok.mod.kin J hm.at_ hm.fn ?_
  refine wpAny_call (codeAny_mono (F.go X.A X.stack s1 H1 [.ref a] [.ref a] _ E0 hr I1.env0 (.cons rfl .nil) (q _)) ?_)
  intro r s2 hq
  match r, hq with
  | .error e, hq => exact False.elim hq
  | .ok .next, hq => exact False.elim hq
  | .ok .brk, hq => exact False.elim hq
  | .ok .cont, hq => exact False.elim hq
  | .ok (.ret u), hq =>
    obtain ⟨z, H2, I2, rz, it, p, H3, rfl, h3, hn, rfl, qR⟩ := I1.after hq
    cases (show u = Value.ref it from rz)
    have hi : upd H3 it (TiO p it) it = some (TiO p it) := upd_same
    have eo : s2.heap.IsTupleIter it p 0 := (I2.hok it _ hi).1
    show PySem.W.OwitIt _ _ _ _ (.ref it) s2
    unfold PySem.W.OwitIt
    have hd : ItX.dropH (upd H3 it (TiO p it)) it = H3 := ItX.dropH_upd h3
    have fin : PIE X pins σ tg R (.ref it) s2 := by
      refine ⟨it, [it], _, _, H3, rfl, ?_, turn_tuple p it, eo, fun b hb => ?_, qR⟩
      · have := ItX.inv_drop I2 hi
        rw [hd] at this
        exact this
      · have e : b = it := by simpa using hb
        rw [e]
        have := ItX.inv_fp I2 hi (Nat.le_trans I1.sz hn)
        rw [hd] at this
        exact this
    exact wpAny_specialOf (name := Str.ofString "__next__") eo.typeIs PySem.F.slot_tuple_iterator_next.lookup fin
/-- the items that an instance's own __iter__ hands out -/
def ownIt (c : Nat) (m : Fn) (x : D) (s : Sto) : Out (List D) := if clsD x s = some c then match m [x] s with
    | .ok (.tup xs) s' => .ok xs s'
    | _ => .bad
  else .bad
theorem di_own (hm : Meth X.K (Γ c) "__iter__" g) (F : FnI X.prog X.w X.K X.mg X.base n g (spIt K Γ m)) (hr : Room n X.A) (he : DE X K Γ W e te φ) (hK : X.K = K := by rfl) : DI X K Γ W tg e (iOwn K (Γ c) (spIt K Γ m) te) (bindX φ fun _ => ownIt c m) := by
  refine ⟨pi_own hm F hr he.pe hK, fun σ H Q G F ι s ds hs hr hp => he.gd.step hs hr hp fun x s1 v H1 F1 ι1 x1 r1 q1 hs1 hp1 => ?_⟩
  dsimp only at hp1
  unfold ownIt at hp1
  split at hp1
  · rename_i h
    obtain ⟨p, dx, ws, rfl, sl⟩ := cls_rp r1 q1 h
    refine ⟨p, dx, ws, rfl, sl, fun n => ⟨G, F1, ι1, s1, [x], .cons q1 .nil, r1, rfl, ?_⟩⟩
    split at hp1
    · rename_i xs s' e
      rw [e]
      intro p H' F' ι' x' r' g' it hi hn
      refine ⟨it, p, H', rfl, hi, hn, rfl, ?_⟩
      cases g' with
      | tup h1 h2 => exact hp1 _ H' F' ι' x' r' (walk_tupD h1 h2)
    · exact hp1.elim
  · exact hp1.elim
end
end Md

set_option Elab.async false
set_option maxRecDepth 100000
set_option maxHeartbeats 4000000
set_option linter.all false
/-! sets of texts, by the list of their members -/
namespace TxS
open PySem PySem.Spec PyProof.Rows L2
def txt : Value → Str
  | .str k _ => k
  | _ => Str.empty
def keys (es : Array (Int × Value)) : List Str := es.toList.map fun e => txt e.2
/-- rows and table that agree -/
structure Tab (P : Program) (w : World) (es : Array (Int × Value)) (t : SetTable) : Prop where
  el : ElemsOf (strKind P w) es.toList
  nd : (keys es).Nodup
  few : es.size < scanBound
  fit : t.fits es.size = true
  ris : Ris t.place.toList
  led : w.params.followText "set-order" = true ∨ t.led = true
section
variable {P : Program} {w : World} {es : Array (Int × Value)} {t : SetTable} {k : Str} {tk : Tok}
theorem txt_is {v : Value} {j : Str} (h : (strKind P w).is j v = true) : txt v = j := by
  obtain ⟨_, rfl⟩ := Value.isStrOf_shape h
  rfl
theorem mem_keys (g : ElemsOf (strKind P w) es.toList) : k ∈ keys es ↔ ∃ e ∈ es.toList, (strKind P w).is k e.2 = true := by
  unfold keys
  rw [List.mem_map]
  constructor
  · rintro ⟨e, he, rfl⟩
    obtain ⟨⟨j, hj, _⟩, _⟩ := g e he
    exact ⟨e, he, by rw [txt_is hj]; exact hj⟩
  · rintro ⟨e, he, h⟩
    exact ⟨e, he, txt_is h⟩
theorem Tab.fresh : Tab P w #[] (.fresh 0 0 (!w.params.followText "set-order")) where
  el := fun e he => absurd he (by simp)
  nd := List.nodup_nil
  few := by decide
  fit := rfl
  ris := .nil
  led := by cases h : w.params.followText "set-order" <;> simp [SetTable.fresh]
theorem Tab.relay (T : Tab P w es t) (m : Nat) : Tab P w (relayAll t es m).1 (relayAll t es m).2.1 ∧ (keys (relayAll t es m).1).Perm (keys es) := by
  have pm := relayAll_perm t es m
  have pk : (keys (relayAll t es m).1).Perm (keys es) := pm.map fun e : Int × Value => txt e.2
  have z : (relayAll t es m).1.size = es.size := by simpa using pm.length_eq
  exact ⟨⟨fun e he => T.el e (pm.mem_iff.mp he), pk.nodup_iff.mpr T.nd, z ▸ T.few, relayAll_fits t es m, relayAll_ris t es m, T.led.imp id fun h => (relayAll_led t es m).trans h⟩, pk⟩
theorem Tab.lay (T : Tab P w es t) (hk : k ∉ keys es) (room : es.size + 1 < scanBound) :
    Tab P w (layNew t es ((strKind P w).hash k) (.str k tk)).1 (layNew t es ((strKind P w).hash k) (.str k tk)).2.1 ∧ (keys (layNew t es ((strKind P w).hash k) (.str k tk)).1).Perm (k :: keys es) := by
  have pm := layNew_perm t es ((strKind P w).hash k) (.str k tk)
  rw [Array.toList_push] at pm
  replace pm := pm.trans (List.perm_append_singleton _ _)
  have pk : (keys (layNew t es ((strKind P w).hash k) (.str k tk)).1).Perm (k :: keys es) := pm.map fun e : Int × Value => txt e.2
  have z : (layNew t es ((strKind P w).hash k) (.str k tk)).1.size = es.size + 1 := by simpa using pm.length_eq
  refine ⟨⟨fun e he => ?_, pk.nodup_iff.mpr (List.nodup_cons.mpr ⟨hk, T.nd⟩), z ▸ room, layNew_fits .., layNew_ris _ _ _ _ T.ris, T.led.imp id fun h => (layNew_led ..).trans h⟩, pk⟩
  rcases List.mem_cons.mp (pm.mem_iff.mp he) with rfl | h
  · exact ⟨⟨k, strKind_is P w k tk, rfl⟩, rfl⟩
  · exact T.el e h
end
/-- the set of the texts ks stands at a -/
def SetS (P : Program) (w : World) (h : Heap) (a : Addr) (ks : List Str) : Prop :=
  ∃ o es ep t, h.get? a = some o ∧ o.ExactSet ∧ o.data = .set es ep t ∧ Tab P w es t ∧ (keys es).Perm ks
def more (ks : List Str) (k : Str) : List Str := if k ∈ ks then ks else k :: ks
section
variable {P : Program} {w : World} {A : Around} {E : Value → Shared → Prop} {s : Shared} {a : Addr} {ks : List Str}
theorem SetS.at {h h' : Heap} (R : SetS P w h a ks) (f : ∀ o, h.get? a = some o → h'.get? a = some o) : SetS P w h' a ks := let ⟨o, es, ep, t, ho, r⟩ := R; ⟨o, es, ep, t, f o ho, r⟩
theorem SetS.typeIs (R : SetS P w s.heap a ks) : s.TypeIs (.ref a) "set" := let ⟨o, _, _, _, ho, hx, _⟩ := R; ⟨o, ho, hx.1⟩
/-- rows are stored, and laid out anew when the table is full -/
theorem put {o : Obj} {es es1 : Array (Int × Value)} {ep : Nat} {t t1 : SetTable} {g : Bool → Sem Unit} {dm : Bool} {R : Option Bool → Shared → Prop} (ho : s.heap.get? a = some o) (hx : o.ExactSet) (hd : o.data = .set es ep t) (T : Tab P w es1 t1) (pk : (keys es1).Perm ks)
    (hg : ∀ (b : Bool) (s1 : Shared) (q : Unit → Shared → Prop), q () s1 → wpAny (model P w) A (g b) q E s1) (hR : ∀ h', Heap.SameBut a s.heap h' → SetS P w h' a ks → R (some true) { s with heap := h' }) :
    wpAny (model P w) A (storeSet a es1 t1 >>= fun _ => if (!dm && t1.tooFull) = true then g (relayAll t1 es1 (SetTable.grown es1.size)).2.2 >>= fun _ => storeSet a (relayAll t1 es1 (SetTable.grown es1.size)).1 (relayAll t1 es1 (SetTable.grown es1.size)).2.1 >>= fun _ => pure (some true) else pure (some true)) R E s := by
  have h1 := PpSet.storeB_at (es' := es1) (t' := t1) ho hd
  have b1 := Heap.SameBut.update s.heap a (Obj.putSet es1 t1)
  obtain ⟨T2, p2⟩ := T.relay (SetTable.grown es1.size)
  refine wpAny_bind (wpAny_storeSet_of ho hd ?_ (fits_of_scanBound T.few))
  by_cases c : (!dm && t1.tooFull) = true
  · rw [if_pos c]
    refine wpAny_bind (hg _ _ _ (wpAny_bind (wpAny_storeSet_of h1 rfl (wpAny_pure (hR _ (b1.trans (Heap.SameBut.update _ a _)) ?_)) (fits_of_scanBound T2.few))))
    exact ⟨_, _, _, _, PpSet.storeB_at h1 rfl, hx, rfl, T2, p2.trans pk⟩
  · rw [if_neg c]
    exact wpAny_pure (hR _ b1 ⟨_, _, _, _, h1, hx, rfl, T, pk⟩)
/-- set.add's own work, the hash being known -/
theorem addH {k : Str} {tk : Tok} {Q : Bool → Shared → Prop} (R : SetS P w s.heap a ks) (room : ks.length + 1 < scanBound) (hQ : ∀ b h', Heap.SameBut a s.heap h' → SetS P w h' a (more ks k) → Q b { s with heap := h' }) :
    wpAny (model P w) A (setAddHashed a (.str k tk) ((strKind P w).hash k)) Q E s := by
  obtain ⟨o, es, ep, t, ho, hx, hd, T, pk⟩ := R
  have sc : (Value.str k tk).scannable = true := rfl
  have hz : es.size = ks.length := by
    rw [← pk.length_eq]
    unfold keys
    rw [List.length_map, Array.length_toList]
  have quiet : ∀ (b : Bool) (s1 : Shared) (q : Unit → Shared → Prop), q () s1 → wpAny (model P w) A (match b with | true => rule "set.scan.the-table-gave-way" | false => pure ()) q E s1 := fun b s1 q h => by
    cases b
    · exact wpAny_pure h
    · exact wpAny_rule h
  unfold setAddHashed setAddHashedIn
  refine wpAny_holding (wpAny_bind (wpAny_setState_of ho hd T.fit ?_))
  dsimp only
  rw [byScan_of sc T.few T.el]
  simp only [↓reduceIte]
  unfold setAddByScan
  refine wpAny_bind (wpAny_bind (wpAny_rule (wpAny_bind (wpAny_setScan_of (strKind_is P w k tk) ho hd T.fit T.el ?_))))
  cases fi : List.findIdx? (fun e => (strKind P w).is k e.2) es.toList with
  | some j =>
    obtain ⟨hj, hp, _⟩ := List.findIdx?_eq_some_iff_getElem.mp fi
    have hk : k ∈ ks := pk.mem_iff.mp ((mem_keys T.el).mpr ⟨_, List.getElem_mem hj, hp⟩)
    refine wpAny_pure (wpAny_pure (hQ false s.heap (.refl a s.heap) ?_))
    unfold more
    rw [if_pos hk]
    exact ⟨o, es, ep, t, ho, hx, hd, T, pk⟩
  | none =>
    have hk : k ∉ keys es := fun z => by
      obtain ⟨e, he, h⟩ := (mem_keys T.el).mp z
      exact absurd h (by rw [List.findIdx?_eq_none_iff.mp fi e he]; decide)
    obtain ⟨T1, p1⟩ := T.lay (tk := tk) hk (by rw [hz]; exact room)
    have p2 : (keys (layNew t es ((strKind P w).hash k) (.str k tk)).1).Perm (more ks k) := by
      unfold more
      rw [if_neg fun z => hk (pk.mem_iff.mpr z)]
      exact p1.trans (pk.cons k)
    dsimp only
    refine wpAny_bind (quiet _ _ _ ?_)
    split
    · refine wpAny_bind ?_
      rw [hashByValue_scannable 8 sc]
      refine wpAny_pure ?_
      refine put ho hx hd ⟨T1.el, T1.nd, T1.few, ?_, ?_, ?_⟩ p2 quiet fun h' sb r => ?_
      · first | (split <;> first | exact T1.fit | exact SetTable.fits_plain_off T1.fit) | exact T1.fit
      · first | (split <;> exact T1.ris) | exact T1.ris
      · first | (split <;> exact T1.led) | exact T1.led
      · exact wpAny_pure (hQ true h' sb r)
    · refine wpAny_bind (wpAny_pure ?_)
      simp only [↓reduceIte]
      exact put ho hx hd T1 p2 quiet fun h' sb r => wpAny_pure (hQ true h' sb r)
/-- found.add(k) -/
theorem add {k : Str} {tk : Tok} {Q : Value → Shared → Prop} (R : SetS P w s.heap a ks) (room : ks.length + 1 < scanBound) (hQ : ∀ h', Heap.SameBut a s.heap h' → SetS P w h' a (more ks k) → Q .none { s with heap := h', toks := s.toks + 1 }) :
    wpAny (model P w) A (call (.builtin "set.add") [.ref a, .str k tk]) Q E s := by
  refine wpAny_call_entry F.slot_set_add R.typeIs F.entry_set_add ?_ (F.args_set_add_2 _ _)
  simp only [Builtin.«set.add», Builtin.Frozenset.oneOther, Builtin.Frozenset.addrOf, setAdd, List.isEmpty_nil, bind_assoc]
  refine wpAny_bind (wpAny_pure (wpAny_bind (wpAny_pure (wpAny_bind (wpAny_holding (wpAny_bind ((strKind P w).pyHash (strKind_is P w k tk) ?_)))))))
  exact addH (s := { s with toks := s.toks + 1 }) R room fun b h' sb r => wpAny_pure ⟨_, rfl, hQ h' sb r⟩
theorem SetS.fresh {h : Heap} : SetS P w (h.push { cls := .type "set", dict := none, data := .set #[] 0 (.fresh 0 0 (!w.params.followText "set-order")) }) h.objs.size [] := ⟨_, _, _, _, Heap.get?_push_size _ rfl, ⟨rfl, rfl, rfl⟩, rfl, Tab.fresh, .nil⟩
end
/-! ### as a tracked thing -/
def SetSO (P : Program) (w : World) (a : Addr) (ks : List Str) : HO := .ext fun h => SetS P w h a ks
theorem setSO_ok {P : Program} {w : World} {H : Hp} {h : Heap} {a : Addr} {ks : List Str} (R : SetS P w h a ks) : ObjOk P w H h a (SetSO P w a ks) := ⟨R, let ⟨o, _, _, _, ho, _⟩ := R; ⟨o, ho⟩, fun _ _ p f => p.at f⟩
section
variable {X : Cx} {pins : List (Addr × Obj)} {σ : L2.St} {H : Hp} {s : Shared} {a : Addr} {ks : List Str}
theorem setSO_at (I : Inv X pins σ H s) (e : H a = some (SetSO X.prog X.w a ks)) : SetS X.prog X.w s.heap a ks := (I.hok a _ e).1
theorem add_ok {E : Value → Shared → Prop} {k : Str} {tk : Tok} {Q : Value → Shared → Prop} (I : Inv X pins σ H s) (e : H a = some (SetSO X.prog X.w a ks)) (room : ks.length + 1 < scanBound)
    (h : ∀ s', Inv X pins σ (upd H a (SetSO X.prog X.w a (more ks k))) s' → Q .none s') : wpAny (model X.prog X.w) X.A (call (.builtin "set.add") [.ref a, .str k tk]) Q E s :=
  add (setSO_at I e) room fun h' sb r => h _ (I.write (e := a) (t' := s.toks + 1) (by rw [e]; trivial) (.inl rfl) (fun b u hb hu => (sb.2 b hb).trans hu) (let ⟨o, _, _, _, ho, _⟩ := r; ⟨o, ho⟩) (setSO_ok r))
end
end TxS

set_option Elab.async false
set_option maxRecDepth 100000
set_option maxHeartbeats 4000000
set_option linter.all false
/-! sorted() of a set of texts -/
namespace TxS
open PySem PySem.Spec PyProof.Rows L2
theorem strs_of {P : Program} {w : World} {es : Array (Int × Value)} {vs : List Value} (g : ElemsOf (PySem.strKind P w) es.toList) (pm : vs.Perm (es.toList.map (·.2))) : StrsAre vs (vs.map txt) := by
  have all : ∀ v ∈ vs, ∃ x t, v = Value.str x t := fun v hv => by
    obtain ⟨e, he, rfl⟩ := List.mem_map.mp (pm.mem_iff.mp hv)
    obtain ⟨⟨k, hk, _⟩, _⟩ := g e he
    obtain ⟨t, q⟩ := Value.isStrOf_shape hk
    exact ⟨k, t, q⟩
  clear pm
  induction vs with
  | nil => exact .nil
  | cons v r ih =>
    obtain ⟨x, t, rfl⟩ := all v (List.mem_cons_self ..)
    exact .cons x t (ih fun u hu => all u (List.mem_cons_of_mem _ hu))
section
variable {P : Program} {w : World} {A : Around} {E : Value → Shared → Prop} {s : Shared} {a : Addr} {ks : List Str}
theorem sorted_tx {Q : Value → Shared → Prop} (R : SetS P w s.heap a ks) (hh : A.handled = none) (few : ks.length < 64)
    (hQ : ∀ (s' : Shared) (p : Addr) (out : Array Value) (c : Nat) (ys : List Str), (∀ b o, s.heap.get? b = some o → s'.heap.get? b = some o) → s'.gens = s.gens → s'.os = s.os → s.heap.objs.size ≤ p → s'.heap.get? p = some (seqObj "list" out c) → StrsAre out.toList ys → ys.Perm ks → sortedS ys = true → Q (.ref p) s') :
    wpAny (model P w) A (call (.builtin "sorted") [.ref a]) Q E s := by
  obtain ⟨o, es, ep, t, ho, hx, hd, T, pk⟩ := R
  refine Calls.call_function_entry kind_sorted plain_sorted entry_sorted (args_sorted1 _) ?_
  unfold Builtin.«sorted»
  refine wpAny_bind (m := checkCount "sorted" 1 1 _) (wpAny_pure (wpAny_bind (collect_set (A := A.in1) hh ⟨o, ho, hx.1, hd⟩ T.fit T.few T.ris T.led fun s1 vs keep hz hg ho1 pm => ?_)))
  have sv := strs_of T.el pm
  have pv : (vs.map txt).Perm ks := by
    refine List.Perm.trans ?_ pk
    have := pm.map txt
    rw [List.map_map] at this
    exact this
  have lv : vs.length = ks.length := by rw [← pv.length_eq, List.length_map]
  refine wpAny_bind (wpAny_newList ?_ (by rw [lv, sizeLine_eq]; omega))
  have at_ : (s1.heap.push (seqObj "list" vs.toArray 0)).get? s1.heap.objs.size = some (seqObj "list" vs.toArray 0) := Heap.get?_push_size _ rfl
  refine wpAny_bind (wpAny_holding (wpAny_call_entry slot_list_sort ⟨_, at_, rfl⟩ entry_list_sort (list_sort_treeK strKind_oneLt at_ sv.keysOf (fun v₁ v₂ rest e => keyKind_strs (by rw [← e]; exact sv)) (by rw [lv]; exact few) fun st a1 a2 => ⟨_, rfl, ?_⟩) (args_list_sort _)))
  obtain ⟨ys, y1, y2, y3⟩ := sorted_out_str sv a1 a2
  obtain ⟨c, hc⟩ := sortedHeap_at (vs := vs) (out := (arrOf st).map (·.2)) at_
  refine wpAny_pure ⟨_, rfl, hQ _ s1.heap.objs.size _ c ys (fun b u e => ?_) hg ho1 hz hc y1 (y2.trans pv) y3⟩
  have q := keep b u e
  have lt := Heap.lt_size q
  show (sortedHeap _ _ _ _).get? b = some u
  rw [sortedHeap_old (Nat.ne_of_lt lt) (by rw [size_push']; exact Nat.lt_succ_of_lt lt)]
  exact Heap.get?_push_of_some _ q
end
/-- sorted(a set of texts) -/
def rSortTx (P : Program) (w : World) : List V → Hp → VK → Prop := fun vs H Q => ∃ (a : Addr) (ks : List Str), vs = [V.ref a] ∧ H a = some (SetSO P w a ks) ∧ ks.length < 64 ∧
  ∀ (ys : List Str) (p : Addr), ys.Perm ks → sortedS ys = true → H p = none → Q (.ref p) (upd H p (.lst (ys.map V.str)))
theorem cr_sortTx {X : Cx} (hc : X.calm = true) : CallR X (.builtin "sorted") (rSortTx X.prog X.w) := by
  intro pins s σ H vs us Q I r h
  obtain ⟨a, ks, rfl, ha, few, q⟩ := h
  rw [Vals.ref1 r]
  refine sorted_tx (setSO_at I ha) (I.ok.hd hc) few fun s' p out c ys keep hg hos hp at_ sv py sy => ?_
  have hn : H p = none := I.hok.fresh hp
  have hl : (ys.map V.str).length ≤ sizeLine := by rw [List.length_map, py.length_eq]; exact small64 few
  have J : Inv X pins σ (upd H p (.lst (ys.map V.str))) { s with heap := s'.heap, gens := s'.gens, drawn := s'.drawn, toks := s'.toks } :=
    I.call (ch := []) (Un.laid keep hp hn) (I.hok.laid keep hp ⟨hl, out.toList, c, vals_of_strs sv, at_⟩) (by rw [hg]; exact I.bare) (fun _ z => nomatch z)
  have e : s' = { s with heap := s'.heap, gens := s'.gens, drawn := s'.drawn, toks := s'.toks } := by
    cases s'
    cases hos
    rfl
  rw [e]
  exact ⟨.ref p, _, J, rfl, q ys p py sy hn⟩
end TxS

set_option Elab.async false
set_option maxRecDepth 100000
set_option maxHeartbeats 4000000
set_option linter.all false
/-! {text for target in iter} -/
namespace TxS
open PySem PySem.Spec PyProof.Rows L2
/-- Wv i: what stands when i items have been taken; never more than len -/
def tTxs (P : Program) (w : World) (wi : TI) (g : TG) (te : TE) (vs : List Nat) : TE := fun σ H Q => wi σ H fun J H1 => ∀ D, H1 D = none → ∃ (Wv : Nat → Hp → Prop) (len : Nat), Wv 0 (upd H1 D (SetSO P w D [])) ∧ (∀ i H, Wv i H → i ≤ len) ∧ ∀ i H, Wv i H →
  (J.stop i H ∧ Q (.ref D) H) ∨ (J.go i H ∧ ∀ x H', J.yld i H x H' → g x (wipe σ vs) H' fun σ2 H2 => wipe σ2 vs = wipe σ vs ∧ te σ2 H2 fun y H3 => ∃ k ks, y = .str k ∧ H3 D = some (SetSO P w D ks) ∧ ks.length + 1 < scanBound ∧ Wv (i + 1) (upd H3 D (SetSO P w D (more ks k))))
section
variable {X : Cx} {tg iter elt : Expr} {scope : Scope} {own : List (PySem.Str × Nat)} {pos : Pos} {wi : TI} {g : TG} {te : TE}
theorem pe_txs (hc : X.calm = true) (hN : X.N.Nodup) (hi : PI X tg iter wi) (ok : BlkOk X.N X.env.scope scope own)
    (hg : ∀ (s : Shared) (H : Hp) (C : Addr) (cl : List (PySem.Str × Addr)) (fp : List Addr), PG (X.blk s H scope (compEnvC scope cl C X.env) fp) tg g)
    (he : ∀ (s : Shared) (H : Hp) (C : Addr) (cl : List (PySem.Str × Addr)) (fp : List Addr), PE (X.blk s H scope (compEnvC scope cl C X.env) fp) elt te) (hs : ∀ x, foldedSetIterable iter X.env x = pure x := by intro _; rfl) :
    PE X (.SetComp elt [⟨tg, iter, [], 0⟩] scope pos) (tTxs X.prog X.w wi g te (own.map (·.2))) := by
  refine ⟨fun pins s σ H Q I h => ?_⟩
  rw [PpSet.eval_SetComp]
  have hfree : ∀ y ∈ scope.names, y.2 = .free → ∃ c, X.env.cells.lookup y.1 = some c := fun y hy e => (ok.free y hy e).elim (fun k => I.ok.has _ (.inl k)) fun k => I.ok.has _ (.inr k)
  refine wpAny_comprehension_free rfl hs (closure_ok hfree) ok.kind (fun y hy e => by rw [ok.uniq y hy, e]) (thn (hi.run pins s σ H _ I h) fun xv s1 hx => thn hx ?_)
  rintro _ s2 ⟨it, fp, tn, J, H2, rfl, I2, T, st2, f2, q⟩
  refine PpSet.newSet_ok (newEnv_comp ?_)
  have free2 : H2 s2.heap.objs.size = none := I2.hok.fresh (Nat.le_refl _)
  obtain ⟨Wv, len, w0, wl, turn⟩ := q s2.heap.objs.size free2
  generalize eh : s2.heap.push { cls := .type "set", dict := none, data := .set #[] 0 (.fresh 0 0 (!X.w.params.followText "set-order")) } = h3
  generalize eD : s2.heap.objs.size = D at w0 turn free2
  generalize eH : upd H2 D (SetSO X.prog X.w D []) = H3 at w0
  have k3 : ∀ b o, s2.heap.get? b = some o → h3.get? b = some o := fun b o e => by rw [← eh]; exact Heap.get?_push_of_some _ e
  have I3 : Inv X pins σ H3 { s2 with heap := h3 } := by
    rw [← eH]
    refine I2.laid (t' := s2.toks) k3 (Nat.le_of_eq eD) (setSO_ok ?_)
    rw [← eh, ← eD]
    exact SetS.fresh
  have old : ∀ b ∈ fp, b < s2.heap.objs.size := fun b hb => let ⟨_, e, _⟩ := T.obj _ _ st2 b hb; Heap.lt_size e
  have n3 : ∀ b ∈ fp, H3 b = none := fun b hb => by
    rw [← eH, upd_ne (by rw [← eD]; exact Nat.ne_of_lt (old b hb))]
    exact (f2 b hb).1
  have f3 : ∀ b ∈ fp, FpOk X pins H3 b ∧ b < h3.objs.size := fun b hb => ⟨⟨n3 b hb, (f2 b hb).2⟩, by rw [← eh, Heap.size_push]; exact Nat.lt_succ_of_lt (old b hb)⟩
  have I4 := block_start I3 ok hN f3
  have pg := hg { s2 with heap := h3 } H3 h3.objs.size (cellsFrom (h3.objs.size + 1) scope.names (cloFrom X.env.cells scope.names [])) fp
  have pe := he { s2 with heap := h3 } H3 h3.objs.size (cellsFrom (h3.objs.size + 1) scope.names (cloFrom X.env.cells scope.names [])) fp
  show codeAny _ _ (.compStart (.SetComp elt [⟨tg, iter, [], 0⟩] scope pos) 0 (.ref it) (.ref D) (compEnvC scope (cellsFrom (h3.objs.size + 1) scope.names (cloFrom X.env.cells scope.names [])) h3.objs.size X.env)) (compPost (model X.prog X.w) X.A X.xe none (EP X pins σ Q) (.ref D) h3.objs.size) { s2 with heap := pushCells (h3.push { cls := .type "dict", data := .dict #[] }) scope.names }
  generalize ec : compEnvC scope (cellsFrom (h3.objs.size + 1) scope.names (cloFrom X.env.cells scope.names [])) h3.objs.size X.env = ce at I4 pg pe ⊢
  have cl : ce.locals = h3.objs.size := by rw [← ec]; rfl
  generalize eh4 : pushCells (h3.push { cls := .type "dict", data := .dict #[] }) scope.names = h4 at I4 ⊢
  have st4 : tn 0 h4 := T.keep _ _ _ st2 fun b _ o e => by rw [← eh4]; exact pushCells_keeps _ _ _ _ (Heap.get?_push_of_some _ (k3 b o e))
  have young : ∀ {H' : Hp} {σ' : L2.St} {s' : Shared} (J' : Inv (X.blk { s2 with heap := h3 } H3 scope ce fp) [] σ' H' s'), (∀ b ∈ fp, H' b = none) → ∀ b ∈ fp, FpOk (X.blk { s2 with heap := h3 } H3 scope ce fp) [] H' b := fun J' z b hb =>
    ⟨z b hb, (J'.ok.exf b hb).1, J'.ok.exfs b hb, .inl hb, fun x c e => (J'.ok.exf b hb).2 x c e, fun p hp => absurd hp (by show p ∉ ([] : List (Addr × Obj)) ++ []; simp)⟩
  have loop : codeAny (model X.prog X.w) X.A (.compLoop (.SetComp elt [⟨tg, iter, [], 0⟩] scope pos) 0 (.ref it) (.ref D) ce) (compPost (model X.prog X.w) X.A X.xe none (EP X pins σ Q) (.ref D) h3.objs.size) { s2 with heap := h4 } := by
    refine PpSet.compLoopS_any (fun n s' => ∃ i H', n = len - i ∧ Inv (X.blk { s2 with heap := h3 } H3 scope ce fp) [] (wipe σ (own.map (·.2))) H' s' ∧ tn i s'.heap ∧ (∀ b ∈ fp, H' b = none) ∧ Wv i H') ?_ (len - 0) ⟨0, H3, rfl, I4, st4, n3, w0⟩
    rintro _ s5 ⟨i, H5, rfl, I5, st5, n5, w5⟩
    rcases turn i H5 w5 with ⟨stop, fin⟩ | ⟨go, step⟩
    · refine thnF (T.done (X.blk { s2 with heap := h3 } H3 scope ce fp) rfl rfl rfl hc i [] s5 _ H5 (fun _ _ => False) I5 (young I5 n5) st5 stop) ?_
      rintro _ s6 ⟨rfl, I6⟩
      have I7 : Inv X pins σ H5 s6 := I3.call' (ch := fp) I6.os I6.base I6.hok I6.bare fun b hb => let z := (f3 b hb).1.2; ⟨z.2.2.1, z.1, z.2.2.2.1, z.2.2.2.2⟩
      have nC : H5 h3.objs.size = none := by
        rw [← cl]
        exact I6.free
      obtain ⟨m, hn, _⟩ := I6.loc
      obtain ⟨g0, g1, g2, g3, g4, g5⟩ := I3.fpOk (Nat.le_refl _) nC
      refine ⟨m, (show s6.heap.Ns h3.objs.size m by rw [← cl]; exact hn), fun h'' sb => ?_⟩
      exact ⟨.ref D, H5, I7.turned (t' := s6.toks) (fun b o hb e => (sb.2 b hb).trans e) g0 g1 g3 g4 g5, rfl, fin⟩
    · refine thnF (T.item (X.blk { s2 with heap := h3 } H3 scope ce fp) rfl rfl rfl hc i [] s5 _ H5 (fun _ _ => False) I5 (young I5 n5) st5 go) ?_
      rintro _ s6 ⟨u, rfl, h6⟩
      refine thnF h6 ?_
      rintro _ s7 ⟨x, H7, I7, r7, y7, st7, n7⟩
      refine thnF (pg.run _ s7 _ H7 x u _ (I7.pinned (young I7 n7) (T.obj _ _ st7)) r7 (step x H7 y7)) ?_
      rintro _ s8 ⟨σ8, H8, I8, w8, q8⟩
      show wpAny _ _ (pure true) _ _ s8
      refine wpAny_pure ?_
      simp only [if_true]
      refine thnF (pe.run _ s8 σ8 H8 _ I8 q8) ?_
      rintro z s9 ⟨_, H9, I9, r9, k, ks, rfl, hD, room, nx⟩
      obtain ⟨tk, rfl⟩ := r9
      refine add_ok (X := X.blk { s2 with heap := h3 } H3 scope ce fp) I9 hD room fun s10 I10 => ?_
      have hle := wl _ _ nx
      refine ⟨len - (i + 1), by omega, i + 1, _, rfl, I10.unpinned.weak (by rw [← w8, wipe_length]) (fun j v e => by rw [← w8] at e; exact (wipe_some e).1), T.keep _ _ _ st7 (fun b hb o e => (I10.pin (b, o) (List.mem_append_right _ (List.mem_append_right _ (mem_pinsAt hb e)))).1), (fun b hb => ?_), nx⟩
      obtain ⟨o, e, _⟩ := T.obj _ _ st7 b hb
      exact (I10.pin (b, o) (List.mem_append_right _ (List.mem_append_right _ (mem_pinsAt hb e)))).2.1
  exact PpSet.codeAny_compStart_set loop (T.self X.A 0 _ _ _ st4 loop)
end
end TxS

set_option Elab.async false
set_option maxRecDepth 100000
set_option maxHeartbeats 4000000
set_option linter.all false
/-! texts in order: no program in sight -/
namespace TxS
open PySem PySem.Spec PyProof.Rows
def leS (x y : Str) : Bool := !ltCps y.cps.toList x.cps.toList
theorem leS_iff {x y : Str} : leS x y = true ↔ x.cps.toList ≤ y.cps.toList := by
  unfold leS
  rw [ltCps_eq, Bool.not_eq_true', decide_eq_false_iff_not]
  exact List.not_lt
theorem leS_total (x y : Str) : leS x y = true ∨ leS y x = true := by
  rw [leS_iff, leS_iff]
  exact List.le_total ..
theorem leS_trans {x y z : Str} (h1 : leS x y = true) (h2 : leS y z = true) : leS x z = true := by
  rw [leS_iff] at *
  exact List.le_trans h1 h2
theorem leS_anti {x y : Str} (h1 : leS x y = true) (h2 : leS y x = true) : x = y := by
  rw [leS_iff] at *
  have := List.le_antisymm h1 h2
  cases x
  cases y
  simp only [Str.mk.injEq]
  exact Array.toList_inj.mp this
def insS (x : Str) : List Str → List Str
  | [] => [x]
  | y :: r => if leS x y = true then x :: y :: r else y :: insS x r
def sortT : List Str → List Str
  | [] => []
  | x :: r => insS x (sortT r)
abbrev OrdS (l : List Str) : Prop := l.Pairwise fun a b => leS a b = true
theorem ins_perm (x : Str) : ∀ l : List Str, (insS x l).Perm (x :: l)
  | [] => .refl _
  | y :: r => by
    unfold insS
    split
    · exact .refl _
    · exact ((ins_perm x r).cons y).trans (.swap ..)
theorem sort_perm : ∀ l : List Str, (sortT l).Perm l
  | [] => .refl _
  | x :: r => (ins_perm x _).trans ((sort_perm r).cons x)
theorem ins_ord (x : Str) : ∀ l : List Str, OrdS l → OrdS (insS x l)
  | [], _ => List.pairwise_singleton ..
  | y :: r, h => by
    unfold insS
    obtain ⟨h1, h2⟩ := List.pairwise_cons.mp h
    split
    · rename_i c
      exact List.pairwise_cons.mpr ⟨fun z hz => (List.mem_cons.mp hz).elim (fun e => e ▸ c) fun hz => leS_trans c (h1 z hz), h⟩
    · rename_i c
      refine List.pairwise_cons.mpr ⟨fun z hz => ?_, ins_ord x r h2⟩
      rcases List.mem_cons.mp ((ins_perm x r).mem_iff.mp hz) with rfl | hz
      · exact (leS_total y z).resolve_right c
      · exact h1 z hz
theorem sort_ord : ∀ l : List Str, OrdS (sortT l)
  | [] => .nil
  | x :: r => ins_ord x _ (sort_ord r)
theorem ord_eq : ∀ {l m : List Str}, l.Perm m → OrdS l → OrdS m → l = m
  | [], m, p, _, _ => (List.nil_perm.mp p).symm ▸ rfl
  | x :: r, [], p, _, _ => absurd p.length_eq (by simp)
  | x :: r, y :: t, p, h1, h2 => by
    obtain ⟨a1, a2⟩ := List.pairwise_cons.mp h1
    obtain ⟨b1, b2⟩ := List.pairwise_cons.mp h2
    have e : x = y := by
      rcases List.mem_cons.mp (p.mem_iff.mp (List.mem_cons_self ..)) with e | hx
      · exact e
      · rcases List.mem_cons.mp (p.mem_iff.mpr (List.mem_cons_self ..)) with e | hy
        · exact e.symm
        · exact leS_anti (a1 y hy) (b1 x hx)
    subst e
    rw [ord_eq p.cons_inv a2 b2]
theorem ord_of_rising : ∀ (p : Str) (l : List Str), risingS p l = true → OrdS (p :: l)
  | p, [], _ => List.pairwise_singleton ..
  | p, x :: r, h => by
    have h : (leS p x && risingS x r) = true := h
    rw [Bool.and_eq_true] at h
    have ih := ord_of_rising x r h.2
    exact List.pairwise_cons.mpr ⟨fun z hz => (List.mem_cons.mp hz).elim (fun e => e ▸ h.1) fun hz => leS_trans h.1 ((List.pairwise_cons.mp ih).1 z hz), ih⟩
theorem ord_of_sorted : ∀ l : List Str, sortedS l = true → OrdS l
  | [], _ => .nil
  | x :: r, h => ord_of_rising x r h
/-- what sorted() gives is the sorted list -/
theorem sorted_is {ys ks : List Str} (p : ys.Perm ks) (h : sortedS ys = true) : ys = sortT ks := ord_eq (p.trans (sort_perm ks).symm) (ord_of_sorted ys h) (sort_ord ks)
/-- the members of a list, each once -/
def mems (xs : List Str) : List Str := xs.foldl more []
end TxS

set_option Elab.async false
set_option maxRecDepth 100000
set_option maxHeartbeats 4000000
set_option linter.all false
/-! the mirror layer: sorted({text for ..}) -/
namespace Md
open PySem PySem.Spec PyProof.Rows L2 TxS
/-- the members met, each once -/
def scGo (γ : FG) (φ : FE) (ds : DSt) : List D → List Str → Sto → Out (List Str)
  | [], ks, s => .ok ks s
  | x :: r, ks, s => match γ x ds with
    | none => .bad
    | some ds1 => match φ ds1 s with
      | .ok (.str k) s1 => scGo γ φ ds r (more ks k) s1
      | _ => .bad
def sortR (ks : List Str) (s : Sto) : Out D := .ok (.lst ((sortT ks).map .str)) s
def sortSc (η : FA) (γ : FG) (φ : FE) (vs : List Nat) : FE := bindX η fun ds xs s => if xs.length < 64 then (scGo γ φ (wipeD ds vs) xs [] s).bind sortR else .bad
section
variable {X : Cx} {K : PySem.W.Frag} {Γ : Nat → Addr} {W : WX} {wi : TI} {η : FA} {g : TG} {γ : FG} {sl : List Nat} {te : TE} {φ : FE} {vs : List Nat} {P : Program} {w : World}
theorem rp_strs (F : Hp) : ∀ l : List Str, RpA K Γ F [] (l.map V.str) (l.map D.str)
  | [] => .nil
  | x :: r => .cons (.str x) (rp_strs F r)
theorem gd_sortSc (hi : GI K Γ W wi η) (hg : GG K Γ sl g γ) (he : Gd K Γ W0 te φ) (hsub : ∀ i ∈ sl, i ∈ vs) : Gd K Γ W (tCB (rSortTx P w) (tCons (tTxs P w wi g te vs) tNil)) (sortSc η γ φ vs) := by
  intro σ H Q' G F ι s ds hs hr hp
  show tTxs P w wi g te vs σ H fun v H1 => rSortTx P w [v] H1 Q'
  refine hi.step hs hr hp fun xs s1 J H1 F1 ι1 x1 r1 w1 hs1 hp1 => ?_
  dsimp only at hp1
  intro Dd hD
  by_cases hz : xs.length < 64
  rotate_left
  · rw [if_neg hz] at hp1; exact hp1.elim
  rw [if_pos hz] at hp1
  have rsw := hs1.wipe vs
  refine ⟨fun i H' => i ≤ xs.length ∧ ∃ F' ι' s' ks H0, Ext F1 ι1 F' ι' ∧ ks.length ≤ i ∧ H0 Dd = none ∧ H' = upd H0 Dd (SetSO P w Dd ks) ∧ Rel K Γ G F' H0 ι' s' ∧
    Post K Γ W σ G F' ι' (RV K Γ) Q' ((scGo γ φ (wipeD ds vs) (xs.drop i) ks s').bind sortR), xs.length,
    ⟨Nat.zero_le _, F1, ι1, s1, [], H1, Ext.refl, Nat.le_refl _, hD, rfl, r1, hp1⟩, fun i H h => h.1, ?_⟩
  rintro i _ ⟨hle, F', ι', s', ks, H0, x', hl, n0, rfl, r0, p'⟩
  have w' := w1.ext x'
  have nG : G Dd = none := same_newF r0.aside n0
  have ra' : Rel K Γ (upd G Dd (SetSO P w Dd ks)) F' (upd H0 Dd (SetSO P w Dd ks)) ι' s' := r0.put n0
  by_cases hlt : i < xs.length
  · have e : xs[i]? = some xs[i] := by simp [hlt]
    rw [List.drop_eq_getElem_cons hlt] at p'
    refine Or.inr ⟨w'.goes i _ hlt ra'.sub, fun v H2 y => ?_⟩
    obtain ⟨F2, x2, r2, rp2⟩ := ra'.item w' y e
    unfold scGo at p'
    cases eg : γ xs[i] (wipeD ds vs) with
    | none => rw [eg] at p'; exact p'.elim
    | some ds1 =>
      rw [eg] at p'
      dsimp only at p'
      refine hg v _ _ H2 _ _ F2 ι' s' _ ds1 ((rsw.ext x').ext x2) r2 rp2 eg fun σ3 rs3 o3 => ⟨wipe_eq o3 hsub, ?_⟩
      refine he σ3 H2 _ _ F2 ι' s' ds1 rs3 r2 ?_
      have p3 := p'.ext x2
      cases ee : φ ds1 s' with
      | bad => rw [ee] at p3; exact p3.elim
      | err c p s4 => rw [ee] at p3; exact p3.elim
      | ok y4 s4 =>
        rw [ee] at p3
        intro v4 H4 F4 ι4 x4 r4 q4
        cases y4 <;> first | exact p3.elim | skip
        rename_i k
        cases q4
        obtain ⟨H5, n5, up5, r5, e5⟩ := r4.back nG (fun b z => nomatch z) (fun z => nomatch z)
        refine ⟨k, ks, rfl, e5, ?_, by omega, F4, ι4, s4, more ks k, H5, (x'.trans x2).trans x4, ?_, n5, (up5 _).symm, r5, p3.ext x4⟩
        · have : (100 : Nat) < scanBound := by decide
          omega
        · unfold more
          split
          · omega
          · rw [List.length_cons]; omega
  · have hi : i = xs.length := by omega
    subst hi
    rw [List.drop_length] at p'
    refine Or.inl ⟨w'.stops _ ra'.sub, Dd, ks, rfl, upd_same, by omega, fun out p py so np => ?_⟩
    rw [sorted_is py so]
    obtain ⟨r3, x3⟩ := (r0.junk (o := SetSO P w Dd ks) n0).new (o := .lst ((sortT ks).map V.str)) np
    exact p' _ _ _ _ x3 r3 (.lst upd_same (rp_strs _ _))
theorem de_sortSc {tg iter elt : Expr} {own : List (Str × Nat)} {scope : Scope} {pos pos2 p : Pos} (hc : X.calm = true) (hN : X.N.Nodup) (hi : DI X K Γ W tg iter wi η) (ok : BlkOk X.N X.env.scope scope own) (hg : InBlk X scope fun Y => DG Y K Γ sl tg g γ) (he : InBlk X scope fun Y => DE Y K Γ W0 elt te φ)
    (hgl : L2.Gl X "sorted") (hm : X.mg "sorted" = none) (hsub : ∀ i ∈ sl, i ∈ own.map (·.2) := by decide) (hs : ∀ x, foldedSetIterable iter X.env x = pure x := by intro _; rfl)
    (hst : starEach [.SetComp elt [⟨tg, iter, [], 0⟩] scope pos] X.env = (false, eval (.SetComp elt [⟨tg, iter, [], 0⟩] scope pos) X.env) :: starEach [] X.env := by rfl) :
    DE X K Γ W (.Call (.Name "sorted" p) [.SetComp elt [⟨tg, iter, [], 0⟩] scope pos] [] pos2) (tCB (rSortTx X.prog X.w) (tCons (tTxs X.prog X.w wi g te (own.map (·.2))) tNil)) (sortSc η γ φ (own.map (·.2))) := by
  obtain ⟨_, g1⟩ := hg.one
  obtain ⟨_, e1⟩ := he.one
  refine ⟨pe_callB (cr_sortTx hc) hgl hm (by decide +kernel) (pa_cons (pe_txs hc hN hi.pi ok (fun a b c d e => (hg a b c d e).pg) (fun a b c d e => (he a b c d e).pe) hs) pa_nil) (by decide) (by decide) hst (by rfl), gd_sortSc hi.gd g1.gd e1.gd hsub⟩
end
end Md

set_option Elab.async false
set_option maxRecDepth 100000
set_option maxHeartbeats 4000000
set_option linter.all false
/-! the mirror layer: x[::-1] of tuples, t.index(x) of nested data, at the model's level -/
namespace Md
open PySem PySem.Spec PyProof.Rows L2
section
variable {P : Program} {w : World} {A : Around} {E : Value → Shared → Prop} {s : Shared}
theorem applied_rev {sl : Addr} {va vb vc : Value} {n : Nat} {Q : Int × Int × Nat → Shared → Prop} (hsl : s.heap.IsSliceOf sl va vb vc) (pa : IsPart va none) (pb : IsPart vb none) (pc : IsPart vc (some (-1)))
    (h : Q ((n : Int) - 1, -1, n) s) : wpAny (model P w) A (Builtin.Slice.sliceApplied (.ref sl) (pure (n : Int))) Q E s := by
  obtain ⟨oo, g1, g2, g3⟩ := id hsl
  have e1 : Builtin.Slice.sliceAdjust none none (-1) (n : Int) = ((n : Int) - 1, -1) := rfl
  have e2 : Builtin.Slice.slicePlaces ((n : Int) - 1) (-1) (-1) = n := by
    unfold Builtin.Slice.slicePlaces
    rw [if_neg (by decide)]
    simp only [Int.neg_neg, Int.ediv_one]
    split <;> omega
  unfold Builtin.Slice.sliceApplied Builtin.Slice.sliceFields
  refine wpAny_bind (wpAny_bind (wpAny_field g1 g3 (x := va) rfl (wpAny_bind (wpAny_field g1 g3 (x := vb) rfl (wpAny_bind (wpAny_field g1 g3 (x := vc) rfl (wpAny_pure ?_)))))))
  refine wpAny_bind (HT.slicePart_ pc ?_)
  show wpAny _ _ (if ((-1 : Int) == 0) = true then _ else _) _ _ s
  rw [if_neg (by decide)]
  refine wpAny_bind (HT.slicePart_ pa (wpAny_bind (HT.slicePart_ pb (wpAny_bind (wpAny_pure ?_)))))
  show wpAny _ _ (match Builtin.Slice.sliceAdjust none none (-1) (n : Int) with | (lo, hi) => pure (lo, (-1 : Int), Builtin.Slice.slicePlaces lo hi (-1))) _ _ s
  rw [e1]
  show wpAny _ _ (pure ((n : Int) - 1, (-1 : Int), Builtin.Slice.slicePlaces ((n : Int) - 1) (-1) (-1))) _ _ s
  rw [e2]
  exact wpAny_pure h
theorem pick_rev (xs : Array Value) : ((List.range xs.size).filterMap fun (m : Nat) => xs[(((xs.size : Nat) : Int) - 1 + (m : Int) * (-1)).toNat]?).toArray = xs.toList.reverse.toArray := by
  have e : (List.range xs.size).filterMap (fun (m : Nat) => xs[(((xs.size : Nat) : Int) - 1 + (m : Int) * (-1)).toNat]?) = ((List.range xs.size).map fun k => xs.size - 1 - k).filterMap (xs[·]?) := by
    rw [List.filterMap_map]
    congr 1
    funext m
    show xs[(((xs.size : Nat) : Int) - 1 + (m : Int) * (-1)).toNat]? = xs[xs.size - 1 - m]?
    rw [show (((xs.size : Nat) : Int) - 1 + (m : Int) * (-1)).toNat = xs.size - 1 - m by omega]
  rw [e, PySem.W.krv_range, List.filterMap_reverse, PySem.W.krv_all]
theorem getItem_tuple_rev {t sl : Addr} {its : Array Value} {va vb vc : Value} {Q : Value → Shared → Prop} (hT : IsTup s.heap t its) (hsl : s.heap.IsSliceOf sl va vb vc) (pa : IsPart va none) (pb : IsPart vb none) (pc : IsPart vc (some (-1)))
    (h : Q (.ref s.heap.objs.size) { s with heap := s.heap.push { cls := .type "tuple", data := .seq its.toList.reverse.toArray } })
    (hz0 : its.size ≤ sizeLine) : wpAny (model P w) A (getItem (.ref t) (.ref sl)) Q E s := by
  have hsm : sizeOk (.seq its.toList.reverse.toArray) := by
    show its.toList.reverse.toArray.size ≤ sizeLine
    rw [List.size_toArray, List.length_reverse, Array.length_toList]
    exact hz0
  obtain ⟨oo, g1, g2, g3⟩ := id hsl
  have hty : s.TypeIs (.ref sl) "slice" := ⟨oo, g1, g2⟩
  unfold getItem
  try (with_reducible refine wpAny_holding ?_)
  try refine wpAny_bind (wpAny_pure ?_)
  refine wpAny_bind (wpAny_sequenceKey hT.typeIs (by decide) ?_)
  refine wpAny_bind (wpAny_callSpecial?_slot (name := Str.ofString "__getitem__") hT.typeIs PyProof.Rows.slot_tuple_getitem
    (wpAny_call_entry PyProof.Rows.slot_tuple_getitem hT.typeIs entry_tuple_getitem ?_ (args_tuple_getitem _ _)))
  show wpAny _ _ (Builtin.Tuple.tupleItemsOf (.ref t) >>= _) _ _ s
  refine wpAny_bind (tupleItemsOf_ hT ?_)
  refine wpAny_bind (wpAny_typeOf hty ?_)
  rw [if_pos (by decide)]
  refine wpAny_bind (applied_rev hsl pa pb pc ?_)
  have hno : ¬ (((((its.size : Nat) : Int) - 1) == 0 && (-1 : Int) == 1 && its.size == its.size) = true) := by
    intro q
    rw [Bool.and_eq_true, Bool.and_eq_true] at q
    exact absurd q.1.2 (by decide)
  show wpAny _ _ (if ((((its.size : Nat) : Int) - 1) == 0 && (-1 : Int) == 1 && its.size == its.size) = true then _ else _) _ _ s
  rw [if_neg hno, pick_rev]
  first
    | exact wpAny_bind (m := Builtin.Tuple.tupleExact _) (wpAny_newObj_type (wpAny_pure ⟨_, rfl, wpAny_pure h⟩) hsm)
    | exact wpAny_bind (m := Builtin.Tuple.tupleExact _) (wpAny_newObj_type (wpAny_bind (wpAny_pure (wpAny_pure ⟨_, rfl, wpAny_pure h⟩))) hsm)
    | exact wpAny_bind (wpAny_bind (m := Builtin.Tuple.tupleExact _) (wpAny_newObj_type (wpAny_pure (wpAny_pure ⟨_, rfl, wpAny_pure h⟩)) hsm))
    | exact wpAny_bind (wpAny_bind (m := Builtin.Tuple.tupleExact _) (wpAny_newObj_type (wpAny_pure ⟨_, rfl, wpAny_pure h⟩) hsm))
end
section
variable {X : Cx}
/-- x[::-1], a list or a tuple -/
def tRevA (K : PySem.W.Frag) (te : TE) : TE := fun σ H Q => te σ H fun x H1 => ∃ a xs, x = .ref a ∧ ((SqL K H1 a xs ∧ ∀ p, H1 p = none → Q (.ref p) (upd H1 p (.lst xs.reverse))) ∨ (SqT K H1 a xs ∧ ∀ p, H1 p = none → Q (.ref p) (upd H1 p (.tup xs.reverse))))
theorem pe_revA {K : PySem.W.Frag} {e : Expr} {te : TE} {k : Nat} {p1 p2 p3 pos : Pos} (he : PE X e te) (hK : X.K = K := by rfl) : PE X (.Subscript e (.Slice none none (some (.UnaryOp .USub (.Constant (.int 1) k p1) p2)) p3) pos) (tRevA K te) := by
  subst hK
  refine ⟨fun pz s σ H Q I h => ?_⟩
  refine Subscript_ (thn (he.run pz s σ H _ I h) fun v s1 ⟨x, H1, J1, r1, q1⟩ => ?_)
  obtain ⟨a, xs, ex, q⟩ := q1
  subst ex
  cases r1
  have hneg : PO X (some (.UnaryOp .USub (.Constant (.int 1) k p1) p2)) (tPart (tUn (rU fun i => .int (-i)) (tC (.int 1)))) := po_some (pe_un un_neg pe_int)
  refine wpAny_Slice (thn (po_none.run pz s1 σ H1 (fun o H2 => o = none ∧ H2 = H1) J1 ⟨rfl, rfl⟩) fun va s2 ⟨l, H2, J2, pa, el, e2⟩ => ?_)
  subst el e2
  refine thn (po_none.run pz s2 σ H2 (fun o H3 => o = none ∧ H3 = H2) J2 ⟨rfl, rfl⟩) fun vb s3 ⟨u, H3, J3, pb, eu, e3⟩ => ?_
  subst eu e3
  refine thn (hneg.run pz s3 σ H3 (fun o H4 => o = some (-1) ∧ H4 = H3) J3 ⟨1, rfl, -1, rfl, rfl, rfl⟩) fun vc s4 ⟨o, H4, J4, pc, eo, e4⟩ => ?_
  subst eo e4
  have J5 : Inv X pz σ H4 { s4 with heap := s4.heap.push { cls := .type "slice", data := .fields #[va, vb, vc] } } := J4.kept (t' := s4.toks) fun b ob q => Heap.get?_push_of_some _ q
  show wpAny (model X.prog X.w) X.A (subscriptTail e (.Slice none none (some (.UnaryOp .USub (.Constant (.int 1) k p1) p2)) p3) (.ref a) (.ref s4.heap.objs.size)) (EP X pz σ Q) X.xe { s4 with heap := s4.heap.push { cls := .type "slice", data := .fields #[va, vb, vc] } }
  rcases q with ⟨hx, q⟩ | ⟨hx, q⟩
  · obtain ⟨its, r, hT, hz⟩ := J5.list hx
    have hlen := r.length
    refine tail_any (ops := [.ref a, .ref s4.heap.objs.size]) hT.isList.typeIs (PySem.slot_list_getitem.lookup) ?_ (by with_unfolding_all rfl)
    refine wpAny_getItem_list_slice hT.isList (Heap.IsSliceOf.new _ va vb vc) pa pb pc (by decide) ?_ (by rw [List.size_toArray]; omega)
    rw [PySem.W.krv_pick]
    refine ⟨.ref _, _, J5.laid (t' := s4.toks) (o := .lst xs.reverse) (fun b ob q => Heap.get?_push_of_some _ q) (Nat.le_refl _) ?_, rfl, q _ (J5.hok.fresh (Nat.le_refl _))⟩
    exact ⟨by rw [List.length_reverse]; exact hz, _, 0, r.reverse, Heap.get?_push_size _ rfl⟩
  · obtain ⟨its, r, hT, hz⟩ := J5.tuple hx
    have hlen := r.length
    refine tail_any (ops := [.ref a, .ref s4.heap.objs.size]) hT.typeIs (PyProof.Rows.slot_tuple_getitem.lookup) ?_ (by with_unfolding_all rfl)
    refine getItem_tuple_rev hT (Heap.IsSliceOf.new _ va vb vc) pa pb pc ?_ (by rw [List.size_toArray]; omega)
    refine ⟨.ref _, _, J5.laid (t' := s4.toks) (o := .tup xs.reverse) (fun b ob q => Heap.get?_push_of_some _ q) (Nat.le_refl _) ?_, rfl, q _ (J5.hok.fresh (Nat.le_refl _))⟩
    exact ⟨by rw [List.length_reverse]; exact hz, _, r.reverse, IsTup.new _ _⟩
end
end Md

set_option Elab.async false
set_option maxRecDepth 100000
set_option maxHeartbeats 4000000
set_option linter.all false
/-! the mirror layer: x[::-1], dict(pairs), unpacking of lists, join, index, two fields at once -/
namespace Md
open PySem PySem.Spec PyProof.Rows L2
/-- a comprehension within a comprehension's block -/
theorem blkOk_in {N : List Str} {scope0 scope : Scope} {own : List (Str × Nat)} {env : Env} {cl : List (Str × Addr)} {C : Addr} (sd : Scope) (he : env.scope = sd) (h : blkC N (relabel scope0 (envOfC Str.empty sd 0 0 .none)) scope own = true) : BlkOk N (compEnvC scope0 cl C env).scope scope own := by
  have e : relabel scope0 env = relabel scope0 (envOfC Str.empty sd 0 0 .none) := by
    subst he
    rfl
  show BlkOk N (relabel scope0 env) scope own
  rw [e]
  exact blkOk_by h
/-! ### x[::-1] -/
def revA (x : D) (s : Sto) : Out D := match vw x s with
  | .lst xs => .ok (.lst xs.reverse) s
  | .tup xs => .ok (.tup xs.reverse) s
  | _ => .bad
section
variable {X : Cx} {K : PySem.W.Frag} {Γ : Nat → Addr} {W : WX} {e : Expr} {te : TE} {φ : FE}
theorem gd_revA (h : Gd K Γ W te φ) : Gd K Γ W (tRevA K te) (bindX φ fun _ => revA) := by
  intro σ H Q G F ι s ds hs hr hp
  refine h.step hs hr hp fun x s1 v H1 F1 ι1 x1 r1 q1 hs1 hp1 => ?_
  try dsimp only at hp1
  unfold revA at hp1
  split at hp1
  · rename_i xs ev
    obtain ⟨a, vs, rfl, ha, g⟩ := r1.view q1 (view_lst ev)
    refine ⟨a, vs, rfl, Or.inl ⟨SqL.of ha, fun p np => ?_⟩⟩
    obtain ⟨r2, x2⟩ := r1.new (o := .lst vs.reverse) np
    exact hp1 _ _ _ _ x2 r2 (.lst upd_same (g.reverse.ext x2.nil))
  · rename_i xs ev
    have ex := view_tup ev
    subst ex
    cases q1 with
    | tup t g =>
      refine ⟨_, _, rfl, Or.inr ⟨Gl.sqTS r1.sub t, fun p np => ?_⟩⟩
      obtain ⟨r2, x2⟩ := r1.new (o := .tup _) np
      exact hp1 _ _ _ _ x2 r2 (.tup (SqT.of upd_same) (g.reverse.ext x2.nil))
  · exact hp1.elim
theorem de_revA {k : Nat} {p1 p3 p4 pos : Pos} (he : DE X K Γ W e te φ) (hK : X.K = K := by rfl) : DE X K Γ W (.Subscript e (.Slice none none (some (.UnaryOp .USub (.Constant (.int 1) k p1) p3)) p4) pos) (tRevA K te) (bindX φ fun _ => revA) :=
  ⟨pe_revA he.pe hK, gd_revA he.gd⟩
end
/-! ### dict(list of pairs) -/
def pairsD : List D → Option (List (Key × D))
  | [] => some []
  | .tup [k, v] :: r => match keyOf k, pairsD r with
    | some q, some qs => some ((q, v) :: qs)
    | _, _ => none
  | _ => none
def dictOfD (xs : List D) (s : Sto) : Out D := match xs with
  | [x] => match vw x s with
    | .lst ys => match pairsD ys with
      | some kvs => .ok (.dic (mergeKD [] kvs)) s
      | none => .bad
    | _ => .bad
  | _ => .bad
section
variable {X : Cx} {K : PySem.W.Frag} {Γ : Nat → Addr} {W : WX} {F H : Hp} {ι : List Addr}
def rDictP (K : PySem.W.Frag) : List V → Hp → VK → Prop := fun xs H Q => ∃ (a : Addr) (ps : List Addr) (kvs : List (Key × V)), xs = [.ref a] ∧ SqL K H a (ps.map V.ref) ∧ Paired (fun p kv => SqT K H p [kV kv.1, kv.2]) ps kvs ∧ ∀ p, H p = none → Q (.ref p) (upd H p (.dK (mergeK [] kvs)))
theorem call_dictPA (hc : X.calm = true) (hK : X.K = K := by rfl) : CallR X (.type "dict") (rDictP K) := by subst hK; exact call_dictP hc
theorem pairs_rp (sm : Same F H) : ∀ {ys : List D} {vs : List V} {kvs : List (Key × D)}, RpA K Γ F [] vs ys → pairsD ys = some kvs → ∃ (ps : List Addr) (ks : List (Key × V)), vs = ps.map V.ref ∧ Paired (fun p kv => SqT K H p [kV kv.1, kv.2]) ps ks ∧ RpK K Γ F [] ks kvs
  | [], _, _, .nil, e => by cases e; exact ⟨[], [], rfl, .nil, .nil⟩
  | d :: r, _, kvs, .cons (v := v) (vs := vs) h g, e => by
    match d, h, e with
    | .tup [k, y], h, e =>
      have e' : (match keyOf k, pairsD r with | some q, some qs => some ((q, y) :: qs) | _, _ => none) = some kvs := e
      split at e'
      · rename_i q qs ek er
        cases e'
        obtain ⟨ps, ks, rfl, hp, hk⟩ := pairs_rp sm g er
        cases h with
        | tup t gt =>
          cases gt with
          | cons h1 g1 =>
            cases g1 with
            | cons h2 g2 =>
              cases g2
              have ev := keyOf_rp h1 ek
              subst ev
              exact ⟨_ :: ps, (q, _) :: ks, rfl, .cons (Gl.sqTS sm t) hp, .cons h2 hk⟩
      · cases e'
theorem gd_dictOf {ta : TA} {ψ : FA} (ha : Ga K Γ W ta ψ) : Gd K Γ W (tFrz (tCB (rDictP K) ta)) (callB dictOfD ψ) := by
  intro σ H Q G F ι s ds hs hr hp
  refine ha.step hs hr hp fun xs s1 vs H1 F1 ι1 x1 r1 q1 hs1 hp1 => ?_
  try dsimp only at hp1
  unfold dictOfD at hp1
  split at hp1
  · rename_i x
    obtain ⟨v, rfl, gv⟩ := one_rp q1
    split at hp1
    · rename_i ys ev
      split at hp1
      · rename_i kvs ek
        obtain ⟨a, us, rfl, hl, g⟩ := r1.view gv (view_lst ev)
        obtain ⟨ps, ks, rfl, hpd, hk⟩ := pairs_rp r1.sub g ek
        refine ⟨a, ps, ks, rfl, SqL.of hl, hpd, fun p np => ⟨p, _, rfl, upd_same, trivial, fun od => ?_⟩⟩
        rw [upd_upd]
        obtain ⟨r4, x4⟩ := r1.new (o := .frz od (.dK (mergeK [] ks))) np
        exact hp1 _ _ _ _ x4 r4 (.dK upd_same ((hk.merge .nil).ext x4.nil))
      · exact hp1.elim
    · exact hp1.elim
  · exact hp1.elim
theorem de_dictOf {pos p : Pos} {e : Expr} {ta : TA} {ψ : FA} (hc : X.calm = true) (hg : L2.Gl X "dict") (hm : X.mg "dict" = none) (ha : DA X K Γ W [e] ta ψ) (hK : X.K = K := by rfl)
    (he : starEach [e] X.env = (false, eval e X.env) :: starEach [] X.env := by rfl) (hpl : (backTo pos (starEach [] X.env)).any (·.1) = false := by rfl) : DE X K Γ W (.Call (.Name "dict" p) [e] [] pos) (tFrz (tCB (rDictP K) ta)) (callB dictOfD ψ) :=
  ⟨pe_frz (pe_callTy (call_dictPA hc hK) hg hm (by decide +kernel) ha.pa (by decide) (by decide) he hpl), gd_dictOf ha.gd⟩
end
/-! ### a, b = a list or a tuple -/
def tupGA (n : Nat) (δ : List D → DSt → Option DSt) : FG := fun d ds => match d with
  | .tup es => if es.length = n then δ es ds else none
  | .lst es => if es.length = n then δ es ds else none
  | _ => none
section
variable {X : Cx} {K : PySem.W.Frag} {Γ : Nat → Addr} {sl : List Nat} {es : List Expr} {gs : TGs} {δ : List D → DSt → Option DSt} {n k : Nat} {pos : Pos}
theorem PG.or {tg : Expr} {g g' : TG} (h : PG X tg g) (h' : PG X tg g') : PG X tg (fun v σ H Q => g v σ H Q ∨ g' v σ H Q) := by
  constructor
  intro pins s σ H v u Q I r q
  rcases q with q | q
  · exact h.run pins s σ H v u Q I r q
  · exact h'.run pins s σ H v u Q I r q
theorem dg_tupA (hc : X.calm = true) (h : DGs X K Γ sl es gs δ) (hn : (assignEach es X.env).length = n := by rfl) (hst : (assignEach es X.env).findIdx? (·.1) = none := by rfl) (hK : X.K = K := by rfl) : DG X K Γ sl (.Tuple es k pos) (fun v σ H Q => gTup K n gs v σ H Q ∨ gUnl K n gs v σ H Q) (tupGA n δ) := by
  have hd := dg_tup (k := k) (pos := pos) hc h hn hst hK
  subst hK
  refine ⟨PG.or hd.pg (pg_unl hc h.pg hn hst), fun v d σ H Q G F ι s ds ds' hs hr rp e hq => ?_⟩
  unfold tupGA at e
  split at e
  · refine Or.inl (hd.gd v _ σ H Q G F ι s ds ds' hs hr rp ?_ hq)
    exact e
  · split at e
    · rename_i hl
      cases rp with
      | lst f g => exact Or.inr ⟨_, _, rfl, SqL.of (hr.sub _ _ f), by rw [g.length]; exact hl, h.gd _ _ σ H Q G F ι s ds ds' hs hr g.up e hq⟩
    · cases e
  · cases e
end
/-! ### sep.join(texts) -/
def strsD : List D → Option (List Str)
  | [] => some []
  | .str x :: r => (strsD r).map (x :: ·)
  | _ => none
def joinO (a : Str) (o : Option (List Str)) (s : Sto) : Out D := match o with
  | some zs => if (zs.map (·.length)).sum + zs.length * a.length ≤ 16777216 then .ok (.str (Txt.join a zs)) s else .bad
  | none => .bad
def joinM (x : D) (args : List D) (s : Sto) : Out D := match x, args with
  | .str a, [d] => match vw d s with
    | .lst ys => joinO a (strsD ys) s
    | .tup ys => joinO a (strsD ys) s
    | _ => .bad
  | _, _ => .bad
section
variable {X : Cx} {K : PySem.W.Frag} {Γ : Nat → Addr} {F : Hp} {ι : List Addr}
theorem strs_rp : ∀ {ds : List D} {vs : List V} {zs : List Str}, RpA K Γ F ι vs ds → strsD ds = some zs → vs = zs.map V.str
  | [], _, _, .nil, e => by cases e; rfl
  | d :: r, _, zs, .cons h g, e => by
    match d, h, e with
    | .str x, h, e =>
      cases h
      have e' : (strsD r).map (x :: ·) = some zs := e
      cases er : strsD r with
      | none => rw [er] at e'; cases e'
      | some ys =>
        rw [er] at e'
        cases e'
        rw [strs_rp g er]
        rfl
def rJoin (K : PySem.W.Frag) : V → List V → Hp → VK → Prop := fun x xs H Q => ∃ a p, ∃ ys : List Str, x = .str a ∧ xs = [.ref p] ∧ (SqL K H p (ys.map V.str) ∨ SqT K H p (ys.map V.str)) ∧ (ys.map (·.length)).sum + ys.length * a.length ≤ 16777216 ∧ Q (.str (Txt.join a ys)) H
theorem mt_joinA (hK : X.K = K := by rfl) : MtR X "str.join" (rJoin K) := by subst hK; exact mt_join
theorem mg_join : MtG K Γ "str" (rJoin K) joinM := by
  intro W σ H Q G F ι s x v xs vs r gx gv hp
  unfold joinM at hp
  split at hp
  · rename_i a d
    cases gx
    obtain ⟨w, rfl, gw⟩ := one_rp gv
    split at hp
    · rename_i ys ev
      obtain ⟨b, us, rfl, hl, g⟩ := r.view gw (view_lst ev)
      unfold joinO at hp
      split at hp
      · rename_i zs ez
        split at hp
        · rename_i hz
          have e := strs_rp g ez
          subst e
          exact ⟨a, b, zs, rfl, rfl, Or.inl (SqL.of hl), hz, hp _ _ _ _ Ext.refl r (.str _)⟩
        · exact hp.elim
      · exact hp.elim
    · rename_i ys ev
      have ex := view_tup ev
      subst ex
      unfold joinO at hp
      split at hp
      · rename_i zs ez
        split at hp
        · rename_i hz
          cases gw with
          | tup t g =>
            have e := strs_rp g ez
            subst e
            exact ⟨a, _, zs, rfl, rfl, Or.inr (Gl.sqTS r.sub t), hz, hp _ _ _ _ Ext.refl r (.str _)⟩
        · exact hp.elim
      · exact hp.elim
    · exact hp.elim
  · exact hp.elim
end
/-! ### xs.index(y), t.index(y) -/
def idxP : List PyData → PyData → Option Nat
  | [], _ => none
  | z :: r, d => if PyData.eqv z d = true then some 0 else (idxP r d).map (· + 1)
theorem idxP_spec : ∀ {ds : List PyData} {d : PyData} {j : Nat}, idxP ds d = some j → ∃ z, ds[j]? = some z ∧ PyData.eqv z d = true ∧ ∀ (m : Nat) (z' : PyData), m < j → ds[m]? = some z' → PyData.eqv z' d = false
  | [], _, _, e => by cases e
  | z :: r, d, j, e => by
    unfold idxP at e
    split at e
    · rename_i h
      cases e
      exact ⟨z, rfl, h, fun m z' hm => absurd hm (Nat.not_lt_zero m)⟩
    · rename_i h
      cases er : idxP r d with
      | none => rw [er] at e; cases e
      | some i =>
        rw [er] at e
        cases e
        obtain ⟨z1, h1, h2, h3⟩ := idxP_spec er
        refine ⟨z1, h1, h2, fun m z' hm hz => ?_⟩
        cases m with
        | zero =>
          cases hz
          exact Bool.eq_false_iff.mpr h
        | succ m => exact h3 m z' (Nat.lt_of_succ_lt_succ hm) hz
def indexM (x : D) (args : List D) (s : Sto) : Out D := match args with
  | [d] => match (vw x s).py, (vw d s).py with
    | some (.list ps), some q => if (SeqAt.shaped (.list ps) && SeqAt.shaped q) = true then match idxP ps q with
        | some j => .ok (.int (j : Nat)) s
        | none => .bad
      else .bad
    | _, _ => .bad
  | _ => .bad
section
variable {X : Cx} {K : PySem.W.Frag} {Γ : Nat → Addr}
theorem mt_indexDA {k : Nat} (hr : Room k X.A) (hK : X.K = K := by rfl) : MtR X "list.index" (rIndexD K) := by subst hK; exact mt_indexD (Gl.in_room hr)
theorem mg_index : MtG K Γ "list" (rIndexD K) indexM := by
  intro W σ H Q G F ι s x v xs vs r gx gv hp
  unfold indexM at hp
  split at hp
  · rename_i d
    obtain ⟨w, rfl, gw⟩ := one_rp gv
    split at hp
    · rename_i ps q e1 e2
      split at hp
      · rename_i hc
        rw [Bool.and_eq_true] at hc
        split at hp
        · rename_i j ej
          obtain ⟨z, h1, h2, h3⟩ := idxP_spec ej
          have p1 := r.viewP gx e1
          have p2 := r.viewP gw e2
          cases p1 with
          | lst hs ha => exact ⟨_, w, q, ps, j, z, rfl, rfl, .lst hs ha, p2, hc.1, hc.2, h1, h2, h3, hp _ _ _ _ Ext.refl r (.int _)⟩
        · exact hp.elim
      · exact hp.elim
    · exact hp.elim
  · exact hp.elim
end
/-! ### o.f, p.g = e -/
def gSl (K : PySem.W.Frag) (to : TE) (f : Str) : TG := fun y σ H Q => to σ H fun x H1 => ∃ a C dx p vs i, x = .ref a ∧ SlX.Slt H1 a C dx vs ∧ SlX.SCls K C ∧ SlX.Slot1 K C f p i ∧ Q σ (SlX.slH H1 a C dx (SlX.putS i y vs))
def setAttr2S (tab tab' : Nat → Option Nat) (φ φ' ψ : FE) : FS := fun ds s => bindS (ψ ds s) ds fun d s => match d with
  | .tup [y, z] => bindS (φ ds s) ds fun x s => match setAttrD tab x y s with
    | some s1 => bindS (φ' ds s1) ds fun x' s => match setAttrD tab' x' z s with
      | some s2 => .nx ds s2
      | none => .bad
    | none => .bad
  | _ => .bad
section
variable {X : Cx} {K : PySem.W.Frag} {Γ : Nat → Addr} {W : WX} {o o' v : Expr} {to to' tv : TE} {φ φ' ψ : FE} {pos pos' : Pos} {f f' : Str} {tab tab' : Nat → Option Nat}
theorem pg_sl (ho : PE X o to) (hK : X.K = K := by rfl) : PG X (.Attribute o f pos) (gSl K to f) := by
  subst hK
  constructor
  intro pins s σ H y u Q Iv ry hw
  rw [PySem.assign_Attribute]
  refine wpAny_bind (wpAny_holding (thn (ho.run pins s σ H _ Iv hw) fun ov s2 ⟨x, H2, I2, rx, a, C, dx, p, vs, i, ex, hsl, c, t, q2⟩ => ?_))
  subst ex
  obtain rfl : ov = Value.ref a := rx
  refine wpAny_bind (wpAny_standAt (wpAny_bind (wpAny_holding ?_)))
  exact SlX.setslot_ok I2 hsl c t ry fun s3 I3 => wpAny_release ⟨σ, _, I3, q2⟩
theorem setAttr_rel {G F H : Hp} {ι : List Addr} {s s' : Sto} {x d : D} {v y : V} (ht : SlTab K Γ f tab) (hr : Rel K Γ G F H ι s) (rx : Rp K Γ F ι v x) (ry : Rp K Γ F ι y d) (e : setAttrD tab x d s = some s') :
    ∃ a C dx p vs i, v = .ref a ∧ SlX.Slt H a C dx vs ∧ SlX.SCls K C ∧ SlX.Slot1 K C f p i ∧ Rel K Γ G F (SlX.slH H a C dx (SlX.putS i y vs)) ι s' := by
  cases x <;> first | (cases e; done) | skip
  rename_i n
  have es : (match s[n]? with | some (.ins c fs) => (match tab c with | some i => some (s.set n (.ins c (putO i d fs))) | none => none) | _ => none) = some s' := e
  split at es
  · rename_i c fs en
    split at es
    · rename_i i ei
      cases es
      cases rx with
      | cell ea =>
        obtain ⟨sc, p, s1⟩ := ht c i ei
        obtain ⟨hF, dx, vs, ia, rf⟩ := hr.at_ n _ _ en ea
        exact ⟨_, _, dx, p, vs, i, rfl, ia.slt, sc, s1, hr.writeI ea en hF ia rf ry⟩
    · cases es
  · cases es
theorem gs_attr2 (ht : SlTab K Γ f tab) (ht' : SlTab K Γ f' tab') (h : Gd K Γ W to φ) (h' : Gd K Γ W to' φ') (hv : Gd K Γ W tv ψ) : GS K Γ W (tAsg tv (gTup K 2 (gCons (gSl K to f) (gCons (gSl K to' f') gNil)))) (setAttr2S tab tab' φ φ' ψ) := by
  intro E σ H G F ι s ds hs hr hp
  refine hv.stepS hs hr hp fun d s1 y H1 F1 ι1 x1 r1 q1 hs1 hp1 => ?_
  try dsimp only at hp1
  split at hp1
  · rename_i d1 d2
    cases q1 with
    | tup t g =>
      cases g with
      | cons g1 g' =>
        cases g' with
        | cons g2 g0 =>
          cases g0
          refine ⟨_, _, rfl, Gl.sqTS r1.sub t, rfl, ?_⟩
          refine ⟨_, _, rfl, ?_⟩
          refine h.stepS hs1 r1 hp1 fun x s2 v H2 F2 ι2 x2 r2 q2 hs2 hp2 => ?_
          try dsimp only at hp2
          split at hp2
          · rename_i s3 e3
            obtain ⟨a, C, dx, p, vs, i, rfl, h1, h2, h3, r3⟩ := setAttr_rel ht r2 q2 ((g1.up (ι := ι1)).ext x2) e3
            refine ⟨a, C, dx, p, vs, i, rfl, h1, h2, h3, ?_⟩
            refine ⟨_, _, rfl, ?_⟩
            refine h'.stepS hs2 r3 hp2 fun x s4 v H4 F4 ι4 x4 r4 q4 hs4 hp4 => ?_
            try dsimp only at hp4
            split at hp4
            · rename_i s5 e5
              obtain ⟨a', C', dx', p', vs', i', rfl, h1', h2', h3', r5⟩ := setAttr_rel ht' r4 q4 (((g2.up (ι := ι1)).ext x2).ext x4) e5
              exact ⟨a', C', dx', p', vs', i', rfl, h1', h2', h3', rfl, hp4 _ _ _ _ Ext.refl hs4 r5⟩
            · exact hp4.elim
          · exact hp2.elim
  · exact hp1.elim
theorem ds_attr2 {p1 p2 p3 : Pos} {k : Nat} (hc : X.calm = true) (ht : SlTab K Γ f tab) (ht' : SlTab K Γ f' tab') (h : DE X K Γ W o to φ) (h' : DE X K Γ W o' to' φ') (hv : DE X K Γ W v tv ψ) (hK : X.K = K := by rfl)
    (hn : (assignEach [.Attribute o f p1, .Attribute o' f' p2] X.env).length = 2 := by rfl) (hst : (assignEach [.Attribute o f p1, .Attribute o' f' p2] X.env).findIdx? (·.1) = none := by rfl)
    (ha : (assignEach [.Attribute o f p1, .Attribute o' f' p2] X.env).map (·.2) = assign (.Attribute o f p1) X.env :: (assignEach [.Attribute o' f' p2] X.env).map (·.2) := by rfl)
    (ha' : (assignEach [.Attribute o' f' p2] X.env).map (·.2) = assign (.Attribute o' f' p2) X.env :: (assignEach [] X.env).map (·.2) := by rfl)
    (hs : swapsWithSole [.Tuple [.Attribute o f p1, .Attribute o' f' p2] k p3] v pos.line X.env = pure false := by rfl) (hw : swappedStores [.Tuple [.Attribute o f p1, .Attribute o' f' p2] k p3] v X.env = pure none := by rfl)
    (h1 : (assignEach [.Tuple [.Attribute o f p1, .Attribute o' f' p2] k p3] X.env).map (·.2) = [assign (.Tuple [.Attribute o f p1, .Attribute o' f' p2] k p3) X.env] := by rfl) :
    DS X K Γ W (.Assign [.Tuple [.Attribute o f p1, .Attribute o' f' p2] k p3] v pos) (tAsg tv (gTup K 2 (gCons (gSl K to f) (gCons (gSl K to' f') gNil)))) (setAttr2S tab tab' φ φ' ψ) := by
  subst hK
  exact ⟨ps_asg hv.pe (pg_tup hc (pgs_cons (pg_sl h.pe) (pgs_cons (pg_sl h'.pe) pgs_nil ha') ha) hn hst) hs hw h1, gs_attr2 ht ht' h.gd h'.gd hv.gd⟩
end
end Md

set_option Elab.async false
set_option maxRecDepth 100000
set_option maxHeartbeats 4000000
set_option linter.all false
/-! the mirror layer: more evaluation lemmas -/
namespace Md
open PySem PySem.Spec PyProof.Rows L2 TxS
section
variable {ds : DSt} {s : Sto}
theorem e_revA_lst {xs : List D} : revA (.lst xs) s = .ok (.lst xs.reverse) s := rfl
theorem e_revA_tup {xs : List D} : revA (.tup xs) s = .ok (.tup xs.reverse) s := rfl
theorem dictOf_eq {ys : List D} {kvs : List (Key × D)} (h : pairsD ys = some kvs) : dictOfD [.lst ys] s = .ok (.dic (mergeKD [] kvs)) s := by
  simp only [dictOfD, vw, h]
theorem e_tupGA_tup (n : Nat) (δ : List D → DSt → Option DSt) (es : List D) : tupGA n δ (.tup es) ds = if es.length = n then δ es ds else none := rfl
theorem e_tupGA_lst (n : Nat) (δ : List D → DSt → Option DSt) (es : List D) : tupGA n δ (.lst es) ds = if es.length = n then δ es ds else none := rfl
/-! methods -/
def bmC (f : D → List D → Sto → Out D) (x : D) (o : Out (List D)) : Out D := match o with
  | .ok xs s => f x xs s
  | .err c p s => .err c p s
  | .bad => .bad
def bmB (g : D → Sto → Bool) (f : D → List D → Sto → Out D) (ψ : FA) (ds : DSt) (o : Out D) : Out D := match o with
  | .ok x s => if g x s = true then bmC f x (ψ ds s) else .bad
  | .err c p s => .err c p s
  | .bad => .bad
theorem e_bm (g : D → Sto → Bool) (f : D → List D → Sto → Out D) (φ : FE) (ψ : FA) : bmD g f φ ψ ds s = bmB g f ψ ds (φ ds s) := by
  unfold bmD bindX bmB
  cases φ ds s <;> first | rfl | skip
  rename_i x s1
  simp only [Out.bind, bmC]
  split <;> first | rfl | skip
  cases ψ ds s1 <;> rfl
theorem e_bmB (g : D → Sto → Bool) (f : D → List D → Sto → Out D) (ψ : FA) {x : D} (h : g x s = true) : bmB g f ψ ds (.ok x s) = bmC f x (ψ ds s) := if_pos h
theorem e_bmC (f : D → List D → Sto → Out D) {x : D} {xs : List D} : bmC f x (.ok xs s) = f x xs s := rfl
theorem e_isS {z : Str} : isS (.str z) s = true := rfl
theorem e_isL {xs : List D} : isL (.lst xs) s = true := rfl
theorem isL_cell {n : Nat} {xs : List D} (e : s[n]? = some (.lst xs)) : isL (.cell n) s = true := by
  simp only [isL, viewL, e, Option.isSome_some]
theorem append_eq {n : Nat} {xs : List D} {d : D} (e : s[n]? = some (.lst xs)) (h : xs.length ≤ 100000) (hd : nc d = true) : appendD (.cell n) [d] s = .ok .non (s.set n (.lst (xs ++ [d]))) := by
  simp only [appendD, e, hd, Bool.and_true]
  rw [decide_eq_true (Nat.lt_of_le_of_lt h (by decide +kernel)), if_pos rfl]
theorem join_eq {a : Str} {ys : List D} {zs : List Str} (h : strsD ys = some zs) (hz : (zs.map (·.length)).sum + zs.length * a.length ≤ 100000) : joinM (.str a) [.lst ys] s = .ok (.str (Txt.join a zs)) s := by
  show joinO a (strsD ys) s = _
  rw [h]
  exact if_pos (Nat.le_trans hz (by decide))
/-! o.f, p.g = e -/
def sa2D (tab' : Nat → Option Nat) (z : D) (ds : DSt) (o : Out D) : SOut := match o with
  | .ok x s => setE ds (setAttrD tab' x z s)
  | .err c p s => .err c p ds s
  | .bad => .bad
def sa2E (tab' : Nat → Option Nat) (φ' : FE) (z : D) (ds : DSt) (o : Option Sto) : SOut := match o with
  | some s1 => sa2D tab' z ds (φ' ds s1)
  | none => .bad
def sa2C (tab tab' : Nat → Option Nat) (φ' : FE) (y z : D) (ds : DSt) (o : Out D) : SOut := match o with
  | .ok x s => sa2E tab' φ' z ds (setAttrD tab x y s)
  | .err c p s => .err c p ds s
  | .bad => .bad
def sa2B (tab tab' : Nat → Option Nat) (φ φ' : FE) (ds : DSt) (o : Out D) : SOut := match o with
  | .ok (.tup [y, z]) s => sa2C tab tab' φ' y z ds (φ ds s)
  | .err c p s => .err c p ds s
  | _ => .bad
theorem e_setAttr2 (tab tab' : Nat → Option Nat) (φ φ' ψ : FE) : setAttr2S tab tab' φ φ' ψ ds s = sa2B tab tab' φ φ' ds (ψ ds s) := by
  unfold setAttr2S sa2B bindS
  cases ψ ds s <;> first | rfl | skip
  rename_i d s1
  simp only
  split
  · rename_i y z
    simp only [sa2C]
    cases φ ds s1 <;> first | rfl | skip
    rename_i x s2
    simp only [sa2E]
    cases setAttrD tab x y s2 <;> first | rfl | skip
    rename_i s3
    simp only [sa2D]
    cases φ' ds s3 <;> rfl
  · rename_i h
    split
    · rename_i y z _ e
      cases e
      exact absurd rfl (h y z)
    · rename_i e
      cases e
    · rfl
theorem e_sa2B (tab tab' : Nat → Option Nat) (φ φ' : FE) {y z : D} : sa2B tab tab' φ φ' ds (.ok (.tup [y, z]) s) = sa2C tab tab' φ' y z ds (φ ds s) := rfl
theorem e_sa2C (tab tab' : Nat → Option Nat) (φ' : FE) {y z x : D} : sa2C tab tab' φ' y z ds (.ok x s) = sa2E tab' φ' z ds (setAttrD tab x y s) := rfl
theorem e_sa2E (tab' : Nat → Option Nat) (φ' : FE) {z : D} : sa2E tab' φ' z ds (some s) = sa2D tab' z ds (φ' ds s) := rfl
theorem e_sa2D (tab' : Nat → Option Nat) {z x : D} : sa2D tab' z ds (.ok x s) = setE ds (setAttrD tab' x z s) := rfl
/-! slices -/
def slC2 (x : D) (lo : Option Int) (o : Out (Option Int)) : Out D := match o with
  | .ok hi s => sliceD x lo hi s
  | .err c p s => .err c p s
  | .bad => .bad
def slC1 (x : D) (u : FO) (ds : DSt) (o : Out (Option Int)) : Out D := match o with
  | .ok lo s => slC2 x lo (u ds s)
  | .err c p s => .err c p s
  | .bad => .bad
def slB (l u : FO) (ds : DSt) (o : Out D) : Out D := match o with
  | .ok x s => slC1 x u ds (l ds s)
  | .err c p s => .err c p s
  | .bad => .bad
theorem e_slD (φ : FE) (l u : FO) : slD φ l u ds s = slB l u ds (φ ds s) := by
  unfold slD bindX slB
  cases φ ds s <;> first | rfl | skip
  rename_i x s1
  simp only [Out.bind, slC1]
  cases l ds s1 <;> first | rfl | skip
  rename_i lo s2
  simp only [Out.bind, slC2]
  cases u ds s2 <;> rfl
theorem e_slB (l u : FO) {x : D} : slB l u ds (.ok x s) = slC1 x u ds (l ds s) := rfl
theorem e_slC1 (u : FO) {x : D} {lo : Option Int} : slC1 x u ds (.ok lo s) = slC2 x lo (u ds s) := rfl
theorem e_slC2 {x : D} {lo hi : Option Int} : slC2 x lo (.ok hi s) = sliceD x lo hi s := rfl
def intO (d : D) (s : Sto) : Out (Option Int) := match d with
  | .int i => .ok (some i) s
  | _ => .bad
theorem e_noneO : noneO ds s = .ok none s := rfl
theorem e_someO (φ : FE) : someO φ ds s = (φ ds s).bind intO := by
  unfold someO bindX
  cases φ ds s <;> rfl
theorem e_intO {i : Int} : intO (.int i) s = .ok (some i) s := rfl
theorem e_slice_lst {xs : List D} {lo hi : Option Int} : sliceD (.lst xs) lo hi s = .ok (.lst (cutD xs lo hi)) s := rfl
theorem e_slice_tup {xs : List D} {lo hi : Option Int} : sliceD (.tup xs) lo hi s = .ok (.tup (cutD xs lo hi)) s := rfl
theorem slice_cell {n : Nat} {xs : List D} {lo hi : Option Int} (e : s[n]? = some (.lst xs)) : sliceD (.cell n) lo hi s = .ok (.lst (cutD xs lo hi)) s := by
  simp only [sliceD, vw, e]
theorem cut_init (xs : List D) : cutD xs none (some (-1)) = xs.dropLast := by
  have e : HT.sIx xs.length xs.length (some (-1)) = xs.length - 1 := by
    show (if (-1 : Int) < 0 then ((-1 : Int) + (xs.length : Int)).toNat else min (-1 : Int).toNat xs.length) = _
    rw [if_pos (by decide)]
    omega
  show (xs.drop 0).take (HT.sIx xs.length xs.length (some (-1)) - 0) = _
  rw [e, List.drop_zero, Nat.sub_zero, ← List.dropLast_eq_take]
theorem cut_tail (xs : List D) : cutD xs (some 1) none = xs.tail := by
  have e : HT.sIx xs.length 0 (some 1) = min 1 xs.length := rfl
  show (xs.drop (HT.sIx xs.length 0 (some 1))).take (xs.length - HT.sIx xs.length 0 (some 1)) = _
  rw [e, List.take_of_length_le (by rw [List.length_drop]; exact Nat.le_refl _)]
  cases xs with
  | nil => rfl
  | cons x r =>
    rw [List.length_cons, show min 1 (r.length + 1) = 1 by omega]
    rfl
/-! star -/
def starK (xs : List D) (o : Out (List D)) : Out (List D) := match o with
  | .ok ys s => .ok (xs ++ ys) s
  | .err c p s => .err c p s
  | .bad => .bad
def starB (ψ : FA) (ds : DSt) (o : Out D) : Out (List D) := match o with
  | .ok x s => (match vw x s with
    | .lst xs => starK xs (ψ ds s)
    | .tup xs => starK xs (ψ ds s)
    | _ => .bad)
  | .err c p s => .err c p s
  | .bad => .bad
theorem e_star (φ : FE) (ψ : FA) : starD φ ψ ds s = starB ψ ds (φ ds s) := by
  unfold starD bindX starB
  cases φ ds s <;> first | rfl | skip
  rename_i x s1
  simp only [Out.bind]
  generalize vw x s1 = y
  cases y <;> first | rfl | (simp only [starK]; cases ψ ds s1 <;> rfl)
theorem e_starB_tup (ψ : FA) {xs : List D} : starB ψ ds (.ok (.tup xs) s) = starK xs (ψ ds s) := rfl
theorem e_starB_lst (ψ : FA) {xs : List D} : starB ψ ds (.ok (.lst xs) s) = starK xs (ψ ds s) := rfl
theorem e_starK {xs ys : List D} : starK xs (.ok ys s) = .ok (xs ++ ys) s := rfl
theorem add_tup {xs ys : List D} (h : xs.length + ys.length ≤ 100000) : addD (.tup xs) (.tup ys) s = .ok (.tup (xs ++ ys)) s := if_pos (Nat.le_trans h (by decide +kernel))
theorem add_lst {xs ys : List D} (h : xs.length + ys.length ≤ 100000) : addD (.lst xs) (.lst ys) s = .ok (.lst (xs ++ ys)) s := if_pos (Nat.le_trans h (by decide +kernel))
theorem add_str {x y : Str} (h : x.length + y.length ≤ 100000) : addD (.str x) (.str y) s = .ok (.str (x ++ y)) s := if_pos (Nat.le_trans h (by decide +kernel))
/-! len of own things -/
def lenO (o : Out D) : Out D := match o with
  | .ok (.int i) s => if (decide (0 ≤ i) && decide (i < 2 ^ 63)) = true then .ok (.int i) s else .bad
  | _ => .bad
theorem e_lenOwn {n : Nat} {m : Fn} {f : List D} : lenOwn n m [.ins n f] s = lenO (m [.ins n f] s) := by
  unfold lenOwn lenO
  simp only [clsD, if_true] <;> (cases m [.ins n f] s <;> first | rfl | (rename_i d s1; cases d <;> rfl))
theorem lenO_nat {n : Nat} (h : n ≤ 100000) : lenO (.ok (.int (n : Int)) s) = .ok (.int (n : Int)) s := by
  unfold lenO
  have h1 : (n : Int) < 2 ^ 63 := by omega
  have h0 : (0 : Int) ≤ n := by omega
  simp only [h0, h1, decide_true, Bool.and_self, if_true]
/-! and, or of texts in texts; all of bools -/
theorem all_eq {ys : List D} {bs : List Bool} (h : blsD ys = some bs) : allD [.lst ys] s = .ok (.bl (bs.all _root_.id)) s := by
  simp only [allD, vw, h]
theorem bls_map {α : Type} (f : α → Bool) : ∀ l : List α, blsD (l.map fun a => D.bl (f a)) = some (l.map f)
  | [] => rfl
  | a :: r => by
    show (blsD (r.map fun a => D.bl (f a))).map (f a :: ·) = _
    rw [bls_map f r]
    rfl
theorem all_true {α : Type} (l : List α) : allD [.lst (l.map fun _ => D.bl true)] s = .ok (.bl true) s := by
  rw [all_eq (bls_map (fun _ => true) l)]
  have : (l.map fun _ => true).all _root_.id = true := by
    rw [List.all_map]
    exact List.all_eq_true.mpr fun _ _ => rfl
  rw [this]
theorem in_dic {kvs : List (Key × D)} {k : D} {q : Key} (h : keyOf k = some q) : inD k (.dic kvs) s = .ok (.bl (valD kvs q).isSome) s := by
  simp only [inD, inP, vw, h, _root_.id]
/-! loops and comprehensions with any target -/
theorem for_invG {γ : FG} {body : FS} (I : Nat → DSt → Sto → Prop) : ∀ (xs : List D) (k : Nat) (ds : DSt) (s : Sto), I k ds s →
    (∀ (j : Nat) (x : D) (ds : DSt) (s : Sto), k ≤ j → xs[j - k]? = some x → I j ds s → ∃ ds1 ds' s', γ x ds = some ds1 ∧ body ds1 s = .nx ds' s' ∧ I (j + 1) ds' s') → ∃ ds' s', forGo γ body xs ds s = .nx ds' s' ∧ I (k + xs.length) ds' s'
  | [], k, ds, s, h, _ => ⟨ds, s, rfl, h⟩
  | x :: r, k, ds, s, h, st => by
    obtain ⟨d0, d1, s1, e0, e, h1⟩ := st k x ds s (Nat.le_refl _) (by rw [Nat.sub_self]; rfl) h
    obtain ⟨d2, s2, e2, h2⟩ := for_invG I r (k + 1) d1 s1 h1 fun j y ds s hj hy hI => st j y ds s (by omega) (by rw [show j - k = (j - (k + 1)) + 1 by omega]; exact hy) hI
    refine ⟨d2, s2, ?_, ?_⟩
    · simp only [forGo, e0, e, e2]
    · rw [List.length_cons, show k + (r.length + 1) = k + 1 + r.length by omega]
      exact h2
theorem for_lstG {γ : FG} {body : FS} (xs : List D) (I : Nat → DSt → Sto → Prop) {ds : DSt} {s : Sto} (h0 : I 0 ds s) (st : ∀ (j : Nat) (x : D) (ds : DSt) (s : Sto), xs[j]? = some x → I j ds s → ∃ ds1 ds' s', γ x ds = some ds1 ∧ body ds1 s = .nx ds' s' ∧ I (j + 1) ds' s') :
    ∃ ds' s', forGo γ body xs ds s = .nx ds' s' ∧ I xs.length ds' s' := by
  obtain ⟨d, s', e, h⟩ := for_invG (γ := γ) (body := body) I xs 0 ds s h0 fun j x ds s _ hx hI => st j x ds s (by simpa using hx) hI
  rw [Nat.zero_add] at h
  exact ⟨d, s', e, h⟩
theorem lc_mapG {γ : FG} {φ : FE} {ds : DSt} {s : Sto} (g : D → D) : ∀ xs : List D, (∀ x ∈ xs, ∃ ds1, γ x ds = some ds1 ∧ φ ds1 s = .ok (g x) s ∧ nc (g x) = true) → lcGo γ yesD φ ds xs s = .ok (xs.map g) s
  | [], _ => rfl
  | x :: r, h => by
    obtain ⟨d1, e0, e, hn⟩ := h x (List.mem_cons_self ..)
    have ih := lc_mapG (γ := γ) (φ := φ) (ds := ds) (s := s) g r fun y hy => h y (List.mem_cons_of_mem _ hy)
    simp only [lcGo, e0, yesD, nb, Out.bind, e, hn, if_true, ih, List.map_cons]
/-- over data that come of plain things -/
theorem lc_mapP {α : Type} {γ : FG} {φ : FE} {ds : DSt} {s : Sto} (d : α → D) (g : α → D) : ∀ xs : List α, (∀ x ∈ xs, ∃ ds1, γ (d x) ds = some ds1 ∧ φ ds1 s = .ok (g x) s ∧ nc (g x) = true) → lcGo γ yesD φ ds (xs.map d) s = .ok (xs.map g) s
  | [], _ => rfl
  | x :: r, h => by
    obtain ⟨d1, e0, e, hn⟩ := h x (List.mem_cons_self ..)
    have ih := lc_mapP (γ := γ) (φ := φ) (ds := ds) (s := s) d g r fun y hy => h y (List.mem_cons_of_mem _ hy)
    simp only [List.map_cons, lcGo, e0, yesD, nb, Out.bind, e, hn, if_true, ih]
/-- each turn may change the store -/
theorem lc_st {γ : FG} {φ : FE} {ds : DSt} (I : Sto → Prop) (R : D → Prop) : ∀ (xs : List D) (s : Sto), I s → (∀ x ∈ xs, ∀ s, I s → ∃ ds1 y s', γ x ds = some ds1 ∧ φ ds1 s = .ok y s' ∧ nc y = true ∧ R y ∧ I s') → ∃ ys s', lcGo γ yesD φ ds xs s = .ok ys s' ∧ ys.length = xs.length ∧ (∀ y ∈ ys, R y) ∧ I s'
  | [], s, h, _ => ⟨[], s, rfl, rfl, (fun _ h => nomatch h), h⟩
  | x :: r, s, h, st => by
    obtain ⟨d1, y, s1, e0, e, hn, hR, h1⟩ := st x (List.mem_cons_self ..) s h
    obtain ⟨ys, s2, e2, hl, hR2, h2⟩ := lc_st (φ := φ) I R r s1 h1 fun z hz => st z (List.mem_cons_of_mem _ hz)
    refine ⟨y :: ys, s2, ?_, by rw [List.length_cons, List.length_cons, hl], fun z hz => ?_, h2⟩
    · simp only [lcGo, e0, yesD, nb, Out.bind, e, hn, if_true, e2]
    · rcases List.mem_cons.mp hz with rfl | hz
      · exact hR
      · exact hR2 z hz
/-! data that are shaped -/
def shp : Nat → D → Bool
  | _, .non => true
  | _, .bl _ => true
  | _, .int _ => true
  | _, .str z => PyData.strOk z
  | n + 1, .tup xs => xs.all (shp n)
  | n + 1, .lst xs => xs.all (shp n)
  | _, _ => false
theorem shp_py : ∀ (n : Nat) (x : D), shp n x = true → ∃ q, x.py = some q ∧ q.canLay0 = true ∧ q.depth ≤ n := by
  intro n
  induction n with
  | zero =>
    intro x h
    cases x <;> first | (cases h; done) | exact ⟨_, rfl, rfl, Nat.le_refl _⟩ | exact ⟨_, rfl, h, Nat.le_refl _⟩
  | succ n ih =>
    have all : ∀ xs : List D, xs.all (shp n) = true → ∃ qs, pyA xs = some qs ∧ PyData.canLayAll0 qs = true ∧ PyData.depthAll qs ≤ n := by
      intro xs
      induction xs with
      | nil => intro _; exact ⟨[], rfl, rfl, Nat.zero_le _⟩
      | cons x r ih2 =>
        intro h
        rw [List.all_cons, Bool.and_eq_true] at h
        obtain ⟨q, e1, c1, d1⟩ := ih x h.1
        obtain ⟨qs, e2, c2, d2⟩ := ih2 h.2
        refine ⟨q :: qs, ?_, ?_, ?_⟩
        · simp only [pyA, e1, e2]
        · simp only [PyData.canLayAll0, c1, c2, Bool.and_self]
        · simp only [PyData.depthAll]; omega
    intro x h
    cases x with
    | non => exact ⟨_, rfl, rfl, Nat.zero_le _⟩
    | bl b => exact ⟨_, rfl, rfl, Nat.zero_le _⟩
    | int i => exact ⟨_, rfl, rfl, Nat.zero_le _⟩
    | str z => exact ⟨_, rfl, h, Nat.zero_le _⟩
    | tup xs =>
      obtain ⟨qs, e, c, d⟩ := all xs h
      refine ⟨.tuple qs, ?_, ?_, ?_⟩
      · simp only [D.py, e, Option.map_some]
      · simpa only [PyData.canLay0] using c
      · simp only [PyData.depth]; omega
    | lst xs =>
      obtain ⟨qs, e, c, d⟩ := all xs h
      refine ⟨.list qs, ?_, ?_, ?_⟩
      · simp only [D.py, e, Option.map_some]
      · simpa only [PyData.canLay0] using c
      · simp only [PyData.depth]; omega
    | _ => cases h
theorem shp_vw {n : Nat} {x : D} (h : shp n x = true) : vw x s = x := by
  cases x <;> first | rfl | (cases n <;> cases h)
theorem eq_self {x : D} (h : shp 60 x = true) : eqP x x s id = .ok (.bl true) s := by
  obtain ⟨q, e, c, d⟩ := shp_py 60 x h
  have hs : SeqAt.shaped q = true := by
    unfold SeqAt.shaped
    rw [c, decide_eq_true (by omega)]
    rfl
  simp only [eqP, shp_vw h, e, hs, Bool.and_self, if_true, SeqAt.eqv_refl q c]
  rfl
theorem ne_self {x : D} (h : shp 60 x = true) : eqP x x s not = .ok (.bl false) s := by
  obtain ⟨q, e, c, d⟩ := shp_py 60 x h
  have hs : SeqAt.shaped q = true := by
    unfold SeqAt.shaped
    rw [c, decide_eq_true (by omega)]
    rfl
  simp only [eqP, shp_vw h, e, hs, Bool.and_self, if_true, SeqAt.eqv_refl q c]
  rfl
theorem tup_eq {xs ys : List D} (h : shp 60 (.tup xs) = true) (e : xs = ys) : eqD (.tup xs) (.tup ys) s = .ok (.bl true) s := by subst e; exact eq_self h
theorem tup_ne {xs ys : List D} (h : shp 60 (.tup xs) = true) (e : xs = ys) : neD (.tup xs) (.tup ys) s = .ok (.bl false) s := by subst e; exact ne_self h
theorem lst_eq {xs ys : List D} (h : shp 60 (.lst xs) = true) (e : xs = ys) : eqD (.lst xs) (.lst ys) s = .ok (.bl true) s := by subst e; exact eq_self h
theorem lst_ne {xs ys : List D} (h : shp 60 (.lst xs) = true) (e : xs = ys) : neD (.lst xs) (.lst ys) s = .ok (.bl false) s := by subst e; exact ne_self h
/-! sorted sets of texts -/
def scE (γ : FG) (φ : FE) (vs : List Nat) (ds : DSt) (xs : List D) (s : Sto) : Out D := if xs.length < 64 then (scGo γ φ (wipeD ds vs) xs [] s).bind sortR else .bad
theorem e_sortSc (η : FA) (γ : FG) (φ : FE) (vs : List Nat) : sortSc η γ φ vs ds s = (η ds s).bind (scE γ φ vs ds) := rfl
theorem scE_eq {γ : FG} {φ : FE} {vs : List Nat} {xs : List D} {ks : List Str} (h : xs.length < 64) (e : scGo γ φ (wipeD ds vs) xs [] s = .ok ks s) : scE γ φ vs ds xs s = .ok (.lst ((sortT ks).map .str)) s := by
  unfold scE
  rw [if_pos h, e]
  rfl
theorem scGo_map {α : Type} {γ : FG} {φ : FE} {ds : DSt} {s : Sto} (d : α → D) (g : α → Str) : ∀ (xs : List α) (ks : List Str), (∀ x ∈ xs, ∃ ds1, γ (d x) ds = some ds1 ∧ φ ds1 s = .ok (.str (g x)) s) → scGo γ φ ds (xs.map d) ks s = .ok (xs.foldl (fun a x => more a (g x)) ks) s
  | [], ks, _ => rfl
  | x :: r, ks, h => by
    obtain ⟨d1, e0, e⟩ := h x (List.mem_cons_self ..)
    have ih := scGo_map (γ := γ) (φ := φ) (ds := ds) (s := s) d g r (more ks (g x)) fun y hy => h y (List.mem_cons_of_mem _ hy)
    simp only [List.map_cons, scGo, e0, e, ih, List.foldl_cons]
/-! a cell that is not the last one -/
theorem setAttr_mid {tab : Nat → Option Nat} {n i : Nat} {fs : List (Option D)} {d : D} {t : Sto} (h : tab n = some i) : setAttrD tab (.cell s.length) d ((s ++ [.ins n fs]) ++ t) = some ((s ++ [.ins n (putO i d fs)]) ++ t) := by
  have e : ((s ++ [Cl.ins n fs]) ++ t)[s.length]? = some (.ins n fs) := by
    rw [List.getElem?_append_left (by simp), List.getElem?_append_right (Nat.le_refl _), Nat.sub_self]
    rfl
  have e2 : ((s ++ [Cl.ins n fs]) ++ t).set s.length (.ins n (putO i d fs)) = (s ++ [.ins n (putO i d fs)]) ++ t := by
    rw [List.set_append_left _ _ (by simp), List.set_append_right _ _ (Nat.le_refl _), Nat.sub_self]
    rfl
  simp only [setAttrD, e, h, e2]
theorem attr_mid {tab : Nat → Option Nat} {n i : Nat} {fs : List (Option D)} {d : D} {t : Sto} (h : tab n = some i) (e : fs[i]? = some (some d)) : attrD tab (.cell s.length) ((s ++ [.ins n fs]) ++ t) = .ok d ((s ++ [.ins n fs]) ++ t) := by
  have q : ((s ++ [Cl.ins n fs]) ++ t)[s.length]? = some (.ins n fs) := by
    rw [List.getElem?_append_left (by simp), List.getElem?_append_right (Nat.le_refl _), Nat.sub_self]
    rfl
  simp only [attrD, q, h, e]
theorem trim_mid {c0 c : Cl} {t : Sto} {d : D} (hb : ∀ n, belowD n d = true) (h : ∀ m, okS m (s ++ [c]) = true) : trimO (s ++ [c0]).length (.ok d ((s ++ [c]) ++ t)) = .ok d (s ++ [c]) := by
  show Out.ok d (trimS (s ++ [c0]).length [d] ((s ++ [c]) ++ t)) = _
  have hl : (s ++ [c0]).length = (s ++ [c]).length := by simp
  unfold trimS
  rw [hl]
  split
  · rename_i q
    have : t = [] := by
      rw [List.length_append] at q
      exact List.eq_nil_of_length_eq_zero (by omega)
    rw [this, List.append_nil]
  · rw [List.take_left, h, if_pos]
    simp only [List.all_cons, List.all_nil, hb, Bool.and_self]
/-- what a def has made beside goes -/
theorem trim_app {t : Sto} {d : D} (hb : ∀ n, belowD n d = true) (h : ∀ m, okS m s = true) : trimO s.length (.ok d (s ++ t)) = .ok d s := by
  show Out.ok d (trimS s.length [d] (s ++ t)) = _
  unfold trimS
  split
  · rename_i q
    have : t = [] := by
      rw [List.length_append] at q
      exact List.eq_nil_of_length_eq_zero (by omega)
    rw [this, List.append_nil]
  · rw [List.take_left, h, if_pos]
    simp only [List.all_cons, List.all_nil, hb, Bool.and_self]
theorem calm_app {s t : Sto} (h : ∀ m, okS m s = true) (g : ∀ m, okS m t = true) : ∀ m, okS m (s ++ t) = true := fun m => by
  have a := h m
  have b := g m
  unfold okS at *
  rw [List.all_append, a, b]
  rfl
def evTwo := And.intro @e_revA_lst (And.intro @e_revA_tup (And.intro @e_tupGA_tup (And.intro @e_tupGA_lst (And.intro @e_bm (And.intro @e_bmB (And.intro @e_bmC (And.intro @e_isS (And.intro @e_isL (And.intro @e_setAttr2 (And.intro @e_sa2B (And.intro @e_sa2C (And.intro @e_sa2E (And.intro @e_sa2D (And.intro @e_slD (And.intro @e_slB (And.intro @e_slC1 (And.intro @e_slC2 (And.intro @e_noneO (And.intro @e_someO (And.intro @e_intO (And.intro @e_slice_lst (And.intro @e_slice_tup (And.intro @e_star (And.intro @e_starB_tup (And.intro @e_starB_lst (And.intro @e_starK (And.intro @e_lenOwn @e_sortSc)))))))))))))))))))))))))))
end
end Md

set_option Elab.async false
set_option maxRecDepth 100000
set_option maxHeartbeats 4000000
set_option linter.all false
/-! the mirror layer: dicts walked, made by comprehensions, kept in cells -/
namespace Md
open PySem PySem.Spec PyProof.Rows L2
/-! ### d.values(), d.items(), d.keys() walked -/
def valsE (x : D) (s : Sto) : Out (List D) := match x with
  | .dic kvs => .ok (kvs.map (·.2)) s
  | _ => .bad
def itemsE (x : D) (s : Sto) : Out (List D) := match x with
  | .dic kvs => .ok (kvs.map fun kv => .tup [kD kv.1, kv.2]) s
  | _ => .bad
def keysE (x : D) (s : Sto) : Out (List D) := match x with
  | .dic kvs => .ok (kvs.map fun kv => kD kv.1) s
  | _ => .bad
section
variable {X : Cx} {K : PySem.W.Frag} {Γ : Nat → Addr} {W : WX} {F : Hp} {ι : List Addr} {tg e : Expr} {te : TE} {φ : FE} {a : Addr} {apos cpos : Pos}
theorem walk_valsD {o : Obj} {kvs : List (Key × V)} {es : List (Key × D)} (h : F a = some (.frz o (.dK kvs))) (g : RpK K Γ F [] kvs es) : WalkD K Γ F ι (Itd a o kvs) (es.map (·.2)) := by
  have hl : (es.map (·.2)).length = kvs.length := by rw [List.length_map, g.length]
  refine ⟨fun i H hi s => ⟨s _ _ h, by rw [← hl]; exact hi⟩, fun H s => ⟨s _ _ h, by rw [hl]; exact Nat.le_refl _⟩, fun i H v H' d s y e => ?_⟩
  obtain ⟨rfl, k, ek⟩ := y
  obtain ⟨d', e1, r⟩ := g.getK ek
  rw [List.getElem?_map, e1] at e
  cases e
  exact Or.inl ⟨rfl, r⟩
theorem walk_itemsD {o : Obj} {kvs : List (Key × V)} {es : List (Key × D)} (h : F a = some (.frz o (.dK kvs))) (g : RpK K Γ F [] kvs es) : WalkD K Γ F ι (Iti a o kvs) (es.map fun kv => D.tup [kD kv.1, kv.2]) := by
  have hl : (es.map fun kv => D.tup [kD kv.1, kv.2]).length = kvs.length := by rw [List.length_map, g.length]
  refine ⟨fun i H hi s => ⟨s _ _ h, by rw [← hl]; exact hi⟩, fun H s => ⟨s _ _ h, by rw [hl]; exact Nat.le_refl _⟩, fun i H v H' d s y e => ?_⟩
  obtain ⟨T, k, w, ek, rfl, hT, rfl⟩ := y
  obtain ⟨d', e1, r⟩ := g.getK ek
  rw [List.getElem?_map, e1] at e
  cases e
  exact Or.inr ⟨T, _, _, rfl, hT, rfl, .cons (key_rp k) (.cons r .nil), rfl⟩
theorem di_values (h : DE X K Γ W e te φ) (hbase : attributeBase e "values" X.env (eval e X.env) = eval e X.env := by rfl) (hline : (apos.endLine == cpos.line) = true := by rfl) : DI X K Γ W tg (.Call (.Attribute e "values" apos) [] [] cpos) (iVals te) (bindX φ fun _ => valsE) := by
  refine ⟨pi_values h.pe hbase hline, fun σ H R G F ι s ds hs hr hp => h.gd.step hs hr hp fun x s1 v H1 F1 ι1 x1 r1 q1 hs1 hp1 => ?_⟩
  try dsimp only at hp1
  unfold valsE at hp1
  split at hp1
  · cases q1 with
    | dK f g => exact ⟨_, _, _, rfl, r1.sub _ _ f, hp1 _ _ _ _ Ext.refl r1 (walk_valsD f g)⟩
  · exact hp1.elim
theorem di_items {elts : List Expr} {kk : Nat} {tpos : Pos} (h : DE X K Γ W e te φ) (hbase : attributeBase e "items" X.env (eval e X.env) = eval e X.env := by rfl) (hline : (apos.endLine == cpos.line) = true := by rfl) : DI X K Γ W (.Tuple elts kk tpos) (.Call (.Attribute e "items" apos) [] [] cpos) (iItems te) (bindX φ fun _ => itemsE) := by
  refine ⟨pi_items h.pe hbase hline, fun σ H R G F ι s ds hs hr hp => h.gd.step hs hr hp fun x s1 v H1 F1 ι1 x1 r1 q1 hs1 hp1 => ?_⟩
  try dsimp only at hp1
  unfold itemsE at hp1
  split at hp1
  · cases q1 with
    | dK f g => exact ⟨_, _, _, rfl, r1.sub _ _ f, hp1 _ _ _ _ Ext.refl r1 (walk_itemsD f g)⟩
  · exact hp1.elim
theorem di_keysM (h : DE X K Γ W e te φ) (hbase : attributeBase e "keys" X.env (eval e X.env) = eval e X.env := by rfl) (hline : (apos.endLine == cpos.line) = true := by rfl) : DI X K Γ W tg (.Call (.Attribute e "keys" apos) [] [] cpos) (iKeysM te) (bindX φ fun _ => keysE) := by
  refine ⟨pi_keysM h.pe hbase hline, fun σ H R G F ι s ds hs hr hp => h.gd.step hs hr hp fun x s1 v H1 F1 ι1 x1 r1 q1 hs1 hp1 => ?_⟩
  try dsimp only at hp1
  unfold keysE at hp1
  split at hp1
  · cases q1 with
    | dK f g => exact ⟨_, _, _, rfl, r1.sub _ _ f, hp1 _ _ _ _ Ext.refl r1 (walk_keysD f g)⟩
  · exact hp1.elim
end
/-! ### {k: v for ..} -/
def dcGo (γ : FG) (μ : FT) (κ φ : FE) (ds : DSt) : List D → List (Key × D) → Sto → Out (List (Key × D))
  | [], acc, s => .ok acc s
  | x :: r, acc, s => match γ x ds with
    | none => .bad
    | some ds1 => (nb (μ ds1 s)).bind fun c s1 => match c with
      | true => (nb (κ ds1 s1)).bind fun k s2 => (nb (φ ds1 s2)).bind fun y s3 => match keyOf k with
        | some q => if nc y = true then dcGo γ μ κ φ ds r (putKD acc q y) s3 else .bad
        | none => .bad
      | false => dcGo γ μ κ φ ds r acc s1
def dcA (η : FA) (γ : FG) (μ : FT) (κ φ : FE) (vs : List Nat) : DSt → Sto → Out (List (Key × D)) := bindX η fun ds xs s => if xs.length < sizeLine then dcGo γ μ κ φ (wipeD ds vs) xs [] s else .bad
def dcD (η : FA) (γ : FG) (μ : FT) (κ φ : FE) (vs : List Nat) : FE := bindX (dcA η γ μ κ φ vs) fun _ kvs s => .ok (.dic kvs) s
theorem putKD_len (kvs : List (Key × D)) (k : Key) (v : D) : (putKD kvs k v).length ≤ kvs.length + 1 := by
  unfold putKD
  split
  · rw [List.length_map]; omega
  · rw [List.length_append]; exact Nat.le_refl _
section
variable {X : Cx} {K : PySem.W.Frag} {Γ : Nat → Addr} {W : WX} {pos : Pos} {tg iter kx vx : Expr} {ifs : List Expr} {wi : TI} {η : FA} {g : TG} {γ : FG} {sl : List Nat} {tt : TT} {μ : FT} {tk tv : TE} {κ φ : FE} {vs : List Nat}
theorem gd_dc (hi : GI K Γ W wi η) (hg : GG K Γ sl g γ) (ht : Gt K Γ W0 tt μ) (hk : Gd K Γ W0 tk κ) (he : Gd K Γ W0 tv φ) (hsub : ∀ i ∈ sl, i ∈ vs) : Gd K Γ W (tFrz (tDc wi g tt tk tv vs)) (dcD η γ μ κ φ vs) := by
  intro σ H Q' G F ι s ds hs hr hp
  have hp2 : Post K Γ W σ G F ι (RV K Γ) Q' ((η ds s).bind fun xs s => (if xs.length < sizeLine then dcGo γ μ κ φ (wipeD ds vs) xs [] s else .bad).bind fun kvs s => .ok (.dic kvs) s) := by
    unfold dcD dcA bindX at hp
    cases e : η ds s with
    | ok xs s1 => rw [e] at hp; exact hp
    | err c p s1 => rw [e] at hp; exact hp
    | bad => rw [e] at hp; exact hp
  refine hi.step hs hr hp2 fun xs s1 J H1 F1 ι1 x1 r1 w1 hs1 hp1 => ?_
  intro Dd hD
  by_cases hz : xs.length < sizeLine
  rotate_left
  · rw [if_neg hz] at hp1; exact hp1.elim
  rw [if_pos hz] at hp1
  have rsw := hs1.wipe vs
  refine ⟨fun i m H' => m + i = xs.length ∧ ∃ F' ι' s' acc ys, Ext F1 ι1 F' ι' ∧ ys.length ≤ i ∧ H' Dd = some (.dK acc) ∧ RpK K Γ F' [] acc ys ∧ (∃ H0, H0 Dd = none ∧ H' = upd H0 Dd (.dK acc) ∧ Rel K Γ G F' H0 ι' s') ∧
    Post K Γ W σ G F' ι' (RV K Γ) Q' ((dcGo γ μ κ φ (wipeD ds vs) (xs.drop i) ys s').bind fun kvs s => .ok (.dic kvs) s),
    ⟨xs.length, rfl, F1, ι1, s1, [], [], Ext.refl, Nat.le_refl _, upd_same, .nil, ⟨H1, hD, rfl, r1⟩, by simpa using hp1⟩, ?_⟩
  rintro i m H' ⟨hm, F', ι', s', acc, ys, x', hy, eD, ra, ⟨H0, n0, rfl, r0⟩, p'⟩
  have w' := w1.ext x'
  have nG : G Dd = none := same_newF r0.aside n0
  have ra' : Rel K Γ (upd G Dd (.dK acc)) F' (upd H0 Dd (.dK acc)) ι' s' := r0.put n0
  have back : ∀ {F2 H2 : Hp} {ι2 : List Addr} {s2 : Sto}, Rel K Γ (upd G Dd (.dK acc)) F2 H2 ι2 s2 → ∃ H3, H3 Dd = none ∧ (∀ o, upd H3 Dd o = upd H2 Dd o) ∧ Rel K Γ G F2 H3 ι2 s2 ∧ H2 Dd = some (.dK acc) :=
    fun r2 => r2.back nG (fun b z => nomatch z) (fun z => nomatch z)
  by_cases hlt : i < xs.length
  · have e : xs[i]? = some xs[i] := by simp [hlt]
    rw [List.drop_eq_getElem_cons hlt] at p'
    refine Or.inr ⟨w'.goes i _ hlt ra'.sub, fun H2 => ∃ F' ι' s' acc ys, Ext F1 ι1 F' ι' ∧ ys.length ≤ i + 1 ∧ H2 Dd = some (.dK acc) ∧ RpK K Γ F' [] acc ys ∧ (∃ H0, H0 Dd = none ∧ H2 = upd H0 Dd (.dK acc) ∧ Rel K Γ G F' H0 ι' s') ∧
      Post K Γ W σ G F' ι' (RV K Γ) Q' ((dcGo γ μ κ φ (wipeD ds vs) (xs.drop (i + 1)) ys s').bind fun kvs s => .ok (.dic kvs) s), fun H2 q => ⟨m - 1, by omega, by omega, q⟩, fun v H2 y => ?_⟩
    obtain ⟨F2, x2, r2, rp2⟩ := ra'.item w' y e
    unfold dcGo at p'
    cases eg : γ xs[i] (wipeD ds vs) with
    | none => rw [eg] at p'; exact p'.elim
    | some ds1 =>
      rw [eg] at p'
      dsimp only at p'
      refine hg v _ _ H2 _ _ F2 ι' s' _ ds1 ((rsw.ext x').ext x2) r2 rp2 eg fun σ3 rs3 o3 => ⟨wipe_eq o3 hsub, ?_⟩
      refine ht σ3 H2 _ _ F2 ι' s' ds1 rs3 r2 ?_
      cases em : μ ds1 s' with
      | bad => rw [em] at p'; exact p'
      | err c p s3 => rw [em] at p'; exact p'.elim
      | ok c s3 =>
        rw [em] at p'
        intro c' H3 F3 ι3 x3 r3 q3
        cases (show c' = c from q3)
        have p3 := (p'.ext x2).ext x3
        cases c with
        | false =>
          obtain ⟨H5, n5, up5, r5, e5⟩ := back r3
          refine iteF ⟨F3, ι3, s3, acc, ys, (x'.trans x2).trans x3, by omega, e5, ra.ext (x2.trans x3).nil, ⟨H5, n5, ?_, r5⟩, p3⟩
          rw [up5]
          funext b
          by_cases h : b = Dd
          · rw [h, upd_same]; exact e5
          · rw [upd_ne h]
        | true =>
          refine iteT (hk σ3 H3 _ _ F3 ι3 s3 ds1 (rs3.ext x3) r3 ?_)
          change Post K Γ W σ G F3 ι3 (RV K Γ) Q' (((nb (κ ds1 s3)).bind fun k s2 => (nb (φ ds1 s2)).bind fun y s3 => match keyOf k with | some q => if nc y = true then dcGo γ μ κ φ (wipeD ds vs) (xs.drop (i + 1)) (putKD ys q y) s3 else .bad | none => .bad).bind fun kvs s => .ok (.dic kvs) s) at p3
          cases ek : κ ds1 s3 with
          | bad => rw [ek] at p3; exact p3
          | err c p s4 => rw [ek] at p3; exact p3.elim
          | ok k4 s4 =>
            rw [ek] at p3
            intro v4 H4 F4 ι4 x4 r4 q4
            change Post K Γ W σ G F3 ι3 (RV K Γ) Q' (((nb (φ ds1 s4)).bind fun y s3 => match keyOf k4 with | some q => if nc y = true then dcGo γ μ κ φ (wipeD ds vs) (xs.drop (i + 1)) (putKD ys q y) s3 else .bad | none => .bad).bind fun kvs s => .ok (.dic kvs) s) at p3
            refine he σ3 H4 _ _ F4 ι4 s4 ds1 ((rs3.ext x3).ext x4) r4 ?_
            cases ee : φ ds1 s4 with
            | bad => rw [ee] at p3; exact p3
            | err c p s5 => rw [ee] at p3; exact p3.elim
            | ok y5 s5 =>
              rw [ee] at p3
              intro v5 H5 F5 ι5 x5 r5 q5
              change Post K Γ W σ G F3 ι3 (RV K Γ) Q' ((match keyOf k4 with | some q => if nc y5 = true then dcGo γ μ κ φ (wipeD ds vs) (xs.drop (i + 1)) (putKD ys q y5) s5 else .bad | none => .bad).bind fun kvs s => .ok (.dic kvs) s) at p3
              cases eq : keyOf k4 with
              | none => rw [eq] at p3; exact p3.elim
              | some q =>
                rw [eq] at p3
                by_cases hn : nc y5 = true
                rotate_left
                · change Post K Γ W σ G F3 ι3 (RV K Γ) Q' ((if nc y5 = true then dcGo γ μ κ φ (wipeD ds vs) (xs.drop (i + 1)) (putKD ys q y5) s5 else .bad).bind fun kvs s => .ok (.dic kvs) s) at p3
                  rw [if_neg hn] at p3; exact p3.elim
                change Post K Γ W σ G F3 ι3 (RV K Γ) Q' ((if nc y5 = true then dcGo γ μ κ φ (wipeD ds vs) (xs.drop (i + 1)) (putKD ys q y5) s5 else .bad).bind fun kvs s => .ok (.dic kvs) s) at p3
                rw [if_pos hn] at p3
                obtain ⟨H6, n6, up6, r6, e6⟩ := back r5
                have hl : acc.length = ys.length := ra.length
                have hpl := putKD_len ys q y5
                have ev := keyOf_rp q4 eq
                subst ev
                refine ⟨acc, q, rfl, e6, by omega, F5, ι5, s5, putK acc q v5, putKD ys q y5, (((x'.trans x2).trans x3).trans x4).trans x5, by omega, upd_same, (ra.ext (((x2.trans x3).trans x4).trans x5).nil).put (q5.fz hn) q, ⟨H6, n6, (up6 _).symm, r6⟩, (p3.ext x4).ext x5⟩
  · have hi : i = xs.length := by omega
    subst hi
    rw [List.drop_length] at p'
    refine Or.inl ⟨w'.stops _ ra'.sub, Dd, _, rfl, upd_same, trivial, fun od => ?_⟩
    rw [upd_upd]
    obtain ⟨r2, x2⟩ := r0.new (o := .frz od (.dK acc)) n0
    have p2 : Post K Γ W σ G F' ι' (RV K Γ) Q' (.ok (.dic ys) s') := p'
    exact p2 _ _ _ _ x2 r2 (.dK upd_same (ra.ext x2.nil))
theorem de_dc {own : List (Str × Nat)} {scope : Scope} (hc : X.calm = true) (hN : X.N.Nodup) (hi : DI X K Γ W tg iter wi η) (ok : BlkOk X.N X.env.scope scope own) (hg : InBlk X scope fun Y => DG Y K Γ sl tg g γ) (ht : InBlk X scope fun Y => DTs Y K Γ W0 ifs tt μ) (hk : InBlk X scope fun Y => DE Y K Γ W0 kx tk κ) (he : InBlk X scope fun Y => DE Y K Γ W0 vx tv φ)
    (hsub : ∀ i ∈ sl, i ∈ own.map (·.2) := by decide) (hs : ∀ x, foldedSetIterable iter X.env x = pure x := by intro _; rfl) : DE X K Γ W (.DictComp kx vx [⟨tg, iter, ifs, 0⟩] scope pos) (tFrz (tDc wi g tt tk tv (own.map (·.2)))) (dcD η γ μ κ φ (own.map (·.2))) := by
  obtain ⟨_, g1⟩ := hg.one
  obtain ⟨_, t1⟩ := ht.one
  obtain ⟨_, k1⟩ := hk.one
  obtain ⟨_, e1⟩ := he.one
  exact ⟨pe_frz (pe_dc hc hN hi.pi ok (fun a b c d e => (hg a b c d e).pg) (fun a b c d e => (ht a b c d e).pt) (fun a b c d e => (hk a b c d e).pe) (fun a b c d e => (he a b c d e).pe) hs), gd_dc hi.gd g1.gd t1.gd k1.gd e1.gd hsub⟩
end
end Md

set_option Elab.async false
set_option maxRecDepth 100000
set_option maxHeartbeats 4000000
set_option linter.all false
/-! the mirror layer: [e for a in xs for b in ys] -/
namespace Md
open PySem PySem.Spec PyProof.Rows L2
def lc2Go (γ : FG) (μ : FT) (η1 : FA) (γ1 : FG) (μ1 : FT) (φ : FE) (vs1 : List Nat) (ds : DSt) : List D → Sto → Out (List D)
  | [], s => .ok [] s
  | x :: r, s => match γ x ds with
    | none => .bad
    | some ds1 => (nb (μ ds1 s)).bind fun c s1 => match c with
      | true => (nb (η1 ds1 s1)).bind fun xs1 s2 => if xs1.length ≤ 1000 then (lcGo γ1 μ1 φ (wipeD ds1 vs1) xs1 s2).bind fun ys s3 => (lc2Go γ μ η1 γ1 μ1 φ vs1 ds r s3).bind fun zs s4 => .ok (ys ++ zs) s4 else .bad
      | false => lc2Go γ μ η1 γ1 μ1 φ vs1 ds r s1
def lc2A (η : FA) (γ : FG) (μ : FT) (η1 : FA) (γ1 : FG) (μ1 : FT) (φ : FE) (vs vs1 : List Nat) : FA := bindX η fun ds xs s => if xs.length ≤ 1000 then lc2Go γ μ η1 γ1 μ1 φ vs1 (wipeD ds vs) xs s else .bad
def lc2D (η : FA) (γ : FG) (μ : FT) (η1 : FA) (γ1 : FG) (μ1 : FT) (φ : FE) (vs vs1 : List Nat) : FE := bindX (lc2A η γ μ η1 γ1 μ1 φ vs vs1) fun _ ys s => .ok (.lst ys) s
section
variable {X : Cx} {K : PySem.W.Frag} {Γ : Nat → Addr} {W : WX} {pos : Pos} {wi wi1 : TI} {η η1 : FA} {g g1 : TG} {γ γ1 : FG} {sl sl1 : List Nat} {tt tt1 : TT} {μ μ1 : FT} {te : TE} {φ : FE} {vs vs1 : List Nat}
/-- the inner walk: the list at Dd grows -/
theorem lc_inner {Q' : V → Hp → Prop} {σ0 σ2 : L2.St} {ds1 : DSt} {G F1 H0 : Hp} {ι1 : List Addr} {s1 : Sto} {J : It} {xs : List D} {Dd : Addr} {acc : List V} {ys : List D} {b : Nat} {Nx : Hp → Prop} (k : List D → Sto → Out D)
    (hg : GG K Γ sl1 g1 γ1) (ht : Gt K Γ W0 tt1 μ1) (he : Gd K Γ W0 te φ) (hsub : ∀ i ∈ sl1, i ∈ vs1) (rs : RS K Γ F1 ι1 σ2 ds1) (w1 : WalkD K Γ F1 ι1 J xs) (n0 : H0 Dd = none) (r1 : Rel K Γ G F1 H0 ι1 s1) (ra : RpA K Γ F1 [] acc ys) (hb : ys.length ≤ b) (hb2 : b + xs.length < sizeLine)
    (hp : Post K Γ W σ0 G F1 ι1 (RV K Γ) Q' ((lcGo γ1 μ1 φ (wipeD ds1 vs1) xs s1).bind fun r s2 => k (ys ++ r) s2))
    (fin : ∀ acc' ys' H' F' ι' s', Ext F1 ι1 F' ι' → Rel K Γ G F' H' ι' s' → H' Dd = none → RpA K Γ F' [] acc' ys' → ys'.length ≤ b + xs.length → Post K Γ W σ0 G F' ι' (RV K Γ) Q' (k ys' s') → Nx (upd H' Dd (.lst acc'))) :
    ∃ W1 : Nat → Nat → Hp → Prop, (∃ m, W1 0 m (upd H0 Dd (.lst acc))) ∧ ∀ j m H, W1 j m H → (J.stop j H ∧ Nx H) ∨ (J.go j H ∧ ∃ Nx1 : Hp → Prop, (∀ H', Nx1 H' → ∃ m', m' < m ∧ W1 (j + 1) m' H') ∧ ∀ x H', J.yld j H x H' → g1 x (L2.wipe σ2 vs1) H' fun σ3 H5 => L2.wipe σ3 vs1 = L2.wipe σ2 vs1 ∧ tt1 σ3 H5 fun b H6 =>
        if b = true then te σ3 H6 fun y H7 => ∃ acc, H7 Dd = some (.lst acc) ∧ acc.length < sizeLine ∧ Nx1 (upd H7 Dd (.lst (acc ++ [y]))) else Nx1 H6) := by
  have rsw := rs.wipe vs1
  refine ⟨fun i m H' => m + i = xs.length ∧ ∃ F' ι' s' acc ys, Ext F1 ι1 F' ι' ∧ ys.length ≤ b + i ∧ H' Dd = some (.lst acc) ∧ RpA K Γ F' [] acc ys ∧ (∃ H0, H0 Dd = none ∧ H' = upd H0 Dd (.lst acc) ∧ Rel K Γ G F' H0 ι' s') ∧
    Post K Γ W σ0 G F' ι' (RV K Γ) Q' ((lcGo γ1 μ1 φ (wipeD ds1 vs1) (xs.drop i) s').bind fun r s2 => k (ys ++ r) s2),
    ⟨xs.length, rfl, F1, ι1, s1, acc, ys, Ext.refl, by omega, upd_same, ra, ⟨H0, n0, rfl, r1⟩, by simpa using hp⟩, ?_⟩
  clear hp ra hb n0 r1 ys acc H0 s1
  rintro i m H' ⟨hm, F', ι', s', acc, ys, x', hy, eD, ra, ⟨H0, n0, rfl, r0⟩, p'⟩
  have w' := w1.ext x'
  have nG : G Dd = none := same_newF r0.aside n0
  have ra' : Rel K Γ (upd G Dd (.lst acc)) F' (upd H0 Dd (.lst acc)) ι' s' := r0.put n0
  have back : ∀ {F2 H2 : Hp} {ι2 : List Addr} {s2 : Sto}, Rel K Γ (upd G Dd (.lst acc)) F2 H2 ι2 s2 → ∃ H3, H3 Dd = none ∧ (∀ o, upd H3 Dd o = upd H2 Dd o) ∧ Rel K Γ G F2 H3 ι2 s2 ∧ H2 Dd = some (.lst acc) :=
    fun r2 => r2.back nG (fun b z => nomatch z) (fun z => nomatch z)
  by_cases hlt : i < xs.length
  · have e : xs[i]? = some xs[i] := by simp [hlt]
    rw [List.drop_eq_getElem_cons hlt] at p'
    refine Or.inr ⟨w'.goes i _ hlt ra'.sub, fun H2 => ∃ F' ι' s' acc ys, Ext F1 ι1 F' ι' ∧ ys.length ≤ b + (i + 1) ∧ H2 Dd = some (.lst acc) ∧ RpA K Γ F' [] acc ys ∧ (∃ H0, H0 Dd = none ∧ H2 = upd H0 Dd (.lst acc) ∧ Rel K Γ G F' H0 ι' s') ∧
      Post K Γ W σ0 G F' ι' (RV K Γ) Q' ((lcGo γ1 μ1 φ (wipeD ds1 vs1) (xs.drop (i + 1)) s').bind fun r s2 => k (ys ++ r) s2), fun H2 q => ⟨m - 1, by omega, by omega, q⟩, fun v H2 y => ?_⟩
    obtain ⟨F2, x2, r2, rp2⟩ := ra'.item w' y e
    unfold lcGo at p'
    cases eg : γ1 xs[i] (wipeD ds1 vs1) with
    | none => rw [eg] at p'; exact p'.elim
    | some ds3 =>
      rw [eg] at p'
      dsimp only at p'
      refine hg v _ _ H2 _ _ F2 ι' s' _ ds3 ((rsw.ext x').ext x2) r2 rp2 eg fun σ3 rs3 o3 => ⟨wipe_eq o3 hsub, ?_⟩
      refine ht σ3 H2 _ _ F2 ι' s' ds3 rs3 r2 ?_
      cases em : μ1 ds3 s' with
      | bad => rw [em] at p'; exact p'
      | err c p s3 => rw [em] at p'; exact p'.elim
      | ok c s3 =>
        rw [em] at p'
        intro c' H3 F3 ι3 x3 r3 q3
        cases (show c' = c from q3)
        have p3 := (p'.ext x2).ext x3
        cases c with
        | false =>
          obtain ⟨H5, n5, up5, r5, e5⟩ := back r3
          refine iteF ⟨F3, ι3, s3, acc, ys, (x'.trans x2).trans x3, by omega, e5, ra.ext (x2.trans x3).nil, ⟨H5, n5, ?_, r5⟩, p3⟩
          rw [up5]
          funext b
          by_cases h : b = Dd
          · rw [h, upd_same]; exact e5
          · rw [upd_ne h]
        | true =>
          refine iteT (he σ3 H3 _ _ F3 ι3 s3 ds3 (rs3.ext x3) r3 ?_)
          change Post K Γ W σ0 G F3 ι3 (RV K Γ) Q' (((nb (φ ds3 s3)).bind fun y s2 => if nc y = true then (lcGo γ1 μ1 φ (wipeD ds1 vs1) (xs.drop (i + 1)) s2).bind fun ys s3 => .ok (y :: ys) s3 else .bad).bind fun r s2 => k (ys ++ r) s2) at p3
          cases ee : φ ds3 s3 with
          | bad => rw [ee] at p3; exact p3
          | err c p s4 => rw [ee] at p3; exact p3.elim
          | ok y4 s4 =>
            rw [ee] at p3
            intro v4 H4 F4 ι4 x4 r4 q4
            change Post K Γ W σ0 G F3 ι3 (RV K Γ) Q' ((if nc y4 = true then (lcGo γ1 μ1 φ (wipeD ds1 vs1) (xs.drop (i + 1)) s4).bind fun ys s3 => .ok (y4 :: ys) s3 else .bad).bind fun r s2 => k (ys ++ r) s2) at p3
            by_cases hn : nc y4 = true
            rotate_left
            · rw [if_neg hn] at p3; exact p3.elim
            rw [if_pos hn] at p3
            obtain ⟨H5, n5, up5, r5, e5⟩ := back r4
            have hl : acc.length = ys.length := ra.length
            refine ⟨acc, e5, by omega, F4, ι4, s4, acc ++ [v4], ys ++ [y4], ((x'.trans x2).trans x3).trans x4, by rw [List.length_append]; show ys.length + 1 ≤ b + (i + 1); omega, upd_same, (ra.ext ((x2.trans x3).trans x4).nil).append (.cons (q4.fz hn) .nil), ⟨H5, n5, (up5 _).symm, r5⟩, ?_⟩
            have p4 := p3.ext x4
            have ea : ∀ o : Out (List D), (o.bind fun r s2 => k (ys ++ [y4] ++ r) s2) = ((o.bind fun ys s3 => Out.ok (y4 :: ys) s3).bind fun r s2 => k (ys ++ r) s2) := by
              intro o
              cases o with
              | ok r s5 => show k (ys ++ [y4] ++ r) s5 = k (ys ++ y4 :: r) s5; rw [List.append_assoc]; rfl
              | err c p s5 => rfl
              | bad => rfl
            rw [ea]
            exact p4
  · have hi : i = xs.length := by omega
    subst hi
    rw [List.drop_length] at p'
    refine Or.inl ⟨w'.stops _ ra'.sub, ?_⟩
    have p2 : Post K Γ W σ0 G F' ι' (RV K Γ) Q' (k ys s') := by
      have : ((lcGo γ1 μ1 φ (wipeD ds1 vs1) [] s').bind fun r s2 => k (ys ++ r) s2) = k ys s' := by
        show k (ys ++ []) s' = k ys s'
        rw [List.append_nil]
      rw [this] at p'
      exact p'
    exact fin acc ys H0 F' ι' s' x' r0 n0 ra (by omega) p2
theorem gd_lc2 (hi : GI K Γ W wi η) (hg : GG K Γ sl g γ) (ht : Gt K Γ W0 tt μ) (hi1 : GI K Γ W0 wi1 η1) (hg1 : GG K Γ sl1 g1 γ1) (ht1 : Gt K Γ W0 tt1 μ1) (he : Gd K Γ W0 te φ) (hsub : ∀ i ∈ sl, i ∈ vs) (hsub1 : ∀ i ∈ sl1, i ∈ vs1) (hv : ∀ i ∈ vs1, i ∈ vs) :
    Gd K Γ W (tLc2 wi g tt wi1 g1 tt1 te vs vs1) (lc2D η γ μ η1 γ1 μ1 φ vs vs1) := by
  intro σ H Q' G F ι s ds hs hr hp
  have hp2 : Post K Γ W σ G F ι (RV K Γ) Q' ((η ds s).bind fun xs s => (if xs.length ≤ 1000 then lc2Go γ μ η1 γ1 μ1 φ vs1 (wipeD ds vs) xs s else .bad).bind fun ys s => .ok (.lst ys) s) := by
    unfold lc2D lc2A bindX at hp
    cases e : η ds s with
    | ok xs s1 => rw [e] at hp; exact hp
    | err c p s1 => rw [e] at hp; exact hp
    | bad => rw [e] at hp; exact hp
  refine hi.step hs hr hp2 fun xs s1 J H1 F1 ι1 x1 r1 w1 hs1 hp1 => ?_
  intro Dd hD
  by_cases hz : xs.length ≤ 1000
  rotate_left
  · rw [if_neg hz] at hp1; exact hp1.elim
  rw [if_pos hz] at hp1
  have rsw := hs1.wipe vs
  have big : 1000 * 1000 + 1000 < sizeLine := by decide +kernel
  refine ⟨fun i m H' => m + i = xs.length ∧ ∃ F' ι' s' acc ys, Ext F1 ι1 F' ι' ∧ ys.length ≤ 1000 * i ∧ H' Dd = some (.lst acc) ∧ RpA K Γ F' [] acc ys ∧ (∃ H0, H0 Dd = none ∧ H' = upd H0 Dd (.lst acc) ∧ Rel K Γ G F' H0 ι' s') ∧
    Post K Γ W σ G F' ι' (RV K Γ) Q' ((lc2Go γ μ η1 γ1 μ1 φ vs1 (wipeD ds vs) (xs.drop i) s').bind fun r s2 => .ok (.lst (ys ++ r)) s2),
    ⟨xs.length, rfl, F1, ι1, s1, [], [], Ext.refl, Nat.le_refl _, upd_same, .nil, ⟨H1, hD, rfl, r1⟩, by simpa using hp1⟩, ?_⟩
  rintro i m H' ⟨hm, F', ι', s', acc, ys, x', hy, eD, ra, ⟨H0, n0, rfl, r0⟩, p'⟩
  have w' := w1.ext x'
  have nG : G Dd = none := same_newF r0.aside n0
  have ra' : Rel K Γ (upd G Dd (.lst acc)) F' (upd H0 Dd (.lst acc)) ι' s' := r0.put n0
  have back : ∀ {F2 H2 : Hp} {ι2 : List Addr} {s2 : Sto}, Rel K Γ (upd G Dd (.lst acc)) F2 H2 ι2 s2 → ∃ H3, H3 Dd = none ∧ (∀ o, upd H3 Dd o = upd H2 Dd o) ∧ Rel K Γ G F2 H3 ι2 s2 ∧ H2 Dd = some (.lst acc) :=
    fun r2 => r2.back nG (fun b z => nomatch z) (fun z => nomatch z)
  by_cases hlt : i < xs.length
  · have e : xs[i]? = some xs[i] := by simp [hlt]
    rw [List.drop_eq_getElem_cons hlt] at p'
    refine Or.inr ⟨w'.goes i _ hlt ra'.sub, fun H2 => ∃ F' ι' s' acc ys, Ext F1 ι1 F' ι' ∧ ys.length ≤ 1000 * (i + 1) ∧ H2 Dd = some (.lst acc) ∧ RpA K Γ F' [] acc ys ∧ (∃ H0, H0 Dd = none ∧ H2 = upd H0 Dd (.lst acc) ∧ Rel K Γ G F' H0 ι' s') ∧
      Post K Γ W σ G F' ι' (RV K Γ) Q' ((lc2Go γ μ η1 γ1 μ1 φ vs1 (wipeD ds vs) (xs.drop (i + 1)) s').bind fun r s2 => .ok (.lst (ys ++ r)) s2), fun H2 q => ⟨m - 1, by omega, by omega, q⟩, fun v H2 y => ?_⟩
    obtain ⟨F2, x2, r2, rp2⟩ := ra'.item w' y e
    unfold lc2Go at p'
    cases eg : γ xs[i] (wipeD ds vs) with
    | none => rw [eg] at p'; exact p'.elim
    | some ds1 =>
      rw [eg] at p'
      dsimp only at p'
      refine hg v _ _ H2 _ _ F2 ι' s' _ ds1 ((rsw.ext x').ext x2) r2 rp2 eg fun σ3 rs3 o3 => ⟨wipe_eq o3 hsub, ?_⟩
      refine ht σ3 H2 _ _ F2 ι' s' ds1 rs3 r2 ?_
      cases em : μ ds1 s' with
      | bad => rw [em] at p'; exact p'
      | err c p s3 => rw [em] at p'; exact p'.elim
      | ok c s3 =>
        rw [em] at p'
        intro c' H3 F3 ι3 x3 r3 q3
        cases (show c' = c from q3)
        have p3 := (p'.ext x2).ext x3
        cases c with
        | false =>
          obtain ⟨H5, n5, up5, r5, e5⟩ := back r3
          refine iteF ⟨F3, ι3, s3, acc, ys, (x'.trans x2).trans x3, by omega, e5, ra.ext (x2.trans x3).nil, ⟨H5, n5, ?_, r5⟩, p3⟩
          rw [up5]
          funext b
          by_cases h : b = Dd
          · rw [h, upd_same]; exact e5
          · rw [upd_ne h]
        | true =>
          refine iteT (hi1 σ3 H3 _ _ F3 ι3 s3 ds1 (rs3.ext x3) r3 ?_)
          change Post K Γ W σ G F3 ι3 (RV K Γ) Q' (((nb (η1 ds1 s3)).bind fun xs1 s2 => if xs1.length ≤ 1000 then (lcGo γ1 μ1 φ (wipeD ds1 vs1) xs1 s2).bind fun ys s3 => (lc2Go γ μ η1 γ1 μ1 φ vs1 (wipeD ds vs) (xs.drop (i + 1)) s3).bind fun zs s4 => .ok (ys ++ zs) s4 else .bad).bind fun r s2 => .ok (.lst (ys ++ r)) s2) at p3
          cases ee : η1 ds1 s3 with
          | bad => rw [ee] at p3; exact p3
          | err c p s4 => rw [ee] at p3; exact p3.elim
          | ok xs1 s4 =>
            rw [ee] at p3
            intro J1 H4 F4 ι4 x4 r4 q4
            change Post K Γ W σ G F3 ι3 (RV K Γ) Q' ((if xs1.length ≤ 1000 then (lcGo γ1 μ1 φ (wipeD ds1 vs1) xs1 s4).bind fun ys s3 => (lc2Go γ μ η1 γ1 μ1 φ vs1 (wipeD ds vs) (xs.drop (i + 1)) s3).bind fun zs s4 => .ok (ys ++ zs) s4 else .bad).bind fun r s2 => .ok (.lst (ys ++ r)) s2) at p3
            by_cases hz1 : xs1.length ≤ 1000
            rotate_left
            · rw [if_neg hz1] at p3; exact p3.elim
            rw [if_pos hz1] at p3
            obtain ⟨H5, n5, up5, r5, e5⟩ := back r4
            have e45 : H4 = upd H5 Dd (.lst acc) := by
              rw [up5]
              funext b
              by_cases h : b = Dd
              · rw [h, upd_same]; exact e5
              · rw [upd_ne h]
            rw [e45]
            have hk : ∀ (o : Out (List D)), ((o.bind fun ys s3 => (lc2Go γ μ η1 γ1 μ1 φ vs1 (wipeD ds vs) (xs.drop (i + 1)) s3).bind fun zs s4 => .ok (ys ++ zs) s4).bind fun r s2 => Out.ok (D.lst (ys ++ r)) s2)
                = o.bind fun r s2 => (fun zs s3 => (lc2Go γ μ η1 γ1 μ1 φ vs1 (wipeD ds vs) (xs.drop (i + 1)) s3).bind fun r s4 => .ok (.lst (zs ++ r)) s4) (ys ++ r) s2 := by
              intro o
              cases o with
              | ok r s5 =>
                show ((lc2Go γ μ η1 γ1 μ1 φ vs1 (wipeD ds vs) (xs.drop (i + 1)) s5).bind fun zs s4 => Out.ok (r ++ zs) s4).bind (fun r s2 => Out.ok (D.lst (ys ++ r)) s2) = (lc2Go γ μ η1 γ1 μ1 φ vs1 (wipeD ds vs) (xs.drop (i + 1)) s5).bind fun q s4 => .ok (.lst (ys ++ r ++ q)) s4
                cases lc2Go γ μ η1 γ1 μ1 φ vs1 (wipeD ds vs) (xs.drop (i + 1)) s5 with
                | ok q s6 => show Out.ok (D.lst (ys ++ (r ++ q))) s6 = Out.ok (D.lst (ys ++ r ++ q)) s6; rw [List.append_assoc]
                | err c p s6 => rfl
                | bad => rfl
              | err c p s5 => rfl
              | bad => rfl
            rw [hk] at p3
            have p4 := p3.ext x4
            have hyl : ys.length ≤ 1000 * i := hy
            have hi1000 : 1000 * i ≤ 1000 * 1000 := Nat.mul_le_mul_left _ (by omega)
            refine lc_inner (σ0 := σ) (sl1 := sl1) (b := 1000 * i) (fun zs s3 => (lc2Go γ μ η1 γ1 μ1 φ vs1 (wipeD ds vs) (xs.drop (i + 1)) s3).bind fun r s4 => .ok (.lst (zs ++ r)) s4) hg1 ht1 he hsub1 ((rs3.ext x3).ext x4) q4 n5 r5 (ra.ext ((x2.trans x3).trans x4).nil) hyl (by omega) p4 ?_
            intro acc' ys' H6 F6 ι6 s6 x6 r6 n6 ra6 hl6 p6
            exact ⟨F6, ι6, s6, acc', ys', (((x'.trans x2).trans x3).trans x4).trans x6, by omega, upd_same, ra6, ⟨H6, n6, rfl, r6⟩, p6⟩
  · have hi : i = xs.length := by omega
    subst hi
    rw [List.drop_length] at p'
    refine Or.inl ⟨w'.stops _ ra'.sub, ?_⟩
    obtain ⟨r2, x2⟩ := r0.new (o := .lst acc) n0
    have p2 : Post K Γ W σ G F' ι' (RV K Γ) Q' (.ok (.lst ys) s') := by
      have : ((lc2Go γ μ η1 γ1 μ1 φ vs1 (wipeD ds vs) [] s').bind fun r s2 => Out.ok (D.lst (ys ++ r)) s2) = .ok (.lst ys) s' := by
        show Out.ok (D.lst (ys ++ [])) s' = _
        rw [List.append_nil]
      rw [this] at p'
      exact p'
    exact p2 _ _ _ _ x2 r2 (.lst upd_same (ra.ext x2.nil))
theorem de_lc2 {elt tg iter tg1 iter1 : Expr} {ifs ifs1 : List Expr} {own : List (Str × Nat)} {scope : Scope} (hc : X.calm = true) (hN : X.N.Nodup) (hi : DI X K Γ W tg iter wi η) (ok : BlkOk X.N X.env.scope scope own) (hv : ∀ i ∈ vs1, i ∈ own.map (·.2)) (hg : InBlk X scope fun Y => DG Y K Γ sl tg g γ) (ht : InBlk X scope fun Y => DTs Y K Γ W0 ifs tt μ)
    (hi1 : InBlk X scope fun Y => DI Y K Γ W0 tg1 iter1 wi1 η1) (hg1 : InBlk X scope fun Y => DG Y K Γ sl1 tg1 g1 γ1) (ht1 : InBlk X scope fun Y => DTs Y K Γ W0 ifs1 tt1 μ1) (he : InBlk X scope fun Y => DE Y K Γ W0 elt te φ)
    (hsub : ∀ i ∈ sl, i ∈ own.map (·.2) := by decide) (hsub1 : ∀ i ∈ sl1, i ∈ vs1 := by decide) (hs : ∀ x, foldedSetIterable iter X.env x = pure x := by intro _; rfl) (hs1 : ∀ env x, foldedSetIterable iter1 env x = pure x := by intro _ _; rfl) :
    DE X K Γ W (.ListComp elt [⟨tg, iter, ifs, 0⟩, ⟨tg1, iter1, ifs1, 0⟩] scope pos) (tLc2 wi g tt wi1 g1 tt1 te (own.map (·.2)) vs1) (lc2D η γ μ η1 γ1 μ1 φ (own.map (·.2)) vs1) := by
  obtain ⟨_, g1'⟩ := hg.one
  obtain ⟨_, t1'⟩ := ht.one
  obtain ⟨_, i2'⟩ := hi1.one
  obtain ⟨_, g2'⟩ := hg1.one
  obtain ⟨_, t2'⟩ := ht1.one
  obtain ⟨_, e1'⟩ := he.one
  exact ⟨pe_lc2 hc hN hi.pi ok hv (fun a b c d e => (hg a b c d e).pg) (fun a b c d e => (ht a b c d e).pt) (fun a b c d e => (hi1 a b c d e).pi) (fun a b c d e => (hg1 a b c d e).pg) (fun a b c d e => (ht1 a b c d e).pt) (fun a b c d e => (he a b c d e).pe) hs hs1, gd_lc2 hi.gd g1'.gd t1'.gd i2'.gd g2'.gd t2'.gd e1'.gd hsub hsub1 hv⟩
end
end Md

set_option Elab.async false
set_option maxRecDepth 100000
set_option maxHeartbeats 4000000
set_option linter.all false
/-! the mirror layer: *d.values(), {own}, len(set(pairs)), sorted(d), extend, split, int, pop(i); dicts in cells -/
namespace Md
open PySem PySem.Spec PyProof.Rows L2
/-! ### *d.values() -/
def tStarV (te : TE) (t : TA) : TA := fun σ H Q => te σ H fun x H1 => ∃ d o kvs, x = .ref d ∧ H1 d = some (.frz o (.dK kvs)) ∧ t σ H1 fun ys H2 => Q (kvs.map (·.2) ++ ys) H2
def starV (φ : FE) (ψ : FA) : FA := bindX φ fun ds x s => match x with
  | .dic kvs => (ψ ds s).bind fun ys s => .ok (kvs.map (·.2) ++ ys) s
  | _ => .bad
section
variable {X : Cx} {K : PySem.W.Frag} {Γ : Nat → Addr} {W : WX} {e : Expr} {es : List Expr} {te : TE} {ta : TA} {φ : FE} {ψ : FA} {apos cpos p : Pos}
theorem vals_snd {κ : Type} : ∀ {kvs : List (κ × V)} {vs : List (κ × Value)}, KV kvs vs → Vals (kvs.map (·.2)) (vs.map (·.2))
  | _, _, .nil => .nil
  | _, _, .cons r t => .cons r.2 (vals_snd t)
theorem pa_starV (hc : X.calm = true) (he : PE X e te) (hr : PA X es ta) (hbase : attributeBase e "values" X.env (eval e X.env) = eval e X.env := by rfl) (hline : (apos.endLine == cpos.line) = true := by rfl)
    (hs : starEach (.Starred (.Call (.Attribute e "values" apos) [] [] cpos) p :: es) X.env = (true, eval (.Call (.Attribute e "values" apos) [] [] cpos) X.env) :: starEach es X.env := by rfl) : PA X (.Starred (.Call (.Attribute e "values" apos) [] [] cpos) p :: es) (tStarV te ta) := by
  constructor
  intro pos pn s σ H Q I h
  refine PySem.W.items_star ?_ hs
  refine wpAny_Call_method (T := "dict") (id := "dict.values") hbase rfl hline F.plainAttrs_dict F.slot_dict_values F.type_dict_values (thn (he.run pn s σ H _ I h) fun u s1 ⟨x, H1, J, rx, d, o, kvs, ex, hd, q⟩ => ?_)
  subst ex
  obtain rfl : u = Value.ref d := rx
  obtain ⟨hns, hgd, hx, es', ep, vs, hdt, hsz, kv, hm⟩ := J.frzK hd
  have hl : kvs.length = vs.length := Paired.length kv
  refine ⟨hm.dictOf.typeIs, hm.dictOf.mapOf.noDict, ?_⟩
  have J2 : Inv X pn σ H1 { s1 with heap := s1.heap.push { cls := .type "dict_values", data := .fields #[.ref d] } } := J.kept (t' := s1.toks) fun b ob q => Heap.get?_push_of_some _ q
  obtain ⟨es2, ep2, hraw, hsz2, hat⟩ := Heap.DictOf.raw (knd := mixKind X.prog X.w) hm.dictOf
  have hraw2 : (s1.heap.push { cls := .type "dict_values", data := .fields #[.ref d] }).DictRaw d es2 ep2 := hraw.at fun o e => Heap.get?_push_of_some _ e
  have hview : (s1.heap.push { cls := .type "dict_values", data := .fields #[.ref d] }).IsValuesView s1.heap.objs.size d := ⟨_, Heap.get?_push_size _ rfl, rfl, rfl⟩
  have hT : Shared.TypeIs { s1 with heap := s1.heap.push { cls := .type "dict_values", data := .fields #[.ref d] } } (.ref s1.heap.objs.size) "dict_values" := hview.typeIs
  have fin : PySem.W.StarOf (model X.prog X.w) X.A X.xe (.ref s1.heap.objs.size) (fun here s₂ => wpAny (model X.prog X.w) X.A (spliced (backTo pos (starEach es X.env))) (fun vs s₃ => ∃ ys H', Inv X pn σ H' s₃ ∧ Vals ys (here ++ vs) ∧ Q ys H') X.xe s₂) { s1 with heap := s1.heap.push { cls := .type "dict_values", data := .fields #[.ref d] } } := by
    unfold PySem.W.StarOf notIterableAtAll
    refine wpAny_bind (wpAny_specialOf hT PySem.F.slot_dict_values_iter.lookup (wpAny_pure ⟨rfl, ?_⟩))
    have hn : es2.size ≤ sizeLine := by
      have := (J.hok d _ hd).2.1
      first | omega | (rw [hsz2, ← hl]; exact this)
    refine PySem.W.kdu_collect (PySem.KdlSrc.rawValues (es := es2) (ep := ep2)) (J.ok.hd hc) ⟨hview, hraw2⟩ hn fun h' tk acc hk hacc => ?_
    have J3 : Inv X pn σ H1 { s1 with heap := h', toks := tk } := J2.kept hk
    have hv : acc.toList = vs.map (·.2) := by
      refine List.ext_getElem? fun i => ?_
      rw [Array.getElem?_toList, List.getElem?_map]
      by_cases hi : i < es2.size
      · have hia : i < acc.size := by rw [hacc.1]; exact hi
        have hiv : i < vs.length := by omega
        obtain ⟨_, e1⟩ := hacc.2 i acc[i] (Array.getElem?_eq_getElem hia)
        have e2 := (hat i hi vs[i].1 vs[i].2 (by rw [List.getElem?_eq_getElem hiv])).2
        rw [Array.getElem?_eq_getElem hia, e1, e2, List.getElem?_eq_getElem hiv]
        rfl
      · rw [Array.getElem?_eq_none (by rw [hacc.1]; omega), List.getElem?_eq_none (by omega)]
        rfl
    rw [hv]
    exact thn (hr.run pos pn _ σ H1 _ J3 q) fun ws s3 ⟨ys, H3, I3, r3, q3⟩ => ⟨kvs.map (·.2) ++ ys, H3, I3, (vals_snd kv).append r3, q3⟩
  show wpAny _ _ (callWith cpos (.builtin "dict.values") [.ref d] [] []) _ X.xe s1
  exact method_meetsIn F.slot_dict_values F.entry_dict_values rfl (PySem.evalArgs_none ⟨rfl, hm.dictOf.typeIs, F.args_dict_values_1 _, _, meets_dict_values (mixKind X.prog X.w) d hns, ⟨vs, hm.dictOf⟩, fin⟩)
theorem RpK.snd {F : Hp} {ι : List Addr} : ∀ {kvs : List (Key × V)} {ds : List (Key × D)}, RpK K Γ F ι kvs ds → RpA K Γ F ι (kvs.map (·.2)) (ds.map (·.2))
  | _, _, .nil => .nil
  | _, _, .cons h g => .cons h (RpK.snd g)
theorem da_starV (hc : X.calm = true) (he : DE X K Γ W e te φ) (hr : DA X K Γ W es ta ψ) (hbase : attributeBase e "values" X.env (eval e X.env) = eval e X.env := by rfl) (hline : (apos.endLine == cpos.line) = true := by rfl)
    (hs : starEach (.Starred (.Call (.Attribute e "values" apos) [] [] cpos) p :: es) X.env = (true, eval (.Call (.Attribute e "values" apos) [] [] cpos) X.env) :: starEach es X.env := by rfl) : DA X K Γ W (.Starred (.Call (.Attribute e "values" apos) [] [] cpos) p :: es) (tStarV te ta) (starV φ ψ) := by
  refine ⟨pa_starV hc he.pe hr.pa hbase hline hs, fun σ H Q G F ι s ds hs hr' hp => he.gd.step hs hr' hp fun x s1 v H1 F1 ι1 x1 r1 q1 hs1 hp1 => ?_⟩
  try dsimp only at hp1
  split at hp1
  · cases q1 with
    | dK f g =>
      refine ⟨_, _, _, rfl, r1.sub _ _ f, ?_⟩
      refine hr.gd.step hs1 r1 hp1 fun ys s2 vs H2 F2 ι2 x2 r2 q2 hs2 hp2 => ?_
      exact hp2 _ _ _ _ Ext.refl r2 ((g.snd.up.ext x2).append q2)
  · exact hp1.elim
end
/-! ### f"{x}", x of an own class with __str__ -/
section
variable {X : Cx} {K : PySem.W.Frag} {Γ : Nat → Addr} {W : WX} {e : Expr} {te : TE} {φ : FE} {g C : Addr} {n c : Nat} {m : Fn} {pos : Pos}
theorem pe_fmtOwn {sp : Sp} (hfm : PySem.W.findIn X.K (.ref C) "__format__" = some (some (.builtin "object.__format__"))) (hmo : PySem.W.mroIn X.K C (.type "object") = some true) (hm : Meth X.K C "__str__" g) (F : FnR X.prog X.w X.K X.mg X.base (L2.CX X.prog X.w) n g sp) (hr : Room (n + 1) X.A) (he : PE X e te) :
    PE X (.FormattedValue e (-1) none pos) (fun σ H Q => te σ H fun x H1 => rStrOwn C sp [x] H1 Q) := by
  constructor
  intro pn s σ H Q I h
  refine wpAny_FormattedValue_plain (thn (he.run pn s σ H _ I h) fun v s1 hv => ?_)
  obtain ⟨x, H1, J, r1, a, dx, vs, ex, hsl, q⟩ := hv
  cases ex
  obtain rfl : v = Value.ref a := r1
  obtain ⟨_, _, _, Ia, _⟩ := SlX.slt_inst J hsl
  have hr2 : Room n X.A.in1 := Room.in1 hr
  have J1 : Inv X pn σ H1 { s1 with toks := s1.toks + 1 } := J.tok _
  refine PySem.W.kfo_fieldS (by have := hr2.units; omega) J.kIn Ia hfm hmo hm.at_ hm.fn (wpAny_mono (wpAny_call (SlX.run_at (us := [.ref a]) (ws := [.ref a]) F hr2 J1.env0.in1 passL J1 (.cons rfl .nil) q)) ?_ fun _ _ x => x)
  rintro w s' ⟨z, H', I', rz, y, rfl, qz⟩
  obtain ⟨t, e⟩ := (show ∃ t, w = Value.str y t from rz)
  subst e
  exact ⟨.str y, H', I', ⟨t, rfl⟩, qz⟩
theorem de_fmtOwn (hfm : PySem.W.findIn X.K (.ref (Γ c)) "__format__" = some (some (.builtin "object.__format__"))) (hmo : PySem.W.mroIn X.K (Γ c) (.type "object") = some true) (hm : Meth X.K (Γ c) "__str__" g) (F : FnR X.prog X.w X.K X.mg X.base (L2.CX X.prog X.w) n g (spD K Γ m)) (hr : Room (n + 1) X.A) (he : DE X K Γ W e te φ) :
    DE X K Γ W (.FormattedValue e (-1) none pos) (fun σ H Q => te σ H fun x H1 => rStrOwn (Γ c) (spD K Γ m) [x] H1 Q) (bindX φ fun _ x s => strOwn c m [x] s) := by
  refine ⟨pe_fmtOwn hfm hmo hm F hr he.pe, fun σ H Q G F ι s ds hs hr hp => he.gd.step hs hr hp fun x s1 v H1 F1 ι1 x1 r1 q1 hs1 hp1 => ?_⟩
  exact cg_strOwn W σ H1 Q G F1 ι1 s1 [x] [v] r1 (.cons q1 .nil) hp1
end
/-! ### len(set(xs)), xs tuples of ints -/
def ddI : List (List Int) → List (List Int)
  | [] => []
  | x :: r => if x ∈ ddI r then ddI r else x :: ddI r
theorem ddI_mem : ∀ (l : List (List Int)) (x : List Int), x ∈ ddI l ↔ x ∈ l
  | [], x => Iff.rfl
  | y :: r, x => by
    unfold ddI
    split
    · rename_i h
      rw [ddI_mem r x, List.mem_cons]
      constructor
      · exact Or.inr
      · rintro (rfl | q)
        · exact (ddI_mem r x).mp h
        · exact q
    · rw [List.mem_cons, List.mem_cons, ddI_mem r x]
theorem ddI_nd : ∀ l : List (List Int), (ddI l).Nodup
  | [] => List.nodup_nil
  | y :: r => by
    unfold ddI
    split
    · exact ddI_nd r
    · rename_i h
      exact List.nodup_cons.mpr ⟨h, ddI_nd r⟩
theorem nd_len {α : Type} {l m : List α} (h1 : l.Nodup) (h2 : m.Nodup) (h : ∀ x, x ∈ l ↔ x ∈ m) : l.length = m.length := ((List.perm_ext_iff_of_nodup h1 h2).mpr h).length_eq
def tLenSetT (K : PySem.W.Frag) (ta : TE) : TE := fun σ H Q => ta σ H fun x H1 => ∃ (l : Addr) (ks : List (Addr × List Int)), x = V.ref l ∧ SqL K H1 l (ks.map fun p => V.ref p.1) ∧ (∀ p ∈ ks, SqT K H1 p.1 (p.2.map V.int)) ∧ ks.length < 64 ∧ Q (.int ((ddI (ks.map (·.2))).length : Nat)) H1
def tupsI : List D → Option (List (List Int))
  | [] => some []
  | .tup xs :: r => match intsD xs, tupsI r with
    | some ns, some rs => some (ns :: rs)
    | _, _ => none
  | _ => none
def lenSetT (x : D) (s : Sto) : Out D := match vw x s with
  | .lst ys => match tupsI ys with
    | some ks => if ks.length < 64 then .ok (.int ((ddI ks).length : Nat)) s else .bad
    | none => .bad
  | _ => .bad
section
variable {X : Cx} {K : PySem.W.Frag} {Γ : Nat → Addr} {W : WX} {a : Expr} {ta : TE} {φ : FE}
theorem pe_lenSetT {p p2 q pos : Pos} (hc : X.calm = true) (hu : X.A.units + 64 < cLine) (hg : L2.Gl X "len") (hm : X.mg "len" = none) (hg2 : L2.Gl X "set") (hm2 : X.mg "set" = none) (ha : PE X a ta) (hK : X.K = K := by rfl)
    (na : starEach [a] X.env = (false, eval a X.env) :: starEach [] X.env := by rfl) : PE X (.Call (.Name "len" p) [.Call (.Name "set" p2) [a] [] q] [] pos) (tLenSetT K ta) := by
  subst hK
  constructor
  intro pn s σ H Q I h
  refine Call_ (ld_blt I hg hm PySem.boot_len (PyProof.Rows.callWith_builtin1 (PyProof.Rows.args_cons ?_ rfl) rfl rfl))
  refine Call_ (ld_blt I hg2 hm2 PyProof.Rows.boot_set ?_)
  refine PyProof.Rows.callWith_type1 (PyProof.Rows.args_cons (thn (ha.run pn s σ H _ I h) fun v s1 ⟨x, H1, J, r1, q1⟩ => PyProof.Rows.args_nil ?_) na) na rfl
  obtain ⟨l, ks, rfl, hl, hk, hf, qq⟩ := q1
  cases r1
  obtain ⟨its, rv, pl, hz⟩ := J.list hl
  refine call_set_tups (P := X.prog) (w := X.w) ks (J.ok.hd hc) pl.isList (by simpa using refs_of_vals rv) (fun p hp => J.isT (hk p hp)) hf (by omega) fun h' tk L es ep t R g k => PyProof.Rows.args_nil ?_
  have J2 : Inv X pn σ H1 { s1 with heap := h', toks := tk } := J.kept k
  obtain ⟨o, ho, hex, hd⟩ := R.ob
  have hsz : es.size = L.length := SetTR.size (s := { s1 with heap := h', toks := tk }) R
  have hlen : L.length = (ddI (ks.map (·.2))).length := by
    rw [← List.length_map (f := fun p : Addr × List Int => p.2) (as := L)]
    refine nd_len R.nd (ddI_nd _) fun x => ?_
    rw [ddI_mem]
    constructor
    · intro hx
      obtain ⟨p, hp, rfl⟩ := List.mem_map.mp hx
      exact List.mem_map.mpr ⟨p, List.mem_of_mem_take (g.sub p hp), rfl⟩
    · intro hx
      obtain ⟨p, hp, rfl⟩ := List.mem_map.mp hx
      exact g.all p (by rw [List.take_length]; exact hp)
  refine call_len_set ho hex hd (SetTR.fits (s := { s1 with heap := h', toks := tk }) R) (by have := R.few; omega) ⟨.int ((ddI (ks.map (·.2))).length : Nat), H1, J2.tok _, ⟨_, by rw [hsz, hlen]⟩, qq⟩
theorem tups_rp {F H : Hp} (sm : Same F H) : ∀ {ys : List D} {vs : List V} {ks : List (List Int)}, RpA K Γ F [] vs ys → tupsI ys = some ks → ∃ ps : List (Addr × List Int), vs = ps.map (fun p => V.ref p.1) ∧ ps.map (·.2) = ks ∧ ∀ p ∈ ps, SqT K H p.1 (p.2.map V.int)
  | [], _, _, .nil, e => by cases e; exact ⟨[], rfl, rfl, fun _ h => nomatch h⟩
  | d :: r, _, ks, .cons h g, e => by
    match d, h, e with
    | .tup xs, h, e =>
      have e' : (match intsD xs, tupsI r with | some ns, some rs => some (ns :: rs) | _, _ => none) = some ks := e
      split at e'
      · rename_i ns rs en er
        cases e'
        obtain ⟨ps, rfl, rfl, hp⟩ := tups_rp sm g er
        cases h with
        | tup t gt =>
          have ev := ints_rp gt en
          subst ev
          refine ⟨(_, ns) :: ps, rfl, rfl, fun p hp' => ?_⟩
          rcases List.mem_cons.mp hp' with rfl | hp'
          · exact Gl.sqTS sm t
          · exact hp p hp'
      · cases e'
theorem de_lenSetT {k : Nat} {p p2 q pos : Pos} (hr : Room k X.A) (hc : X.calm = true) (hg : L2.Gl X "len") (hm : X.mg "len" = none) (hg2 : L2.Gl X "set") (hm2 : X.mg "set" = none) (ha : DE X K Γ W a ta φ) (hK : X.K = K := by rfl)
    (na : starEach [a] X.env = (false, eval a X.env) :: starEach [] X.env := by rfl) : DE X K Γ W (.Call (.Name "len" p) [.Call (.Name "set" p2) [a] [] q] [] pos) (tLenSetT K ta) (bindX φ fun _ => lenSetT) := by
  refine ⟨pe_lenSetT hc (by have := Gl.in_room hr; omega) hg hm hg2 hm2 ha.pe hK na, fun σ H Q G F ι s ds hs hr hp => ha.gd.step hs hr hp fun x s1 v H1 F1 ι1 x1 r1 q1 hs1 hp1 => ?_⟩
  try dsimp only at hp1
  unfold lenSetT at hp1
  split at hp1
  · rename_i ys ev
    split at hp1
    · rename_i ks ek
      split at hp1
      · rename_i hf
        obtain ⟨b, us, rfl, hl, g⟩ := r1.view q1 (view_lst ev)
        obtain ⟨ps, rfl, rfl, hps⟩ := tups_rp r1.sub g ek
        rw [List.length_map] at hf
        exact ⟨b, ps, rfl, SqL.of hl, hps, hf, hp1 _ _ _ _ Ext.refl r1 (.int _)⟩
      · exact hp1.elim
    · exact hp1.elim
  · exact hp1.elim
end
end Md

set_option Elab.async false
set_option maxRecDepth 100000
set_option maxHeartbeats 4000000
set_option linter.all false
/-! the mirror layer: sorted, extend, split, int, pop(i); dicts in cells -/
namespace Md
open PySem PySem.Spec PyProof.Rows L2 TxS
/-! ### sorted(d), sorted(xs) of texts -/
def keysT : List (Key × D) → Option (List Str)
  | [] => some []
  | (.inr x, _) :: r => (keysT r).map (x :: ·)
  | _ => none
def sortO (o : Option (List Str)) (s : Sto) : Out D := match o with
  | some ks => if ks.length < 64 then .ok (.lst ((sortT ks).map .str)) s else .bad
  | none => .bad
def sortedD (xs : List D) (s : Sto) : Out D := match xs with
  | [x] => match vw x s with
    | .dic kvs => sortO (keysT kvs) s
    | .lst ys => sortO (strsD ys) s
    | _ => .bad
  | _ => .bad
section
variable {X : Cx} {K : PySem.W.Frag} {Γ : Nat → Addr}
def rSortedA (K : PySem.W.Frag) : List V → Hp → VK → Prop := fun xs H Q => (∃ (a : Addr) (kvs : List (Key × V)) (ks : List Str), xs = [.ref a] ∧ Rd H a (.dK kvs) ∧ kvs.map (·.1) = ks.map Sum.inr ∧ ks.length < 64 ∧
    ∀ ys p, ys.Perm ks → sortedS ys = true → H p = none → Q (.ref p) (upd H p (.lst (ys.map V.str)))) ∨ rSortedS K xs H Q
theorem call_sortedA (hc : X.calm = true) (hK : X.K = K := by rfl) : CallR X (.builtin "sorted") (rSortedA K) := by
  subst hK
  exact CallR.or (call_sortedD hc) cr_sortedS
theorem keysT_rp {F : Hp} {ι : List Addr} : ∀ {kvs : List (Key × V)} {es : List (Key × D)} {ks : List Str}, RpK K Γ F ι kvs es → keysT es = some ks → kvs.map (·.1) = ks.map Sum.inr
  | _, _, _, .nil, e => by cases e; rfl
  | _, (k, d) :: r, ks, .cons h g, e => by
    match k, e with
    | .inr x, e =>
      have e' : (keysT r).map (x :: ·) = some ks := e
      cases er : keysT r with
      | none => rw [er] at e'; cases e'
      | some zs =>
        rw [er] at e'
        cases e'
        rw [List.map_cons, keysT_rp g er]
        rfl
theorem cg_sorted : CallG K Γ (rSortedA K) sortedD := by
  intro W σ H Q G F ι s xs vs r gv hp
  unfold sortedD at hp
  split at hp
  · rename_i x
    obtain ⟨v, rfl, g⟩ := one_rp gv
    split at hp
    · rename_i kvs ev
      obtain ⟨a, ks, rfl, ha, gk⟩ := r.viewD g ev
      unfold sortO at hp
      split at hp
      · rename_i zs ez
        split at hp
        · rename_i hf
          refine Or.inl ⟨a, ks, zs, rfl, ha, keysT_rp gk ez, hf, fun ys p hperm hs np => ?_⟩
          have e := sorted_is hperm hs
          subst e
          obtain ⟨r2, x2⟩ := r.new (o := .lst ((sortT zs).map V.str)) np
          exact hp _ _ _ _ x2 r2 (.lst upd_same (rp_strs _ _))
        · exact hp.elim
      · exact hp.elim
    · rename_i ys ev
      obtain ⟨a, us, rfl, ha, gl⟩ := r.view g (view_lst ev)
      unfold sortO at hp
      split at hp
      · rename_i zs ez
        split at hp
        · rename_i hf
          have e := strs_rp gl ez
          subst e
          refine Or.inr ⟨a, zs, rfl, SqL.of ha, hf, fun ys p hperm hs np => ?_⟩
          have e := sorted_is hperm hs
          subst e
          obtain ⟨r2, x2⟩ := r.new (o := .lst ((sortT zs).map V.str)) np
          exact hp _ _ _ _ x2 r2 (.lst upd_same (rp_strs _ _))
        · exact hp.elim
      · exact hp.elim
    · exact hp.elim
  · exact hp.elim
end
/-! ### xs.extend(tuple or list) -/
theorem meets_ext_tup (l : Addr) (xs : Array Value) (n : Nat) (b : Addr) (ys : Array Value) (n2 : Nat) (dd : Option Addr) (sl : Array (Option Value)) (h0 : ¬(!xs.isEmpty && Builtin.List.listTooLong (xs.size + ys.size)) = true) (h1 : xs.size ≤ sizeLine) (h2 : xs.size + ys.size ≤ sizeLine + 1) :
    Meets (Builtin.«list.extend» ⟨[.ref l, .ref b], []⟩) (fun _ R s => s.heap.get? l = some { cls := .type "list", dict := none, data := .seq xs n, slots := #[] } ∧ s.heap.get? b = some { cls := .type "tuple", dict := dd, data := .seq ys n2, slots := sl } ∧ R (.ok (.ret Value.none)) { s with heap := s.heap.update l (Obj.mapSeq fun x => x ++ ys), toks := s.toks }) :=
  .of_wp fun P w A R s h => by
    obtain ⟨hp, g, d, tk, oo⟩ := s
    obtain ⟨hl, hb, h⟩ := h
    have hz : (xs ++ ys).size ≤ sizeLine + 1 := by rw [Array.size_append]; exact h2
    wp_walk using (wpAny_updateSeq hl rfl (hz := h1) (_hz' := hz)), AutoSeq1.wpAny_loadPart' hl, AutoSeq1.wpAny_loadPart' hb
    exact ⟨_, rfl, h⟩
def rExtendA (K : PySem.W.Frag) : V → List V → Hp → VK → Prop := fun x vs H Q => rExtend x vs H Q ∨ ∃ l b xs zs, x = .ref l ∧ vs = [.ref b] ∧ H l = some (.lst xs) ∧ SqT K H b zs ∧ xs.length + zs.length ≤ sizeLine ∧ Q .non (upd H l (.lst (xs ++ zs)))
def extendA (x : D) (args : List D) (s : Sto) : Out D := match x, args with
  | .cell n, [d] => match s[n]?, vw d s with
    | some (.lst xs), .lst ys => if xs.length + ys.length ≤ sizeLine then .ok .non (s.set n (.lst (xs ++ ys))) else .bad
    | some (.lst xs), .tup ys => if xs.length + ys.length ≤ sizeLine then .ok .non (s.set n (.lst (xs ++ ys))) else .bad
    | _, _ => .bad
  | _, _ => .bad
section
variable {X : Cx} {K : PySem.W.Frag} {Γ : Nat → Addr}
theorem mt_extendA (hK : X.K = K := by rfl) : MtM X "list.extend" (rExtendA K) := by
  subst hK
  intro pn s σ H x vs v us Q I rx rv h
  rcases h with h | ⟨l, b, xs, zs, rfl, rfl, hH, hB, hz, q⟩
  · exact mt_extend pn s σ H x vs v us Q I rx rv h
  cases rx
  obtain ⟨u, rfl, ru⟩ := rv.one
  cases ru
  obtain ⟨z, its, n, r, hl, e⟩ := I.lstM hH
  obtain ⟨its2, r2, ⟨⟨cls, dd, dt, sl⟩, ho, hc, n2, hd⟩, hl2⟩ := I.tuple hB
  simp only at hc hd
  subst hc hd
  have e2l : its2.length = zs.length := r2.length.symm
  have hsz : its.toArray.size + its2.toArray.size ≤ sizeLine := by rw [List.size_toArray, List.size_toArray]; omega
  have hlong : ¬ (!its.toArray.isEmpty && Builtin.List.listTooLong (its.toArray.size + its2.toArray.size)) = true := by
    rw [notLongL hsz, Bool.and_false]
    exact Bool.false_ne_true
  refine call_meets F.slot_list_extend ⟨_, e, rfl⟩ F.entry_list_extend (F.args_list_extend_2 _ _) (meets_ext_tup l its.toArray n b its2.toArray n2 dd sl hlong (by rw [List.size_toArray]; omega) (by omega)) ⟨e, ho, ?_⟩
  refine ⟨.non, _, I.lset (its' := its ++ its2) hH e (by simp) (r.append r2) ?_, rfl, q⟩
  rw [List.length_append]
  exact hz
theorem mg_extendA : MtG K Γ "list" (rExtendA K) extendA := by
  intro W σ H Q G F ι s x v xs vs r gx gv hp
  unfold extendA at hp
  split at hp
  · rename_i n d
    split at hp
    · rename_i ys zs en ed
      split at hp
      · rename_i hc
        obtain ⟨w, rfl, gw⟩ := one_rp gv
        obtain ⟨b, ws, rfl, hb, gb⟩ := r.view gw (view_lst ed)
        cases gx with
        | cell ea =>
          obtain ⟨hF, us, hu, gu⟩ := r.at_ n _ _ en ea
          refine Or.inl ⟨_, b, us, ws, rfl, rfl, hu, hb, by rw [gu.length, gb.length]; exact hc, ?_⟩
          exact hp _ _ F ι Ext.refl (r.write (c := .lst (ys ++ zs)) ea hu (fun b z => nomatch z) (fun z => nomatch z) hF ⟨hF, us ++ ws, upd_same, gu.append gb⟩) .non
      · exact hp.elim
    · rename_i ys zs en ed
      split at hp
      · rename_i hc
        obtain ⟨w, rfl, gw⟩ := one_rp gv
        have ex := view_tup ed
        subst ex
        cases gw with
        | tup t gb =>
          cases gx with
          | cell ea =>
            obtain ⟨hF, us, hu, gu⟩ := r.at_ n _ _ en ea
            refine Or.inr ⟨_, _, us, _, rfl, rfl, hu, Gl.sqTS r.sub t, by rw [gu.length, gb.length]; exact hc, ?_⟩
            exact hp _ _ F ι Ext.refl (r.write (c := .lst (ys ++ zs)) ea hu (fun b z => nomatch z) (fun z => nomatch z) hF ⟨hF, us ++ _, upd_same, gu.append gb⟩) .non
      · exact hp.elim
    · exact hp.elim
  · exact hp.elim
/-! ### xs.pop(i) -/
def popAtD (x : D) (args : List D) (s : Sto) : Out D := match x, args with
  | .cell n, [.int i] => match s[n]? with
    | some (.lst xs) => if (decide (-(2 ^ 63) ≤ i) && decide (i < 2 ^ 63)) = true then match seqIndex? i xs.length with
        | some k => match xs[k]? with
          | some d => .ok d (s.set n (.lst (xs.eraseIdx k)))
          | none => .bad
        | none => .bad
      else .bad
    | _ => .bad
  | _, _ => .bad
theorem RpA.erase {F : Hp} {ι : List Addr} : ∀ {vs : List V} {ds : List D}, RpA K Γ F ι vs ds → ∀ k, RpA K Γ F ι (vs.eraseIdx k) (ds.eraseIdx k)
  | _, _, .nil, _ => .nil
  | _, _, .cons _ t, 0 => t
  | _, _, .cons h t, k + 1 => .cons h (RpA.erase t k)
theorem mg_popAt : MtG K Γ "list" rPopAt popAtD := by
  intro W σ H Q G F ι s x v xs vs r gx gv hp
  unfold popAtD at hp
  split at hp
  · rename_i n i
    obtain ⟨w, rfl, gw⟩ := one_rp gv
    cases gw
    split at hp
    · rename_i ys en
      split at hp
      · rename_i hb
        simp only [Bool.and_eq_true, decide_eq_true_eq] at hb
        split at hp
        · rename_i k ek
          split at hp
          · rename_i d ed
            cases gx with
            | cell ea =>
              obtain ⟨hF, us, hu, gu⟩ := r.at_ n _ _ en ea
              obtain ⟨w, ew, rw'⟩ := gu.get ed
              refine ⟨_, us, i, k, w, rfl, rfl, hu, hb.1, hb.2, by rw [gu.length]; exact ek, ew, ?_⟩
              exact hp _ _ F ι Ext.refl (r.write (c := .lst (ys.eraseIdx k)) ea hu (fun b z => nomatch z) (fun z => nomatch z) hF ⟨hF, us.eraseIdx k, upd_same, gu.erase k⟩) rw'.up
          · exact hp.elim
        · exact hp.elim
      · exact hp.elim
    · exact hp.elim
  · exact hp.elim
/-! ### s.split(sep), int(text) -/
def rSplit : V → List V → Hp → VK → Prop := fun x xs H Q => ∃ a b, x = .str a ∧ xs = [.str b] ∧ (b.length == 0) = false ∧ a.length + 2 ≤ sizeLine ∧ rNewStrs (Txt.split a b) H Q
theorem mt_splitA : MtR X "str.split" rSplit := mt_split
def splitM (x : D) (args : List D) (s : Sto) : Out D := match x, args with
  | .str a, [.str b] => if (!(b.length == 0) && decide (a.length + 2 ≤ sizeLine)) = true then .ok (.lst ((Txt.split a b).map .str)) s else .bad
  | _, _ => .bad
theorem mg_split : MtG K Γ "str" rSplit splitM := by
  intro W σ H Q G F ι s x v xs vs r gx gv hp
  unfold splitM at hp
  split at hp
  · rename_i a b
    obtain ⟨w, rfl, gw⟩ := one_rp gv
    cases gx
    cases gw
    split at hp
    · rename_i hc
      rw [Bool.and_eq_true, decide_eq_true_eq, Bool.not_eq_true'] at hc
      refine ⟨a, b, rfl, rfl, hc.1, hc.2, fun p np => ?_⟩
      obtain ⟨r2, x2⟩ := r.new (o := .lst ((Txt.split a b).map V.str)) np
      exact hp _ _ _ _ x2 r2 (.lst upd_same (rp_strs _ _))
    · exact hp.elim
  · exact hp.elim
def rIntA : List V → Hp → VK → Prop := fun xs H Q => ((∃ i, xs = [.int i] ∧ Q (.int i) H) ∨ ∃ k, xs = [.bl k] ∧ Q (.int (if k then 1 else 0)) H) ∨ ∃ a n, xs = [.str a] ∧ PySem.intText? a = some n ∧ a.length ≤ 640 ∧ Q (.int n) H
theorem call_intA : CallR X (.type "int") rIntA := CallR.or call_int1 call_int_str
def intA (xs : List D) (s : Sto) : Out D := match xs with
  | [.int i] => .ok (.int i) s
  | [.bl b] => .ok (.int (if b then 1 else 0)) s
  | [.str z] => match PySem.intText? z with
    | some n => if z.length ≤ 640 then .ok (.int n) s else .bad
    | none => .bad
  | _ => .bad
theorem cg_intA : CallG K Γ rIntA intA := by
  intro W σ H Q G F ι s xs vs r gv hp
  unfold intA at hp
  split at hp
  · obtain ⟨v, rfl, g⟩ := one_rp gv
    cases g
    exact Or.inl (Or.inl ⟨_, rfl, hp _ _ _ _ Ext.refl r (.int _)⟩)
  · obtain ⟨v, rfl, g⟩ := one_rp gv
    cases g
    exact Or.inl (Or.inr ⟨_, rfl, hp _ _ _ _ Ext.refl r (.int _)⟩)
  · obtain ⟨v, rfl, g⟩ := one_rp gv
    cases g
    split at hp
    · rename_i n en
      split at hp
      · rename_i hz
        exact Or.inr ⟨_, n, rfl, en, hz, hp _ _ _ _ Ext.refl r (.int _)⟩
      · exact hp.elim
    · exact hp.elim
  · exact hp.elim
end
/-! ### dicts in cells -/
def dic0C : FE := fun _ s => .ok (.cell s.length) (s ++ [.dic []])
def keysC : List (D × D) → Option (List (Key × D))
  | [] => some []
  | (k, d) :: r => match keyOf k, keysC r with
    | some q, some qs => some ((q, d) :: qs)
    | _, _ => none
def dictC (π : FP) : FE := fun ds s => (nb (π ds s)).bind fun ps s => match keysC ps with
  | some kvs => if kvs.length ≤ 15 then .ok (.cell s.length) (s ++ [.dic (mergeKD [] kvs)]) else .bad
  | none => .bad
def dputD (x y d : D) (s : Sto) : Option Sto := match x with
  | .cell n => match s[n]?, keyOf y with
    | some (.dic kvs), some q => if kvs.length ≤ 100000 then some (s.set n (.dic (putKD kvs q d))) else none
    | _, _ => none
  | _ => none
def dputS (φx φi φv : FE) : FS := fun ds s => bindS (φv ds s) ds fun d s => bindS (φx ds s) ds fun x s => bindS (φi ds s) ds fun y s => match dputD x y d s with
  | some s' => .nx ds s'
  | none => .bad
section
variable {X : Cx} {K : PySem.W.Frag} {Γ : Nat → Addr} {W : WX} {pos : Pos} {G F H : Hp} {ι : List Addr} {s : Sto}
theorem de_dict0C : DE X K Γ W (.Dict [] [] pos) tDNewK dic0C := by
  refine ⟨pe_dnewK, fun σ H Q G F ι s ds hs hr hp p np => ?_⟩
  obtain ⟨r2, x2⟩ := hr.push (o := .dK []) (c := .dic []) np ⟨same_newF hr.sub np, [], upd_same, .nil⟩
  refine hp _ _ _ _ x2 r2 (.cell ?_)
  rw [List.getElem?_append_right (by rw [hr.len]; exact Nat.le_refl _), hr.len, Nat.sub_self]
  rfl
theorem keysC_rp : ∀ {vs : List (V × V)} {ps : List (D × D)} {kvs : List (Key × D)}, RpP K Γ F ι vs ps → keysC ps = some kvs → ∃ ks : List (Key × V), vs = ks.map (fun kv => (kV kv.1, kv.2)) ∧ RpK K Γ F ι ks kvs ∧ ks.length = kvs.length
  | _, _, _, .nil, e => by cases e; exact ⟨[], rfl, .nil, rfl⟩
  | _, (k, d) :: r, kvs, .cons h1 h2 g, e => by
    have e' : (match keyOf k, keysC r with | some q, some qs => some ((q, d) :: qs) | _, _ => none) = some kvs := e
    split at e'
    · rename_i q qs ek er
      cases e'
      obtain ⟨ks, rfl, g2, hl⟩ := keysC_rp g er
      have ev := keyOf_rp h1 ek
      subst ev
      exact ⟨(q, _) :: ks, rfl, .cons h2 g2, by rw [List.length_cons, List.length_cons, hl]⟩
    · cases e'
theorem de_dictC {keys : List (Option Expr)} {values : List Expr} {trs : List (TE × TE)} {π : FP} (h : DP X K Γ W pos keys values trs π) (hall : keys.all (·.isSome) = true) (hl : keys.length = values.length) (h0 : keys ≠ []) (h15 : keys.length ≤ 15) : DE X K Γ W (.Dict keys values pos) (tDisp trs) (dictC π) := by
  refine ⟨pe_disp h.pp hall hl h0 h15, fun σ H Q G F ι s ds hs hr hp => ?_⟩
  intro p np
  unfold dictC at hp
  have r1 := hr.put (o := .dK []) np
  have nG : G p = none := same_newF hr.aside np
  refine h.gd σ _ _ (upd G p (.dK [])) F ι s ds hs r1 ?_
  cases e : π ds s with
  | bad => rw [e] at hp; exact hp
  | err c q s1 => rw [e] at hp; exact hp.elim
  | ok ps s1 =>
    rw [e] at hp
    intro vs H' F' ι' x r q
    obtain ⟨H3, n3, u3, r3, e3⟩ := r.back nG (fun b z => nomatch z) (fun z => nomatch z)
    have hp : Post K Γ W σ G F ι (RV K Γ) Q (match keysC ps with | some kvs => if kvs.length ≤ 15 then .ok (.cell s1.length) (s1 ++ [.dic (mergeKD [] kvs)]) else .bad | none => .bad) := hp
    split at hp
    · rename_i kvs ek
      split at hp
      · rename_i h5
        obtain ⟨ks, rfl, g, hk⟩ := keysC_rp q ek
        refine ⟨e3, ks, rfl, by rw [hk]; exact h5, ?_⟩
        rw [← u3]
        have xx : Ext F' ι' F' (ι' ++ [p]) := ⟨fun _ _ e => e, fun n a e => by rw [List.getElem?_append_left (List.getElem?_eq_some_iff.mp e).1]; exact e⟩
        obtain ⟨r4, x4⟩ := r3.push (o := .dK (mergeK [] ks)) (c := .dic (mergeKD [] kvs)) n3 ⟨same_newF r3.sub n3, _, upd_same, (g.merge .nil).ext xx⟩
        refine hp _ _ _ _ (x.trans x4) r4 (.cell ?_)
        rw [List.getElem?_append_right (by rw [r3.len]; exact Nat.le_refl _), r3.len, Nat.sub_self]
        rfl
      · exact hp.elim
    · exact hp.elim
theorem gs_dput {to ti tv : TE} {φx φi φv : FE} (ho : Gd K Γ W to φx) (hi : Gd K Γ W ti φi) (hv : Gd K Γ W tv φv) : GS K Γ W (sDPut to ti tv) (dputS φx φi φv) := by
  intro E σ H G F ι s ds hs hr hp
  refine hv.stepS hs hr hp fun d s1 y H1 F1 ι1 x1 r1 q1 hs1 hp1 => ?_
  refine ho.stepS hs1 r1 hp1 fun x s2 v H2 F2 ι2 x2 r2 q2 hs2 hp2 => ?_
  refine hi.stepS hs2 r2 hp2 fun k s3 u H3 F3 ι3 x3 r3 q3 hs3 hp3 => ?_
  try dsimp only at hp3
  split at hp3
  · rename_i s' es
    cases x <;> first | (cases es; done) | skip
    rename_i n
    have es' : (match s3[n]?, keyOf k with | some (.dic kvs), some q => if kvs.length ≤ 100000 then some (s3.set n (.dic (putKD kvs q d))) else none | _, _ => none) = some s' := es
    split at es'
    · rename_i kvs q en ek
      split at es'
      · rename_i hz
        cases es'
        cases q2 with
        | cell ea =>
          have ea3 := x3.pre _ _ ea
          obtain ⟨hF, ks, hu, gk⟩ := r3.at_ n _ _ en ea3
          have ev := keyOf_rp q3 ek
          subst ev
          refine ⟨_, _, rfl, DPut.k hu (by rw [gk.length]; exact Nat.lt_of_le_of_lt hz (by decide +kernel)), ?_⟩
          exact hp3 σ _ F3 ι3 Ext.refl hs3 (r3.write (c := .dic (putKD kvs q d)) ea3 hu (fun b z => nomatch z) (fun z => nomatch z) hF ⟨hF, _, upd_same, gk.put (q1.ext (x2.trans x3)) q⟩)
      · cases es'
    · cases es'
  · exact hp3.elim
theorem ds_dput {k : Nat} {o i v : Expr} {to ti tv : TE} {φx φi φv : FE} {pos' : Pos} (hr : Room k X.A) (ho : DE X K Γ W o to φx) (hi : DE X K Γ W i ti φi) (hv : DE X K Γ W v tv φv) (hs : swapsWith v (some (.Subscript o i pos')) pos.line X.env = pure false := by rfl) :
    DS X K Γ W (.Assign [.Subscript o i pos'] v pos) (sDPut to ti tv) (dputS φx φi φv) := ⟨ps_dput (by have := Gl.in_room hr; omega) ho.pe hi.pe hv.pe hs, gs_dput ho.gd hi.gd hv.gd⟩
end
end Md

set_option Elab.async false
set_option maxRecDepth 100000
set_option maxHeartbeats 4000000
set_option linter.all false
/-! the mirror layer: a dict's cell is frozen with what it holds -/
namespace Md
open PySem PySem.Spec PyProof.Rows L2 TxS
/-- up to n things are locked -/
def lkN : Nat → VK → V → Hp → Prop
  | 0, Q, v, H => Q v H
  | n + 1, Q, v, H => Q v H ∨ ∃ d u, H d = some u ∧ Mut (some u) ∧ ∀ od, lkN n Q v (upd H d (.frz od u))
theorem lk_here {n : Nat} {Q : VK} {v : V} {H : Hp} (h : Q v H) : lkN n Q v H := by
  cases n with
  | zero => exact h
  | succ n => exact Or.inl h
theorem lk_up {Q : VK} {v : V} : ∀ {n : Nat} {H : Hp}, lkN n Q v H → lkN (n + 1) Q v H
  | 0, H, h => Or.inl h
  | n + 1, H, h => by
    rcases h with h | ⟨d, u, h1, h2, k⟩
    · exact Or.inl h
    · exact Or.inr ⟨d, u, h1, h2, fun od => lk_up (k od)⟩
def tLk (n : Nat) (te : TE) : TE := fun σ H Q => te σ H fun v H1 => lkN n Q v H1
theorem inv_lk {X : Cx} {pn : List (Addr × Obj)} {σ : L2.St} {s : Shared} {Q : VK} {v : V} {u : Value} (r : RelV v u) : ∀ {n : Nat} {H : Hp}, Inv X pn σ H s → lkN n Q v H → EP X pn σ Q u s
  | 0, H, I, h => ⟨v, H, I, r, h⟩
  | n + 1, H, I, h => by
    rcases h with h | ⟨d, w, h1, h2, k⟩
    · exact ⟨v, H, I, r, h⟩
    · obtain ⟨od, I2⟩ := I.lock h1 h2
      exact inv_lk r I2 (k od)
theorem pe_lk {X : Cx} {e : Expr} {te : TE} {n : Nat} (h : PE X e te) : PE X e (tLk n te) := by
  constructor
  intro pn s σ H Q I q
  refine thn (h.run pn s σ H _ I q) ?_
  rintro v s1 ⟨x, H1, I1, r1, k⟩
  exact inv_lk r1 I1 k
/-! data -/
def frz1 (d : D) (s : Sto) : Option (D × Sto) := match d with
  | .cell n => match s[n]? with
    | some (.lst xs) => some (.lst xs, s.set n .dead)
    | some (.dic kvs) => if (kvs.all fun kv => nc kv.2) = true then some (.dic kvs, s.set n .dead) else none
    | _ => none
  | d => some (d, s)
def frzKs : List (Key × D) → Sto → Option (List (Key × D) × Sto)
  | [], s => some ([], s)
  | (k, d) :: r, s => match frz1 d s with
    | some (d', s1) => match frzKs r s1 with
      | some (r', s2) => some ((k, d') :: r', s2)
      | none => none
    | none => none
def ncell (n : Nat) : D → Bool
  | .cell m => decide (m ≠ n)
  | _ => true
def frz2 (d : D) (s : Sto) : Option (D × Sto) := match d with
  | .cell n => match s[n]? with
    | some (.dic kvs) => if (decide (kvs.length ≤ 15) && kvs.all fun kv => ncell n kv.2) = true then match frzKs kvs s with
        | some (kvs', s1) => some (.dic kvs', s1.set n .dead)
        | none => none
      else none
    | some (.lst xs) => some (.lst xs, s.set n .dead)
    | _ => none
  | d => some (d, s)
def frzE (d : D) (s : Sto) : Out D := match frz2 d s with
  | some (d', s') => .ok d' s'
  | none => .bad
section
variable {K : PySem.W.Frag} {Γ : Nat → Addr} {G F H : Hp} {ι : List Addr} {s : Sto}
theorem Rel.freezeD {n : Nat} {a : Addr} {kvs kvs' : List (Key × D)} {ks : List (Key × V)} {od : Obj} (r : Rel K Γ G F H ι s) (ea : ι[n]? = some a) (en : s[n]? = some (.dic kvs)) (hF : F a = none) (hH : H a = some (.dK ks)) (gk : RpK K Γ F [] ks kvs') :
    Rel K Γ G (upd F a (.frz od (.dK ks))) (upd H a (.frz od (.dK ks))) ι (s.set n .dead) ∧ Ext F ι (upd F a (.frz od (.dK ks))) ι ∧ Rp K Γ (upd F a (.frz od (.dK ks))) [] (.ref a) (.dic kvs') := by
  have hm := List.mem_of_getElem? ea
  have hG := (r.free a hm).1
  have x : Ext F ι (upd F a (.frz od (.dK ks))) ι := ⟨same_new hF, fun _ _ e => e⟩
  refine ⟨⟨same_upd2 r.sub, fun b v e => ?_, fun b v e => ?_, r.nd, by rw [List.length_set]; exact r.len, fun b hb => ⟨(r.free b hb).1, ?_⟩, fun m d b e1 e2 => ?_⟩, x, .dK upd_same (gk.ext x.nil)⟩
  · rw [upd_ne (ne_of_none e hG)]; exact r.aside b v e
  · rw [upd_ne (ne_of_none e hG)]; exact r.apart b v e
  · by_cases h : b = a
    · subst h; rw [upd_same]; rfl
    · rw [upd_ne h]; exact (r.free b hb).2
  · by_cases h : n = m
    · subst h
      rw [List.getElem?_set_self (List.getElem?_eq_some_iff.mp en).1] at e1; cases e1
      trivial
    · rw [List.getElem?_set_ne h] at e1
      have hb : b ≠ a := by
        rintro rfl
        obtain ⟨h1, e3⟩ := List.getElem?_eq_some_iff.mp ea
        obtain ⟨h2, e4⟩ := List.getElem?_eq_some_iff.mp e2
        exact h ((List.getElem_inj r.nd).mp (e3.trans e4.symm))
      refine (r.at_ m d b e1 e2).keep x (fun b' v e hb' => ?_) (fun h => (upd_ne hb).trans h) (fun b' e h => (upd_ne (ne_of e hH (by intro z; cases z))).trans h)
      refine (upd_ne ?_).trans e
      rintro rfl
      rw [hH] at e; cases e
      rcases hb' with z | z | z
      · exact hb z.symm
      · cases z
      · cases z
def Fz (K : PySem.W.Frag) (Γ : Nat → Addr) (F : Hp) (ι : List Addr) (d d' : D) : Prop := (nc d = true ∧ d' = d) ∨ ∃ m a, d = .cell m ∧ ι[m]? = some a ∧ Rp K Γ F [] (.ref a) d'
theorem Fz.rp {d d' : D} {v : V} (h : Fz K Γ F ι d d') (g : Rp K Γ F ι v d) : Rp K Γ F [] v d' := by
  rcases h with ⟨h1, rfl⟩ | ⟨m, a, rfl, ea, h⟩
  · exact g.fz h1
  · cases g with
    | cell e => rw [ea] at e; cases e; exact h
theorem Fz.ext {F' : Hp} {d d' : D} (x : Ext F ι F' ι) (h : Fz K Γ F ι d d') : Fz K Γ F' ι d d' := by
  rcases h with h | ⟨m, a, rfl, ea, h⟩
  · exact Or.inl h
  · exact Or.inr ⟨m, a, rfl, ea, h.ext x.nil⟩
inductive FzK (K : PySem.W.Frag) (Γ : Nat → Addr) (F : Hp) (ι : List Addr) : List (Key × D) → List (Key × D) → Prop
  | nil : FzK K Γ F ι [] []
  | cons {k : Key} {d d' : D} {r r' : List (Key × D)} : Fz K Γ F ι d d' → FzK K Γ F ι r r' → FzK K Γ F ι ((k, d) :: r) ((k, d') :: r')
theorem FzK.ext {F' : Hp} (x : Ext F ι F' ι) : ∀ {r r' : List (Key × D)}, FzK K Γ F ι r r' → FzK K Γ F' ι r r'
  | _, _, .nil => .nil
  | _, _, .cons h t => .cons (h.ext x) (FzK.ext x t)
theorem FzK.rp : ∀ {ks : List (Key × V)} {r r' : List (Key × D)}, FzK K Γ F ι r r' → RpK K Γ F ι ks r → RpK K Γ F [] ks r'
  | _, _, _, .nil, .nil => .nil
  | _, _, _, .cons h t, .cons g u => .cons (h.rp g) (FzK.rp t u)
theorem RpK.fz : ∀ {ks : List (Key × V)} {r : List (Key × D)}, RpK K Γ F ι ks r → (r.all fun kv => nc kv.2) = true → RpK K Γ F [] ks r
  | _, _, .nil, _ => .nil
  | _, _, .cons h t, n => by
    rw [List.all_cons, Bool.and_eq_true] at n
    exact .cons (h.fz n.1) (RpK.fz t n.2)
theorem at_of_store {n : Nat} {c : Cl} (r : Rel K Γ G F H ι s) (e : s[n]? = some c) : ∃ a, ι[n]? = some a := by
  have h := (List.getElem?_eq_some_iff.mp e).1
  rw [← r.len] at h
  exact ⟨_, List.getElem?_eq_getElem h⟩
theorem frz1_ok {d d' : D} {s' : Sto} {Q : VK} {v : V} {n : Nat} (r : Rel K Γ G F H ι s) (e : frz1 d s = some (d', s')) (k : ∀ H' F', Ext F ι F' ι → Rel K Γ G F' H' ι s' → Fz K Γ F' ι d d' → lkN n Q v H') : lkN (n + 1) Q v H := by
  by_cases hc : nc d = true
  · have e' : d' = d ∧ s' = s := by
      cases d <;> first | (cases hc; done) | (cases e; exact ⟨rfl, rfl⟩)
    obtain ⟨rfl, rfl⟩ := e'
    exact lk_up (k H F Ext.refl r (Or.inl ⟨hc, rfl⟩))
  · cases d <;> first | exact absurd rfl hc | skip
    rename_i m
    have e' : (match s[m]? with | some (.lst xs) => some (D.lst xs, s.set m .dead) | some (.dic kvs) => (if (kvs.all fun kv => nc kv.2) = true then some (D.dic kvs, s.set m .dead) else none) | _ => none) = some (d', s') := e
    split at e'
    · rename_i xs en
      cases e'
      obtain ⟨a, ea⟩ := at_of_store r en
      obtain ⟨F', r', x', rp⟩ := r.freezeL ea en
      exact lk_up (k H F' x' r' (Or.inr ⟨m, a, rfl, ea, rp.fz rfl⟩))
    · rename_i kvs en
      split at e'
      · rename_i hn
        cases e'
        obtain ⟨a, ea⟩ := at_of_store r en
        obtain ⟨hF, ks, hH, gk⟩ := r.at_ m _ a en ea
        refine Or.inr ⟨a, _, hH, trivial, fun od => ?_⟩
        obtain ⟨r', x', rp⟩ := r.freezeD (od := od) ea en hF hH (gk.fz hn)
        exact k _ _ x' r' (Or.inr ⟨m, a, rfl, ea, rp⟩)
      · cases e'
    · cases e'
theorem frzKs_ok {Q : VK} {v : V} {n : Nat} : ∀ {kvs kvs' : List (Key × D)} {s s' : Sto} {F H : Hp}, Rel K Γ G F H ι s → frzKs kvs s = some (kvs', s') → (∀ H' F', Ext F ι F' ι → Rel K Γ G F' H' ι s' → FzK K Γ F' ι kvs kvs' → lkN n Q v H') → lkN (n + kvs.length) Q v H
  | [], _, _, _, F, H, r, e, k => by
    cases e
    exact k H F Ext.refl r .nil
  | (q, d) :: t, kvs', s, s', F, H, r, e, k => by
    have e' : (match frz1 d s with | some (d', s1) => (match frzKs t s1 with | some (r', s2) => some ((q, d') :: r', s2) | none => none) | none => none) = some (kvs', s') := e
    split at e'
    · rename_i d' s1 e1
      split at e'
      · rename_i r' s2 e2
        cases e'
        show lkN (n + (t.length + 1)) Q v H
        refine frz1_ok (n := n + t.length) r e1 fun H1 F1 x1 r1 f1 => ?_
        refine frzKs_ok r1 e2 fun H2 F2 x2 r2 f2 => ?_
        exact k H2 F2 (x1.trans x2) r2 (.cons (f1.ext x2) f2)
      · cases e'
    · cases e'
theorem frz1_keep {d d' : D} {s s' : Sto} {n : Nat} (e : frz1 d s = some (d', s')) (h : ncell n d = true) : s'[n]? = s[n]? := by
  by_cases hc : nc d = true
  · cases d <;> first | (cases hc; done) | (cases e; rfl)
  · cases d <;> first | exact absurd rfl hc | skip
    rename_i m
    have hm : m ≠ n := of_decide_eq_true h
    have e' : (match s[m]? with | some (.lst xs) => some (D.lst xs, s.set m .dead) | some (.dic kvs) => (if (kvs.all fun kv => nc kv.2) = true then some (D.dic kvs, s.set m .dead) else none) | _ => none) = some (d', s') := e
    split at e'
    · cases e'
      exact List.getElem?_set_ne hm
    · split at e'
      · cases e'
        exact List.getElem?_set_ne hm
      · cases e'
    · cases e'
theorem frzKs_keep {n : Nat} : ∀ {kvs kvs' : List (Key × D)} {s s' : Sto}, frzKs kvs s = some (kvs', s') → (kvs.all fun kv => ncell n kv.2) = true → s'[n]? = s[n]?
  | [], _, _, _, e, _ => by cases e; rfl
  | (q, d) :: t, kvs', s, s', e, h => by
    rw [List.all_cons, Bool.and_eq_true] at h
    have e' : (match frz1 d s with | some (d', s1) => (match frzKs t s1 with | some (r', s2) => some ((q, d') :: r', s2) | none => none) | none => none) = some (kvs', s') := e
    split at e'
    · rename_i d' s1 e1
      split at e'
      · rename_i r' s2 e2
        cases e'
        rw [frzKs_keep e2 h.2, frz1_keep e1 h.1]
      · cases e'
    · cases e'
theorem gd_frz2 {W : WX} {te : TE} {φ : FE} (h : Gd K Γ W te φ) : Gd K Γ W (tLk 16 te) (bindX φ fun _ => frzE) := by
  intro σ H Q G F ι s ds hs hr hp
  refine h.step hs hr hp fun d s1 v H1 F1 ι1 x1 r1 q1 hs1 hp1 => ?_
  try dsimp only at hp1
  unfold frzE at hp1
  split at hp1
  · rename_i d' s' e
    unfold frz2 at e
    split at e
    · rename_i n
      split at e
      · rename_i kvs en
        split at e
        · rename_i hc
          rw [Bool.and_eq_true, decide_eq_true_eq] at hc
          split at e
          · rename_i kvs' s2 e2
            cases e
            obtain ⟨a, ea⟩ := at_of_store r1 en
            have hk := frzKs_keep (n := n) e2 hc.2
            cases q1 with
            | cell eb =>
              rw [ea] at eb
              cases eb
              obtain ⟨j, hj⟩ := Nat.le.dest (show kvs.length ≤ 15 from hc.1)
              have e16 : 16 = (j + 1) + kvs.length := by omega
              rw [e16]
              refine frzKs_ok (n := j + 1) r1 e2 fun H2 F2 x2 r2 f2 => ?_
              obtain ⟨hF, ks, hH, gk⟩ := r2.at_ n _ a (hk.trans en) ea
              refine Or.inr ⟨a, _, hH, trivial, fun od => lk_here ?_⟩
              obtain ⟨r3, x3, rp⟩ := r2.freezeD (od := od) ea (hk.trans en) hF hH (f2.rp gk)
              exact hp1 _ _ _ _ (x2.trans x3) r3 rp.up
          · cases e
        · cases e
      · rename_i xs en
        cases e
        obtain ⟨a, ea⟩ := at_of_store r1 en
        obtain ⟨F', r', x', rp⟩ := r1.freezeL ea en
        cases q1 with
        | cell eb =>
          rw [ea] at eb
          cases eb
          exact lk_here (hp1 _ _ _ _ x' r' rp)
      · cases e
    · cases e
      exact lk_here (hp1 _ _ _ _ Ext.refl r1 q1)
  · exact hp1.elim
theorem de_frz2 {X : Cx} {W : WX} {e : Expr} {te : TE} {φ : FE} (h : DE X K Γ W e te φ) : DE X K Γ W e (tLk 16 te) (bindX φ fun _ => frzE) := ⟨pe_lk h.pe, gd_frz2 h.gd⟩
end
end Md

set_option Elab.async false
set_option maxRecDepth 100000
set_option maxHeartbeats 4000000
set_option linter.all false
/-! the mirror layer: list(x) of an instance with its own __iter__ and __len__ -/
namespace Md
open PySem PySem.Spec PyProof.Rows L2
/-- list(x): a list is laid, __iter__ runs, __len__ is asked, the tuple's items go over -/
def rListOwn (K : PySem.W.Frag) (C : Addr) (spI : Nat → Sp) (spL : Sp) : List V → Hp → VK → Prop := fun xs H Q => ∃ a, xs = [.ref a] ∧ ∀ q, H q = none →
  (∃ dx vs, SlX.Slt (upd H q (.lst [])) a C dx vs) ∧ ∀ n, spI n [.ref a] (upd H q (.lst [])) (fun z H2 => ∃ it p H3, z = .ref it ∧ H3 it = none ∧ n ≤ it ∧ H2 = upd H3 it (TiO p it) ∧
    (∃ dx vs, SlX.Slt H2 a C dx vs) ∧ spL [.ref a] H2 (fun z H4 => ∃ (i : Int) (zs : List V), z = .int i ∧ (0 ≤ i ∧ i < 2 ^ 20) ∧ H4 it = some (TiO p it) ∧ H4 q = some (.lst []) ∧ SqT K H4 p zs ∧ Q (.ref q) (upd (ItX.dropH H4 it) q (.lst zs))) E0) E0
section
variable {X : Cx} {pins : List (Addr × Obj)} {σ : L2.St} {A1 : Around}
theorem sqT_other {K : PySem.W.Frag} {H H' : Hp} {p : Addr} {zs : List V} (h : SqT K H p zs) (k : ∀ b u, H b = some u → (∀ ys, u ≠ .lst ys) → (∀ φ, u ≠ .ext φ) → H' b = some u) : SqT K H' p zs := by
  rcases h with h | h
  · refine Or.inl ?_
    rcases h with h | ⟨o, h⟩
    · exact Or.inl (k _ _ h (fun _ z => nomatch z) (fun _ z => nomatch z))
    · exact Or.inr ⟨o, k _ _ h (fun _ z => nomatch z) (fun _ z => nomatch z)⟩
  · exact Or.inr h
theorem ownl_loop {H0 : Hp} {q it p : Addr} {zs : List V} {Rs : Result → Shared → Prop} (hc : X.calm = true) (hh : A1.in1.handled = none) (hne : it ≠ q) (hsq : ∀ acc, SqT X.K (upd H0 q (.lst acc)) p zs) (hfp : ∀ acc, FpOk X pins (upd H0 q (.lst acc)) it)
    (hdone : ∀ s, Inv X pins σ (upd H0 q (.lst zs)) s → Rs (.ok (.ret .none)) s) :
    ∀ (k i : Nat) (s : Shared), k + i = zs.length → Inv X pins σ (upd H0 q (.lst (zs.take i))) s → s.heap.IsTupleIter it p i → codeAny (model X.prog X.w) A1 (.builtin "list.extend.loop" ⟨[.ref q, .ref it, .none], []⟩) Rs s := by
  intro k
  induction k with
  | zero =>
    intro i s hk I st
    obtain ⟨its, rv, pl, hz⟩ := I.tuple (hsq _)
    have hl := rv.length
    obtain ⟨f0, f1, f2, f3, f4, f5⟩ := hfp (zs.take i)
    refine codeAny_builtin PySem.F.entry_extend_loop ?_
    rw [Around.under_plainId PySem.F.plain_extend_loop _]
    show wpAny _ A1.in1 (pyNext (.ref it) >>= _) _ _ s
    refine wpAny_bind (wpAny_pyNext_tuple_end hh st (show s.heap.IsTuple p its.toArray from pl) (by simp; omega) fun h' eb => wpAny_pure (hdone _ ?_))
    have J := I.turned (t' := s.toks) (fun b o hb e => eb b o hb e) f0 f1 f3 f4 f5
    rw [List.take_of_length_le (by omega)] at J
    exact J
  | succ k ih =>
    intro i s hk I st
    obtain ⟨its, rv, pl, hz⟩ := I.tuple (hsq _)
    have hl := rv.length
    obtain ⟨f0, f1, f2, f3, f4, f5⟩ := hfp (zs.take i)
    have hi : i < zs.length := by omega
    obtain ⟨u, hu, ru⟩ := rv.get (List.getElem?_eq_getElem hi)
    refine codeAny_builtin PySem.F.entry_extend_loop ?_
    rw [Around.under_plainId PySem.F.plain_extend_loop _]
    show wpAny _ A1.in1 (pyNext (.ref it) >>= _) _ _ s
    refine wpAny_bind (wpAny_pyNext_tuple_item st (show s.heap.IsTuple p its.toArray from pl) (x := u) (by simpa using hu) fun h' st' sb => ?_)
    have J : Inv X pins σ (upd H0 q (.lst (zs.take i))) { s with heap := h' } := I.turned (t' := s.toks) (fun b o hb e => (sb.2 b hb).trans e) f0 f1 f3 f4 f5
    show wpAny _ A1.in1 (updateSeq q (·.push u) >>= _) _ _ _
    obtain ⟨z, its2, c2, r2, hl2, e2⟩ := J.lstM upd_same
    have hl3 : (zs.take i).length ≤ i := by rw [List.length_take]; omega
    refine wpAny_bind (wpAny_updateSeq e2 rfl (wpAny_pure ⟨plainId_quiet PySem.F.plain_extend_loop _, ?_⟩) (by rw [List.size_toArray]; omega) (by show (its2.toArray.push u).size ≤ sizeLine + 1; rw [Array.size_push, List.size_toArray]; omega))
    have J2 := J.lset (its' := its2 ++ [u]) (t' := s.toks) (ys := zs.take (i + 1)) (f := (·.push u)) upd_same e2 (by simp) (by rw [List.take_succ_eq_append_getElem hi]; exact r2.append (.cons ru .nil)) (by rw [List.length_take]; omega)
    rw [upd_upd] at J2
    refine ih (i + 1) _ (by omega) J2 ?_
    obtain ⟨o, ho, r⟩ := st'
    exact ⟨o, (Heap.get?_update_other _ _ (Ne.symm hne)).trans ho, r⟩
/-- a list that is touched (one in, one out) stands as it stood -/
theorem touched {q : Addr} {H : Hp} {s : Shared} {A : Around} {E : Value → Shared → Prop} {Q : Unit → Shared → Prop} (I : Inv X pins σ H s) (at_q : H q = some (.lst [])) (k : ∀ s', Inv X pins σ H s' → (∀ b o, b ≠ q → s.heap.get? b = some o → s'.heap.get? b = some o) → Q () s') :
    wpAny (model X.prog X.w) A (Builtin.List.listTouch (.ref q)) Q E s := by
  have same : ∀ ys : List V, upd (upd H q (.lst ys)) q (.lst []) = H := fun ys => funext fun b => by
    by_cases z : b = q
    · rw [z, upd_same, at_q]
    · rw [upd_ne z, upd_ne z]
  obtain ⟨_, its, c, none_in, _, here⟩ := I.lstM at_q
  cases none_in
  have J := I.lset (f := fun xs => xs.push Value.none) (its' := [Value.none]) (ys := [V.non]) (t' := s.toks) at_q here rfl (.cons rfl .nil) (by show 1 ≤ sizeLine; rw [sizeLine_eq]; omega)
  obtain ⟨_, its2, c2, one_in, _, here2⟩ := J.lstM upd_same
  obtain ⟨w, rfl, _⟩ := one_in.one
  have L := J.lset (f := fun xs => xs.pop) (its' := []) (ys := []) (t' := s.toks) upd_same here2 rfl .nil (Nat.zero_le _)
  rw [same] at L
  unfold Builtin.List.listTouch
  exact wpAny_bind (wpAny_updateSeq here rfl (wpAny_updateSeq here2 rfl (k _ L fun b o z e => (Heap.get?_update_other _ _ (Ne.symm z)).trans ((Heap.get?_update_other _ _ (Ne.symm z)).trans e)) (by rw [sizeLine_eq]; show 1 ≤ _; omega) (Nat.zero_le _)))
/-- what list(x) does to its new list before x is asked -/
theorem begun {q : Addr} {x : Value} {H : Hp} {s : Shared} {A : Around} {E : Value → Shared → Prop} {Q : Fin → Shared → Prop} (I : Inv X pins σ H s) (at_q : H q = some (.lst [])) (here : s.heap.get? q = some { cls := .type "list", data := .seq #[] }) (k : ∀ s', Inv X pins σ H s' → wpAny (model X.prog X.w) A (Builtin.List.listExtendWith (.ref q) x .none) Q E s') :
    wpAny (model X.prog X.w) A (Builtin.«list.__init__» ⟨[.ref q, x], []⟩) Q E s := by
  have J := I.lset (f := fun _ => #[]) (its := []) (its' := []) (ys := []) (t' := s.toks) at_q here rfl .nil (Nat.zero_le _)
  have same : upd H q (.lst []) = H := funext fun b => by
    by_cases z : b = q
    · rw [z, upd_same, at_q]
    · rw [upd_ne z]
  rw [same] at J
  show wpAny _ A ((seqItems? (.ref q) >>= _) >>= fun old : Array Value => Builtin.List.listUpdate (.ref q) (fun _ => #[]) >>= fun _ => letGo old.toList.reverse >>= fun _ => _) Q E s
  exact wpAny_bind (wpAny_bind (wpAny_seqItems here rfl (wpAny_pure (wpAny_bind (wpAny_updateSeq here rfl (wpAny_bind (wpAny_letGo (k _ J))))))))
/-- the list grows by an instance's items: how it begins -/
theorem grown {q a C : Addr} {ox : Obj} {od : Option Obj} {s : Shared} {A : Around} {E : Value → Shared → Prop} {Q : Fin → Shared → Prop} (J : PySem.W.InstAt s.heap a ox C od) (z : q ≠ a)
    (k : wpAny (model X.prog X.w) A (pyIter (.ref a)) (fun it s1 => wpAny (model X.prog X.w) A (Builtin.List.listLengthHint (.ref a)) (fun _ s2 => Q (.again (.builtin "list.extend.loop" ⟨[.ref q, it, .none], []⟩)) s2 ∧ wpAny (model X.prog X.w) A (Builtin.List.listTouch (.ref q)) (fun _ s3 => Q (.again (.builtin "list.extend.loop" ⟨[.ref q, it, .none], []⟩)) s3) E s2) E s1) E s) :
    wpAny (model X.prog X.w) A (Builtin.List.listExtendWith (.ref q) (.ref a) .none) Q E s := by
  have other : (Builtin.List.listSameRef (.ref q) (.ref a) || Value.ref C == .type "list" || Value.ref C == .type "tuple") = false := by
    show ((q == a) || false || false) = false
    rw [Bool.or_false, Bool.or_false]
    exact beq_false_of_ne z
  unfold Builtin.List.listExtendWith
  refine wpAny_bind (J.type.here (PySem.W.KFB.if_not other (wpAny_bind (wpAny_mono k (fun it s1 k1 => wpAny_bind (wpAny_holding (wpAny_mono k1 (fun room s2 k2 => ?_) fun _ _ x => x))) fun _ _ x => x))))
  exact wpAny_ite_split (fun _ => wpAny_bind (wpAny_rule (wpAny_bind (wpAny_mono k2.2 (fun _ s3 k3 => wpAny_pure k3) fun _ _ x => x)))) fun _ => wpAny_pure k2.1
variable {C gi gl : Addr} {ni nl : Nat} {spI : Nat → Sp} {spL : Sp}
/-- an own __len__ that gives i: the hint -/
theorem hinted {a dx : Addr} {vs : List (Option V)} {H : Hp} {s : Shared} {A : Around} {E : Value → Shared → Prop} {Q : Bool → Shared → Prop} {R : List V → Hp → Prop} (I : Inv X pins σ H s) (sl : SlX.Slt H a C dx vs) (m : Meth X.K C "__len__" gl) (F : FnR X.prog X.w X.K X.mg X.base (L2.CX X.prog X.w) nl gl spL) (room : Room nl A.in1) (ev : Env0 X.prog X.w X.K X.mg X.base A.in1 X.stack s H)
    (says : spL [.ref a] H (fun z H' => ∃ (i : Int) (zs : List V), z = .int i ∧ (0 ≤ i ∧ i < 2 ^ 20) ∧ R zs H') E0) (k : ∀ b s' H' zs, Inv X pins σ H' s' → R zs H' → Q b s') : wpAny (model X.prog X.w) A (Builtin.List.listLengthHint (.ref a)) Q E s := by
  obtain ⟨_, _, _, J, _⟩ := SlX.slt_inst I sl
  obtain ⟨_, fr⟩ := I.fr
  have ran : wpAny (model X.prog X.w) A.in1 (call (.ref gl) [.ref a]) (fun u s' => ∃ (i : Int) (t : Tok) (H' : Hp) (zs : List V), u = .int i t ∧ (0 ≤ i ∧ i < 2 ^ 20) ∧ Inv X pins σ H' s' ∧ R zs H') (fun _ _ => False) s := by
    refine wpAny_call (codeAny_mono (F A.in1 X.stack s H [.ref a] [.ref a] _ E0 room ev (.cons rfl .nil) says) fun o s' got => ?_)
    match o, got with
    | .error _, got => obtain ⟨_, _, _, _, _, _, _, _, _, _, _, _, no⟩ := got; exact no.elim
    | .ok .next, got => exact got.elim
    | .ok .brk, got => exact got.elim
    | .ok .cont, got => exact got.elim
    | .ok (.ret u), got =>
      obtain ⟨_, H', I', ru, i, zs, rfl, bd, rr⟩ := I.after got
      obtain ⟨t, rfl⟩ := (show ∃ t, u = Value.int i t from ru)
      exact ⟨i, t, H', zs, rfl, bd, I', rr⟩
  unfold Builtin.List.listLengthHint
  refine wpAny_bind (wpAny_bind (J.type.here ((PySem.W.looks_findIn I.kIn m.at_).here (PySem.W.KFB.if_not rfl (PySem.W.KFB.if_so rfl (wpAny_bind (wpAny_rule (wpAny_bind (wpAny_attempt (PySem.W.len_K fr I.ok.mod.kin J m.at_ m.fn (wpAny_mono ran ?_ fun _ _ no => no.elim)))))))))))
  rintro _ s' ⟨i, t, H', zs, rfl, ⟨lo, hi⟩, I', rr⟩
  refine ⟨⟨lo, by omega⟩, ?_⟩
  show wpAny _ _ (if Builtin.List.listTooLong i.toNat = true then _ else _) _ _ _
  exact PySem.W.KFB.if_not (by unfold Builtin.List.listTooLong; rw [sizeLine_eq]; simp; omega) (wpAny_pure (k _ _ H' zs (I'.tok _) rr))
theorem call_listOwnS (calm : X.calm = true) (mi : Meth X.K C "__iter__" gi) (ml : Meth X.K C "__len__" gl) (FI : FnI X.prog X.w X.K X.mg X.base ni gi spI) (FL : FnR X.prog X.w X.K X.mg X.base (L2.CX X.prog X.w) nl gl spL) (ri : Room (ni + 2) X.A) (rl : Room (nl + 3) X.A) : CallR X (.type "list") (rListOwn X.K C spI spL) := by
  intro pins s σ H xs us Q I args want
  obtain ⟨a, rfl, want⟩ := want
  obtain ⟨_, rfl, ra⟩ := args.one
  cases ra
  obtain ⟨⟨dx, vs, sl⟩, want⟩ := want s.heap.objs.size (I.hok.fresh (Nat.le_refl _))
  have lay := I.lnew (its := []) (t' := s.toks) .nil (Nat.zero_le _)
  refine callType_codes PySem.F.called_list (PySem.F.typeCall_list_1 _) PySem.F.entry_list_init (code_list_new _ (Q₁ := fun o u => o = .ref s.heap.objs.size ∧ u = { s with heap := s.heap.push { cls := .type "list", data := .seq #[] } }) ⟨rfl, rfl⟩) ?_
  rintro _ _ ⟨rfl, rfl⟩
  have there := Heap.get?_push_size s.heap (o := { cls := .type "list", data := .seq #[] }) rfl
  refine ⟨⟨_, there, rfl⟩, PySem.F.args_list_init_2 _ _, begun lay upd_same there fun s1 I1 => ?_⟩
  generalize s.heap.objs.size = q at *
  obtain ⟨_, _, _, J, _⟩ := SlX.slt_inst I1 sl
  obtain ⟨_, fr⟩ := I1.fr
  have apart : q ≠ a := fun z => by
    subst z
    rcases sl with ⟨e, _⟩ | ⟨e, _⟩ <;> (rw [upd_same] at e; exact nomatch e)
  refine grown J apart (PySem.W.owit_iter fr I1.ok.mod.kin J mi.at_ mi.fn (wpAny_call (codeAny_mono (FI.go _ X.stack s1 _ [.ref a] [.ref a] _ E0 (Room.in1 (Room.in1 ri)) I1.env0.in1.in1 (.cons rfl .nil) (want _)) fun o s2 got => ?_)))
  match o, got with
  | .error _, got => exact got.elim
  | .ok .next, got => exact got.elim
  | .ok .brk, got => exact got.elim
  | .ok .cont, got => exact got.elim
  | .ok (.ret u), got =>
    obtain ⟨_, _, I2, ru, it, p, H3, rfl, free, young, rfl, ⟨dx2, vs2, sl2⟩, says⟩ := I1.after got
    cases (show u = Value.ref it from ru)
    have iter2 : s2.heap.IsTupleIter it p 0 := (I2.hok it _ upd_same).1
    show PySem.W.OwitIt _ _ _ _ (.ref it) s2
    unfold PySem.W.OwitIt
    refine wpAny_specialOf (name := Str.ofString "__next__") iter2.typeIs PySem.F.slot_tuple_iterator_next.lookup (hinted (R := fun zs H4 => H4 it = some (TiO p it) ∧ H4 q = some (.lst []) ∧ SqT X.K H4 p zs ∧ Q (.ref q) (upd (ItX.dropH H4 it) q (.lst zs))) I2 sl2 ml FL (Room.in1 (Room.in1 (Room.in1 rl))) I2.env0.in1.in1.in1 says fun _ s3 H4 zs I3 got3 => ?_)
    · obtain ⟨at_it, at_q, sq, last⟩ := got3
      have D : Inv X pins σ (ItX.dropH H4 it) s3 := ItX.inv_drop I3 at_it
      have iter3 : s3.heap.IsTupleIter it p 0 := (I3.hok it _ at_it).1
      have two : it ≠ q := fun z => by rw [z, at_q] at at_it; exact nomatch at_it
      have dq : ItX.dropH H4 it q = some (.lst []) := (ItX.dropH_ne (Ne.symm two)).trans at_q
      have fp := ItX.inv_fp I3 at_it (Nat.le_trans I1.sz young)
      have back : upd (ItX.dropH H4 it) q (.lst []) = ItX.dropH H4 it := funext fun b => by
        by_cases z : b = q
        · rw [z, upd_same, dq]
        · rw [upd_ne z]
      have loop : ∀ s4, Inv X pins σ (ItX.dropH H4 it) s4 → s4.heap.IsTupleIter it p 0 → codeAny (model X.prog X.w) X.A.in1 (.builtin "list.extend.loop" ⟨[.ref q, .ref it, .none], []⟩) (wants (fun r s₂ => r = .none ∧ EP X pins σ Q (.ref q) s₂) X.xe) s4 := fun s4 I4 it4 =>
        ownl_loop (A1 := X.A.in1) (H0 := ItX.dropH H4 it) calm (show X.A.in1.in1.handled = none from I.ok.hd calm) two (fun acc => sqT_other sq fun b u e n1 n2 => by
          have b1 : b ≠ q := fun z => by rw [z, at_q] at e; cases e; exact n1 _ rfl
          have b2 : b ≠ it := fun z => by rw [z, at_it] at e; cases e; exact n2 _ rfl
          rw [upd_ne b1, ItX.dropH_ne b2, e]) (fun acc => ⟨by rw [upd_ne two]; exact fp.1, fp.2⟩) (fun s5 I5 => ⟨rfl, .ref q, _, I5, rfl, last⟩) zs.length 0 s4 (by omega) (by rw [List.take_zero, back]; exact I4) it4
      refine ⟨⟨plainId_quiet PySem.F.plain_extend_loop _, loop _ D iter3⟩, touched D dq fun s4 I4 keep => ⟨plainId_quiet PySem.F.plain_extend_loop _, loop _ I4 ?_⟩⟩
      obtain ⟨o, ho, r⟩ := iter3
      exact ⟨o, keep _ _ two ho, r⟩
end
section
variable {X : Cx} {K : PySem.W.Frag} {Γ : Nat → Addr} {e : Expr} {te : TE} {φ : FE} {p pos q : Pos}
/-- return iter(e) -/
theorem it_ret (he : DE X K Γ W0 e te φ) (hg : L2.Gl X "iter") (hm : X.mg "iter" = none) (hK : X.K = K := by rfl) (na : starEach [e] X.env = (false, eval e X.env) :: starEach [] X.env := by rfl) :
    PSs X [.Return (some (.Call (.Name "iter" p) [e] [] pos)) q] (tRet (tCB (rIterT K X.s_0.heap.objs.size) (tCons te tNil))) ∧ Gd K Γ W0 te φ :=
  ⟨pss_one (ps_ret (pe_callB (call_iterT hK) hg hm (by decide +kernel) (pa_cons he.pe pa_nil na) (by decide) (by decide) na (by rfl))), he.gd⟩
end
section
variable {K : PySem.W.Frag} {Γ : Nat → Addr} {c : Nat} {mi ml : Fn}
def listOwn (c : Nat) (mi ml : Fn) (xs : List D) (s : Sto) : Out D := match xs with
  | [x] => if clsD x s = some c then match mi [x] s with
      | .ok (.tup ys) s1 => if clsD x s1 = some c then match ml [x] s1 with
          | .ok (.int i) s2 => if (decide (0 ≤ i) && decide (i < 2 ^ 20)) = true then .ok (.lst ys) s2 else .bad
          | _ => .bad
        else .bad
      | _ => .bad
    else .bad
  | _ => .bad
theorem cg_listOwn : CallG K Γ (rListOwn K (Γ c) (spIt K Γ mi) (spD K Γ ml)) (listOwn c mi ml) := by
  intro W σ H Q G F ι s xs vs r g hp
  unfold listOwn at hp
  split at hp
  · rename_i x
    obtain ⟨v, rfl, gx⟩ := one_rp g
    split at hp
    · rename_i h
      obtain ⟨a, _, _, rfl, _⟩ := cls_rp r gx h
      refine ⟨a, rfl, fun q hq => ?_⟩
      have nG : G q = none := same_newF r.aside hq
      have r0 := r.put (o := .lst []) hq
      obtain ⟨a', dx, ws, ea, sl⟩ := cls_rp r0 gx h
      cases ea
      refine ⟨⟨dx, ws, sl⟩, fun n => ⟨_, F, ι, s, [x], .cons gx .nil, r0, rfl, ?_⟩⟩
      split at hp
      · rename_i ys s1 e
        rw [e]
        intro p H' F' ι' x' r' g' it hi hn
        split at hp
        · rename_i h1
          have r1 := r'.put (o := TiO p it) hi
          have gx1 := gx.ext x'
          obtain ⟨a', dx, ws, ea, sl⟩ := cls_rp r1 gx1 h1
          cases ea
          have nG1 : (upd G q (.lst [])) it = none := same_newF r'.aside hi
          refine ⟨it, p, H', rfl, hi, hn, rfl, ⟨dx, ws, sl⟩, _, F', ι', s1, [x], .cons gx1 .nil, r1, ?_⟩
          split at hp
          · rename_i i s2 e2
            rw [e2]
            intro v' H4 F4 ι4 x4 r4 q4
            split at hp
            · rename_i hb
              rw [Bool.and_eq_true, decide_eq_true_eq, decide_eq_true_eq] at hb
              cases q4
              obtain ⟨H5, h5, u5, r5, e5⟩ := r4.back nG1 (fun _ z => nomatch z) (fun z => nomatch z)
              obtain ⟨H6, h6, u6, r6, e6⟩ := r5.back nG (fun _ z => nomatch z) (fun z => nomatch z)
              have eD : ItX.dropH H4 it = H5 := by
                funext b
                by_cases hb : b = it
                · rw [hb, ItX.dropH_same, h5]
                · rw [ItX.dropH_ne hb]
                  have := congrFun (u5 (.lst [])) b
                  rw [upd_ne hb, upd_ne hb] at this
                  exact this.symm
              have hqi : q ≠ it := fun z => by rw [z, h5] at e6; cases e6
              have e6' : H4 q = some (.lst []) := (ItX.dropH_ne (H := H4) hqi).symm.trans (by rw [eD]; exact e6)
              cases g' with
              | tup h1 h2 =>
                refine ⟨i, _, rfl, hb, e5, e6', Gl.sqTS r4.sub (Gl.sqTS x4.1 h1), ?_⟩
                rw [eD, ← u6]
                obtain ⟨r7, x7⟩ := r6.new (o := .lst _) h6
                exact hp _ _ _ _ ((x'.trans x4).trans x7) r7 (.lst upd_same (((h2.ext x4.nil)).ext x7.nil))
            · exact hp.elim
          · exact hp.elim
        · exact hp.elim
      · exact hp.elim
    · exact hp.elim
  · exact hp.elim
end
end Md

set_option Elab.async false
set_option maxRecDepth 100000
set_option maxHeartbeats 4000000
set_option linter.all false
/-! set(a list of texts), its members by the list setT -/
namespace TxS
open PySem PySem.Spec PyProof.Rows L2
def setT (xs : List Str) : List Str := xs.foldl more []
theorem more_len (ks : List Str) (k : Str) : (more ks k).length ≤ ks.length + 1 := by
  unfold more
  split <;> simp
theorem setT_take (xs : List Str) (i : Nat) : ((xs.take i).foldl more []).length ≤ i := by
  induction i with
  | zero => simp
  | succ i ih =>
    by_cases h : i < xs.length
    · rw [List.take_succ_eq_append_getElem h, List.foldl_append]
      exact Nat.le_trans (more_len _ _) (Nat.succ_le_succ ih)
    · rw [List.take_of_length_le (by omega)] at ih ⊢
      omega
theorem setT_next {xs : List Str} {i : Nat} (h : i < xs.length) : setT (xs.take (i + 1)) = more (setT (xs.take i)) xs[i] := by
  unfold setT
  rw [List.take_succ_eq_append_getElem h, List.foldl_append]
  rfl
/-- set.__new__ -/
theorem born {P : Program} {w : World} {A : Around} {E : Value → Shared → Prop} {s : Shared} {v : Value} {Q : Value → Shared → Prop} (k : Q (.ref s.heap.objs.size) { s with heap := s.heap.push { cls := .type "set", dict := none, data := .set #[] 0 (.fresh 0 0 (!w.params.followText "set-order")) } }) :
    codeAny (model P w) A (.call (.builtin "set.__new__") ⟨[.type "set", v], []⟩) (wants Q E) s := by
  refine codeAny_call_builtin_at (plainId_quiet F.plain_set_new _) F.entry_set_new (wpAny_of_eq (F.newCall_set_1 v) ?_)
  unfold Builtin.«set.__new__»
  exact wpAny_bind (wpAny_of_eq (a := (Value.type "set", [v])) (by first | rfl | kernel_rfl!) (wpAny_bind (PpSet.newSet_ok (wpAny_pure k))))
section
variable {X : Cx} {pins : List (Addr × Obj)} {σ : L2.St} {A1 : Around}
/-- one turn of the loop that fills a set -/
theorem looped {P : Program} {w : World} {q it : Addr} {s : Shared} {Rs : Result → Shared → Prop}
    (k : wpAny (model P w) A1.in1 (Builtin.«set.update.loop» ⟨[.ref q, .ref it], []⟩) (fun fin s' => match fin with | .done f => Rs (.ok f) s' | .again c => c.quiet = true ∧ codeAny (model P w) A1 c Rs s') (fun e s' => Rs (.error e) s') s) :
    codeAny (model P w) A1 (.builtin "set.update.loop" ⟨[.ref q, .ref it], []⟩) Rs s :=
  codeAny_builtin PyProof.Rows.F.entry_set_update_loop ((Around.under_plainId PyProof.Rows.F.plain_set_update_loop _).symm ▸ k)
/-- the list's texts go into the set, one by one -/
theorem gather {H0 : Hp} {q it l : Addr} {xs : List Str} {Rs : Result → Shared → Prop} (hh : A1.in1.handled = none) (two : it ≠ q) (few : xs.length < 64) (sq : ∀ ks, SqL X.K (upd H0 q (SetSO X.prog X.w q ks)) l (xs.map V.str)) (fp : ∀ ks, FpOk X pins (upd H0 q (SetSO X.prog X.w q ks)) it)
    (done : ∀ s, Inv X pins σ (upd H0 q (SetSO X.prog X.w q (setT xs))) s → Rs (.ok (.ret .none)) s) :
    ∀ (n i : Nat) (s : Shared), n + i = xs.length → Inv X pins σ (upd H0 q (SetSO X.prog X.w q (setT (xs.take i)))) s → s.heap.IsListIter it l i → codeAny (model X.prog X.w) A1 (.builtin "set.update.loop" ⟨[.ref q, .ref it], []⟩) Rs s := by
  intro n
  induction n with
  | zero =>
    intro i s all I pos
    obtain ⟨us, vals, pl, _⟩ := I.list (sq _)
    have len : xs.length = us.length := by have := vals.length; rw [List.length_map] at this; exact this
    obtain ⟨g0, g1, _, g3, g4, g5⟩ := fp (setT xs)
    have out : us.toArray[i]? = none := by rw [List.getElem?_toArray]; exact List.getElem?_eq_none (by omega)
    rw [List.take_of_length_le (by omega)] at I
    refine looped ?_
    exact wpAny_bind (wpAny_pyNext_list_end hh pos pl.isList out fun _ same => wpAny_pure (done _ (I.turned (t' := s.toks) (fun b o z e => same b o z e) g0 g1 g3 g4 g5)))
  | succ n ih =>
    intro i s all I pos
    obtain ⟨us, vals, pl, _⟩ := I.list (sq _)
    have lt : i < xs.length := by omega
    have here : (xs.map V.str)[i]? = some (.str xs[i]) := by rw [List.getElem?_map, List.getElem?_eq_getElem lt]; rfl
    obtain ⟨u, at_u, ⟨tk, rfl⟩⟩ := vals.get here
    obtain ⟨g0, g1, _, g3, g4, g5⟩ := fp (setT (xs.take i))
    have small : (setT (xs.take i)).length + 1 < scanBound := by have := setT_take xs i; unfold setT scanBound; omega
    refine looped ?_
    refine wpAny_bind (wpAny_pyNext_list_item pos pl.isList (x := .str xs[i] tk) (by rw [List.getElem?_toArray]; exact at_u) fun h1 pos1 same1 => ?_)
    have I1 : Inv X pins σ (upd H0 q (SetSO X.prog X.w q (setT (xs.take i)))) { s with heap := h1 } := I.turned (t' := s.toks) (fun b o z e => (same1.2 b z).trans e) g0 g1 g3 g4 g5
    have T := setSO_at I1 upd_same
    refine wpAny_bind (wpAny_holding (wpAny_holding (wpAny_bind ((strKind X.prog X.w).pyHash (k := xs[i]) (strKind_is _ _ _ _) (addH (s := { s with heap := h1, toks := s.toks + 1 }) T small fun _ h2 same2 T2 => ?_)))))
    have I2 := I1.write (x := q) (e := q) (t' := s.toks + 1) (by rw [upd_same]; trivial) (.inl rfl) (fun b o z e => (same2.2 b z).trans e) (let ⟨o, _, _, _, ho, _⟩ := T2; ⟨o, ho⟩) (setSO_ok T2)
    rw [upd_upd, ← setT_next lt] at I2
    obtain ⟨o, ho, r⟩ := pos1
    exact wpAny_pure ⟨plainId_quiet PyProof.Rows.F.plain_set_update_loop _, ih (i + 1) _ (by omega) I2 ⟨o, (same2.2 it two).trans ho, r⟩⟩
end
def rSetL (P : Program) (w : World) (K : PySem.W.Frag) : List V → Hp → VK → Prop := fun vs H Q => ∃ (l : Addr) (xs : List Str), vs = [.ref l] ∧ SqL K H l (xs.map V.str) ∧ xs.length < 64 ∧ ∀ a, H a = none → Q (.ref a) (upd H a (SetSO P w a (setT xs)))
section
variable {P : Program} {w : World} {A : Around} {E : Value → Shared → Prop} {s : Shared}
/-- set(v): a new set, then its __init__ -/
theorem called1 {v : Value} {Q : Value → Shared → Prop} (k : ∀ u, u = { s with heap := s.heap.push { cls := .type "set", dict := none, data := .set #[] 0 (.fresh 0 0 (!w.params.followText "set-order")) } } → wpAny (model P w) A.in1.in1 (Builtin.«set.__init__» ⟨[.ref s.heap.objs.size, v], []⟩) (fun fin s' => match fin with | .done f => wants (fun r s₂ => r = .none ∧ Q (.ref s.heap.objs.size) s₂) E (.ok f) s' | .again c => c.quiet = true ∧ codeAny (model P w) A.in1 c (wants (fun r s₂ => r = .none ∧ Q (.ref s.heap.objs.size) s₂) E) s') (fun e s' => wants (fun r s₂ => r = .none ∧ Q (.ref s.heap.objs.size) s₂) E (.error e) s') u) :
    wpAny (model P w) A (call (.type "set") [v]) Q E s := by
  have ft := PySem.F.called_set
  have tc := PySem.F.typeCall_set_1 v
  have f1 := ft.made
  have f2 := ft.sub
  have f3 := ft.notType
  have f4 := ft.canCreate
  obtain ⟨_, _, f5⟩ := ft.mro
  refine wpAny_call (codeAny_of_tree (wpAny_pure ⟨Code.quiet_builtin _ (by decide +kernel), codeAny_builtin PySem.F.entry_type_call ?_⟩))
  have plain : A.under (.builtin "type.__call__" ⟨[.type "set", v], []⟩) = A.in1 := Around.under_plain (weight_type_call_type "set" [v] []) rfl
  rw [plain]
  wp_walk
  refine codeAny_mono (born (E := E) (Q := fun o u => o = .ref s.heap.objs.size ∧ u = { s with heap := s.heap.push { cls := .type "set", dict := none, data := .set #[] 0 (.fresh 0 0 (!w.params.followText "set-order")) } }) ⟨rfl, rfl⟩) fun r u got => ?_
  match r, got with
  | .error _, got => exact got
  | .ok .next, got => exact got.elim
  | .ok .brk, got => exact got.elim
  | .ok .cont, got => exact got.elim
  | .ok (.ret _), got =>
    obtain ⟨rfl, rfl⟩ := got
    have is_set : Shared.TypeIs { s with heap := s.heap.push { cls := .type "set", dict := none, data := .set #[] 0 (.fresh 0 0 (!w.params.followText "set-order")) } } (.ref s.heap.objs.size) "set" := ⟨_, Heap.get?_push_size _ rfl, rfl⟩
    have f6 := ft.init.lookup
    have f7 := ft.init.bind (.ref s.heap.objs.size)
    wp_walk
    refine codeAny_mono (codeAny_call_builtin (R := wants (fun r s₂ => r = .none ∧ Q (.ref s.heap.objs.size) s₂) E) ft.init.plain PySem.F.entry_set_init (check_set_init_1 is_set (k _ rfl))) fun r2 u2 got2 => ?_
    match r2, got2 with
    | .error _, got2 => exact got2
    | .ok .next, got2 => exact got2.elim
    | .ok .brk, got2 => exact got2.elim
    | .ok .cont, got2 => exact got2.elim
    | .ok (.ret _), got2 =>
      obtain ⟨rfl, last⟩ := got2
      wp_walk
      exact last
theorem filled {q l : Addr} {led : Bool} {Q : Fin → Shared → Prop} (new : s.heap.get? q = some { cls := .type "set", dict := none, data := .set #[] 0 (.fresh 0 0 led) })
    (k : wpAny (model P w) A (Builtin.Frozenset.updateFrom "set.__init__" q (.ref l)) (fun _ s' => Q (.done (.ret .none)) s') E s) : wpAny (model P w) A (Builtin.«set.__init__» ⟨[.ref q, .ref l], []⟩) Q E s := by
  unfold Builtin.«set.__init__» noKeywords
  generalize eU : Builtin.Frozenset.updateFrom = U at k ⊢
  wp_walk
  exact wpAny_mono k (fun _ _ z => wpAny_pure z) fun _ _ z => z
theorem from_list {q l : Addr} {us : Array Value} {Q : Unit → Shared → Prop} (pl : s.heap.IsList l us)
    (k : wpAny (model P w) A (pyIter (.ref l)) (fun it s1 => codeAny (model P w) A (.builtin "set.update.loop" ⟨[.ref q, it], []⟩) (fun r s' => match r with | .ok (.ret _) => Q () s' | .ok _ => False | .error e => E e s') s1) E s) :
    wpAny (model P w) A (Builtin.Frozenset.updateFrom "set.__init__" q (.ref l)) Q E s := by
  have T : s.TypeIs (.ref l) "list" := let ⟨o, ho, hc, _⟩ := pl; ⟨o, ho, hc⟩
  have n1 := PySem.F.sub_list_set
  have n2 := PySem.F.sub_list_frozenset
  have n3 : (Value.type "list" == Value.type "dict") = false := rfl
  obtain ⟨⟨_, dt, _, sl⟩, ho, rfl, c, rfl⟩ := pl
  unfold Builtin.Frozenset.updateFrom
  generalize pyIter = U at k ⊢
  wp_walk
  exact wpAny_mono k (fun it s1 z => wpAny_bind (wpAny_runValue (codeAny_mono z fun r s' y => by cases r with | error e => exact y | ok f => cases f <;> first | exact wpAny_pure y | exact y))) fun _ _ z => z
end
theorem cr_setL {X : Cx} (calm : X.calm = true) : CallR X (.type "set") (rSetL X.prog X.w X.K) := by
  intro pins s σ H vs us Q I args want
  obtain ⟨l, xs, rfl, sq, few, want⟩ := want
  rw [Vals.ref1 args]
  refine called1 ?_
  rintro _ rfl
  have free : H s.heap.objs.size = none := I.hok.fresh (Nat.le_refl _)
  have I1 : Inv X pins σ (upd H s.heap.objs.size (SetSO X.prog X.w s.heap.objs.size [])) { s with heap := s.heap.push { cls := .type "set", dict := none, data := .set #[] 0 (.fresh 0 0 (!X.w.params.followText "set-order")) } } :=
    I.laid (t' := s.toks) (fun b o e => Heap.get?_push_of_some _ e) (Nat.le_refl _) (setSO_ok SetS.fresh)
  have there := Heap.get?_push_size s.heap (o := { cls := .type "set", dict := none, data := .set #[] 0 (.fresh 0 0 (!X.w.params.followText "set-order")) }) rfl
  refine filled there ?_
  obtain ⟨us0, _, pl0, _⟩ := I.list sq
  have apart : l ≠ s.heap.objs.size := by
    obtain ⟨o, ho, _⟩ := pl0.isList
    exact Nat.ne_of_lt (Heap.lt_size ho)
  have sq1 : ∀ ks, SqL X.K (upd H s.heap.objs.size (SetSO X.prog X.w s.heap.objs.size ks)) l (xs.map V.str) := fun ks => by
    rcases sq with e | e
    · rcases e with e | ⟨o, e⟩
      · exact Or.inl (Or.inl ((upd_ne apart).trans e))
      · exact Or.inl (Or.inr ⟨o, (upd_ne apart).trans e⟩)
    · exact Or.inr e
  obtain ⟨us, vals, pl, _⟩ := I1.list (sq1 [])
  refine from_list pl.isList (wpAny_pyIter_list pl.isList ?_)
  have two : s.heap.objs.size + 1 ≠ s.heap.objs.size := Nat.succ_ne_self _
  have sz : (s.heap.push { cls := .type "set", dict := none, data := .set #[] 0 (.fresh 0 0 (!X.w.params.followText "set-order")) }).objs.size = s.heap.objs.size + 1 := Heap.size_push ..
  have fp : ∀ ks, FpOk X pins (upd H s.heap.objs.size (SetSO X.prog X.w s.heap.objs.size ks)) (s.heap.objs.size + 1) := fun ks => I.fpOk (Nat.le_succ _) (by rw [upd_ne two]; exact I.hok.fresh (Nat.le_succ _))
  refine gather (A1 := X.A.in1.in1) (it := _) (xs := xs) (show X.A.in1.in1.in1.handled = none from I.ok.hd calm) (by rw [sz]; exact two) few sq1 (by rw [sz]; exact fp) (fun s2 I2 => ⟨rfl, .ref s.heap.objs.size, _, I2, rfl, want _ free⟩) xs.length 0 _ (by omega) (I1.kept (t' := s.toks) fun b o e => Heap.get?_push_of_some _ e) ⟨_, Heap.get?_push_size _ rfl, rfl, rfl⟩
end TxS

set_option Elab.async false
set_option maxRecDepth 100000
set_option maxHeartbeats 4000000
set_option linter.all false
/-! the mirror layer: sorted(set(texts)); x in an instance -/
namespace Md
open PySem PySem.Spec PyProof.Rows L2 TxS
def sortSetD (x : D) (s : Sto) : Out D := match vw x s with
  | .lst ys => match strsD ys with
    | some ks => if ks.length < 64 then .ok (.lst ((sortT (setT ks)).map .str)) s else .bad
    | none => .bad
  | _ => .bad
section
variable {X : Cx} {K : PySem.W.Frag} {Γ : Nat → Addr} {W : WX} {a : Expr} {ta : TE} {φ : FE}
theorem de_sortSet {p p2 q pos : Pos} (hc : X.calm = true) (hg : L2.Gl X "sorted") (hm : X.mg "sorted" = none) (hg2 : L2.Gl X "set") (hm2 : X.mg "set" = none) (ha : DE X K Γ W a ta φ) (hK : X.K = K := by rfl)
    (na : starEach [a] X.env = (false, eval a X.env) :: starEach [] X.env := by rfl) : DE X K Γ W (.Call (.Name "sorted" p) [.Call (.Name "set" p2) [a] [] q] [] pos) (tCB (rSortTx X.prog X.w) (tCons (tCB (rSetL X.prog X.w K) (tCons ta tNil)) tNil)) (bindX φ fun _ => sortSetD) := by
  subst hK
  refine ⟨pe_callB (cr_sortTx hc) hg hm (by decide +kernel) (pa_cons (pe_callTy (cr_setL hc) hg2 hm2 (by decide +kernel) (pa_cons ha.pe pa_nil na) (by decide) (by decide) na (by rfl)) pa_nil) (by decide) (by decide) (by rfl) (by rfl), fun σ H Q G F ι s ds hs hr hp => ha.gd.step hs hr hp fun x s1 v H1 F1 ι1 x1 r1 q1 hs1 hp1 => ?_⟩
  try dsimp only at hp1
  unfold sortSetD at hp1
  split at hp1
  · rename_i ys ev
    split at hp1
    · rename_i ks ek
      split at hp1
      · rename_i hf
        obtain ⟨b, us, rfl, hl, g⟩ := r1.view q1 (view_lst ev)
        have eu := strs_rp g ek
        subst eu
        refine ⟨b, ks, rfl, SqL.of hl, hf, fun p np => ⟨p, setT ks, rfl, upd_same, Nat.lt_of_le_of_lt (by have := setT_take ks ks.length; rw [List.take_length] at this; exact this) hf, fun zs l hz so nl => ?_⟩⟩
        rw [sorted_is hz so]
        obtain ⟨r3, x3⟩ := (r1.junk (o := SetSO X.prog X.w p (setT ks)) np).new (o := .lst ((sortT (setT ks)).map V.str)) nl
        exact hp1 _ _ _ _ x3 r3 (.lst upd_same (rp_strs _ _))
      · exact hp1.elim
    · exact hp1.elim
  · exact hp1.elim
end
/-! ### x in o, o with its own __contains__ -/
def rInOwn (C : Addr) (sp : Sp) (k : Bool → Bool) : R2 := fun x y H Q => ∃ a dx vs, y = .ref a ∧ SlX.Slt H a C dx vs ∧ sp [.ref a, x] H (fun z H' => ∃ b, z = .bl b ∧ Q (.bl (k b)) H') E0
def inOwn (c : Nat) (m : Fn) (k : Bool → Bool) (x y : D) (s : Sto) : Out D :=
  if clsD y s = some c then
    match m [y, x] s with
    | .ok (.bl b) s' => .ok (.bl (k b)) s'
    | _ => .bad
  else .bad
section
variable {X : Cx} {K : PySem.W.Frag} {Γ : Nat → Addr} {sp : Sp} {g : Addr} {n c : Nat} {m : Fn}
theorem op_inOwn (hm : Meth X.K (Γ c) "__contains__" g) (F : FnR X.prog X.w X.K X.mg X.base (L2.CX X.prog X.w) n g sp) (hr : Room n X.A) : OpR X (compareOp .In) (rInOwn (Γ c) sp id) := by
  intro pins s σ H x y v u Q I rx ry h
  obtain ⟨a, dx, vs, rfl, ha, q⟩ := h
  cases (show u = Value.ref a from ry)
  obtain ⟨_, _, _, J, _⟩ := SlX.slt_inst I ha
  obtain ⟨m, hF⟩ := I.fr
  refine PySem.W.in_K hF I.ok.mod.kin J hm.at_ hm.fn ?_
  refine wpAny_mono (wpAny_call (run_fnR (us := [.ref a, v]) (vs := [.ref a, x]) F hr passL I (.cons rfl (.cons rx .nil)) q)) ?_ fun _ _ x => x
  rintro w s' ⟨z, H', I', rz, b, rfl, qz⟩
  cases (show w = Value.bool b from rz)
  exact wpAny_truthy_bool ⟨.bl b, H', I', rfl, qz⟩
theorem op_ninOwn (hm : Meth X.K (Γ c) "__contains__" g) (F : FnR X.prog X.w X.K X.mg X.base (L2.CX X.prog X.w) n g sp) (hr : Room n X.A) : OpR X (compareOp .NotIn) (rInOwn (Γ c) sp not) := by
  intro pins s σ H x y v u Q I rx ry h
  obtain ⟨a, dx, vs, rfl, ha, q⟩ := h
  cases (show u = Value.ref a from ry)
  obtain ⟨_, _, _, J, _⟩ := SlX.slt_inst I ha
  obtain ⟨m, hF⟩ := I.fr
  refine PySem.W.notIn_K hF I.ok.mod.kin J hm.at_ hm.fn ?_
  refine wpAny_mono (wpAny_call (run_fnR (us := [.ref a, v]) (vs := [.ref a, x]) F hr passL I (.cons rfl (.cons rx .nil)) q)) ?_ fun _ _ x => x
  rintro w s' ⟨z, H', I', rz, b, rfl, qz⟩
  cases (show w = Value.bool b from rz)
  exact wpAny_truthy_bool ⟨.bl (!b), H', I', rfl, qz⟩
theorem og_inOwn {k : Bool → Bool} : OpG K Γ (rInOwn (Γ c) (spD K Γ m) k) (inOwn c m k) := by
  intro W σ H Q G F ι s x y v u r h1 h2 hp
  unfold inOwn at hp
  split at hp
  · rename_i h
    obtain ⟨a, dx, ws, rfl, sl⟩ := cls_rp r h2 h
    refine ⟨a, dx, ws, rfl, sl, G, F, ι, s, [y, x], .cons h2 (.cons h1 .nil), r, ?_⟩
    split at hp
    · rename_i b s' e
      rw [e]
      intro v' H' F' ι' x' r' q'
      cases q'
      exact ⟨b, rfl, hp _ H' F' ι' x' r' (.bl _)⟩
    · exact hp.elim
  · exact hp.elim
end
end Md

set_option Elab.async false
set_option maxRecDepth 100000
set_option maxHeartbeats 4000000
set_option linter.all false
/-! the mirror layer: evaluation lemmas of Md21 and Md23 -/
namespace Md
open PySem PySem.Spec PyProof.Rows L2 TxS
section
variable {ds : DSt} {s : Sto}
theorem e_intA {i : Int} : intA [.int i] s = .ok (.int i) s := rfl
theorem e_intAb {b : Bool} : intA [.bl b] s = .ok (.int (if b then 1 else 0)) s := rfl
def inO (k : Bool → Bool) (o : Out D) : Out D := match o with
  | .ok (.bl b) s' => .ok (.bl (k b)) s'
  | _ => .bad
theorem e_inOwn {n : Nat} {m : Fn} {k : Bool → Bool} {f : List D} {x : D} : inOwn n m k x (.ins n f) s = inO k (m [.ins n f, x] s) := by
  unfold inOwn inO
  simp only [clsD, if_true] <;> (cases m [.ins n f, x] s <;> first | rfl | (rename_i x _; cases x <;> rfl))
theorem e_inO {k : Bool → Bool} {b : Bool} : inO k (.ok (.bl b) s) = .ok (.bl (k b)) s := rfl
theorem listOwn_eq {n : Nat} {mi ml : Fn} {f ys : List D} {k : Nat} (h1 : mi [.ins n f] s = .ok (.tup ys) s) (h2 : ml [.ins n f] s = .ok (.int (k : Int)) s) (hk : k ≤ 100000) : listOwn n mi ml [.ins n f] s = .ok (.lst ys) s := by
  unfold listOwn
  simp only [clsD, if_true, h1, h2]
  rw [if_pos]
  rw [Bool.and_eq_true, decide_eq_true_eq, decide_eq_true_eq]
  omega
theorem sortSet_eq {ys : List D} {zs : List Str} (h : strsD ys = some zs) (hz : zs.length < 64) : sortSetD (.lst ys) s = .ok (.lst ((sortT (setT zs)).map .str)) s := by
  simp only [sortSetD, vw, h, hz, if_true]
theorem strs_map {α : Type} (f : α → Str) : ∀ l : List α, strsD (l.map fun a => D.str (f a)) = some (l.map f)
  | [] => rfl
  | a :: r => by
    show (strsD (r.map fun a => D.str (f a))).map (f a :: ·) = _
    rw [strs_map f r]
    rfl
theorem fmt_str {y : Str} (h : y.length ≤ 100000) : fmtD (.str y) s = .ok (.str y) s := if_pos (Nat.le_trans h (by decide +kernel))
def evThree := And.intro @e_intA (And.intro @e_intAb (And.intro @e_inOwn @e_inO))
end
end Md

set_option Elab.async false
set_option maxRecDepth 100000
set_option maxHeartbeats 4000000
set_option linter.all false
/-! t.index(x) of a tuple of any data -/
namespace Md
open PySem PySem.Spec PyProof.Rows L2
def rIdxT (K : PySem.W.Frag) : V → List V → Hp → VK → Prop := fun x args H Q =>
  ∃ (a : Addr) (y : V) (xs : List V) (q : PyData) (qs : List PyData) (j : Nat), x = .ref a ∧ args = [y] ∧ SqT K H a xs ∧ DpAll K H xs qs ∧ Dp K H y q ∧ (SeqAt.shaped (.tuple qs) && SeqAt.shaped q) = true ∧ idxP qs q = some j ∧ Q (.int (j : Nat)) H
theorem idx_bools {q : PyData} : ∀ {qs : List PyData} {j : Nat}, idxP qs q = some j → (qs.map fun z => PyData.eqv z q).idxOf true = j ∧ true ∈ (qs.map fun z => PyData.eqv z q)
  | [], _, e => by cases e
  | z :: r, j, e => by
    unfold idxP at e
    rw [List.map_cons]
    cases hz : PyData.eqv z q with
    | true =>
      rw [hz] at e
      cases e
      exact ⟨by simp [List.idxOf_cons], List.mem_cons_self ..⟩
    | false =>
      rw [hz] at e
      cases er : idxP r q with
      | none => rw [er] at e; cases e
      | some i =>
        rw [er] at e
        cases e
        obtain ⟨h1, h2⟩ := idx_bools er
        refine ⟨?_, List.mem_cons_of_mem _ h2⟩
        rw [List.idxOf_cons, h1]
        rfl
section
variable {X : Cx} {K : PySem.W.Frag} {Γ : Nat → Addr}
theorem mt_idxT {k : Nat} (hr : Room k X.A) (hK : X.K = K := by rfl) : MtR X "tuple.index" (rIdxT K) := by
  subst hK
  intro pins s σ H x args v us Q I rx rargs h
  obtain ⟨a, y, xs, q, qs, j, rfl, rfl, hq, hqs, hy, sh, hj, fin⟩ := h
  rw [Bool.and_eq_true] at sh
  obtain rfl : v = Value.ref a := rx
  obtain ⟨u, rfl, ru⟩ := vals1 rargs
  obtain ⟨its, rv, isT, _⟩ := I.tuple hq
  obtain ⟨as, r1⟩ := Dp.readsAll I qs xs its hqs rv
  obtain ⟨bs, r2⟩ := Dp.reads I q y u hy ru
  have lay : PyData.canLayAll0 qs = true := by
    have := SeqAt.canLay_of_shaped sh.1
    rwa [PyData.canLay0] at this
  have eqs := SeqAt.items_eqAt (A := X.A) (vs := its.toArray) r1 r2 lay (SeqAt.canLay_of_shaped sh.2) (room_in_shaped sh.2 (Gl.in_room hr))
  have same := SeqAt.readsAll_map qs its as lay r1
  have many : its.length = (qs.map fun z => PyData.eqv z q).length := by rw [List.length_map, ← same, List.length_map]
  obtain ⟨at_, mem⟩ := idx_bools hj
  refine SeqAt.call_tuple_index (ks := qs.map fun z => PyData.eqv z q) (k := true) isT ⟨many, fun i h1 h2 => ?_⟩ mem ?_
  · have e := eqs its[i] (by simp)
    have : (qs.map fun z => PyData.eqv z q)[i] = PyData.eqv (SeqAt.readOf s.heap its[i]) q := by
      simp only [← same, List.map_map, List.getElem_map, Function.comp]
    rw [this]
    cases h : PyData.eqv (SeqAt.readOf s.heap its[i]) q with
    | true => rw [h] at e; exact e
    | false => rw [h] at e; exact e
  · rw [at_]
    exact ⟨.int (j : Nat), H, I.tok _, ⟨_, rfl⟩, fin⟩
/-- x.index(y) of a written tuple -/
def idxTM (x : D) (args : List D) (s : Sto) : Out D := match x, args with
  | .ktp xs, [d] => match pyA xs, (vw d s).py with
    | some ps, some q => if (SeqAt.shaped (.tuple ps) && SeqAt.shaped q) = true then match idxP ps q with
        | some j => .ok (.int (j : Nat)) s
        | none => .bad
      else .bad
    | _, _ => .bad
  | _, _ => .bad
theorem mg_idxT : MtG K Γ "tuple" (rIdxT K) idxTM := by
  intro W σ H Q G F ι s x v xs vs r gx gv hp
  unfold idxTM at hp
  split at hp
  · rename_i ys d
    obtain ⟨w, rfl, gw⟩ := one_rp gv
    split at hp
    · rename_i ps q e1 e2
      split at hp
      · rename_i hc
        split at hp
        · rename_i j ej
          have p2 := r.viewP gw e2
          cases gx with
          | ktp k h g => exact ⟨_, w, _, q, ps, j, rfl, rfl, Gl.sqTS r.sub h, g.dp r.sub e1, p2, hc, ej, hp _ _ _ _ Ext.refl r (.int _)⟩
        · exact hp.elim
      · exact hp.elim
    · exact hp.elim
  · exact hp.elim
def isT (x : D) (_ : Sto) : Bool := match x with
  | .ktp _ => true
  | _ => false
theorem ty_T : TyG K Γ "tuple" isT := by
  intro H G F ι s x v r h e
  cases x <;> first | (cases e; done) | skip
  cases h with
  | ktp k _ _ => exact Or.inr (Or.inl ⟨rfl, k⟩)
/-- a written tuple as a tuple -/
def unkD (x : D) (s : Sto) : Out D := match x with
  | .ktp xs => .ok (.tup xs) s
  | x => .ok x s
theorem de_unk {W : WX} {e : Expr} {te : TE} {φ : FE} (h : DE X K Γ W e te φ) : DE X K Γ W e te (bindX φ fun _ => unkD) := by
  refine ⟨h.pe, fun σ H Q G F ι s ds hs hr hp => h.gd.step hs hr hp fun x s1 v H1 F1 ι1 x1 r1 q1 hs1 hp1 => ?_⟩
  cases q1 with
  | ktp k t g => exact hp1 _ _ _ _ Ext.refl r1 (.tup t g)
  | non => exact hp1 _ _ _ _ Ext.refl r1 .non
  | bl b => exact hp1 _ _ _ _ Ext.refl r1 (.bl b)
  | int i => exact hp1 _ _ _ _ Ext.refl r1 (.int i)
  | str z => exact hp1 _ _ _ _ Ext.refl r1 (.str z)
  | lst h g => exact hp1 _ _ _ _ Ext.refl r1 (.lst h g)
  | scr h => exact hp1 _ _ _ _ Ext.refl r1 (.scr h)
  | tup h g => exact hp1 _ _ _ _ Ext.refl r1 (.tup h g)
  | dK h g => exact hp1 _ _ _ _ Ext.refl r1 (.dK h g)
  | ins h k g => exact hp1 _ _ _ _ Ext.refl r1 (.ins h k g)
  | raw v => exact hp1 _ _ _ _ Ext.refl r1 (.raw v)
  | cell e => exact hp1 _ _ _ _ Ext.refl r1 (.cell e)
/-- str(an int or a text) -/
def strA (xs : List D) (s : Sto) : Out D := match xs with
  | [.str z] => .ok (.str z) s
  | xs => strD xs s
def rStrA : List V → Hp → VK → Prop := fun xs H Q => (∃ i, xs = [.int i] ∧ i.natAbs.log2 < 1920 ∧ Q (.str (toString i)) H) ∨ ∃ z, xs = [.str z] ∧ Q (.str z) H
theorem call_strA : CallR X (.type "str") rStrA := fun pins s σ H xs us Q I r h => h.elim (call_str_int pins s σ H xs us Q I r) (SkE.call_str_str pins s σ H xs us Q I r)
theorem cg_strA : CallG K Γ rStrA strA := by
  intro W σ H Q G F ι s xs vs r g hp
  unfold strA at hp
  split at hp
  · obtain ⟨v, rfl, gx⟩ := one_rp g
    cases gx
    exact Or.inr ⟨_, rfl, hp _ _ _ _ Ext.refl r (.str _)⟩
  · exact Or.inl (cg_str W σ H Q G F ι s _ vs r g hp)
end
end Md

set_option Elab.async false
set_option maxRecDepth 100000
set_option maxHeartbeats 4000000
set_option linter.all false
/-! the mirror layer: evaluation lemmas of Md24 -/
namespace Md
open PySem PySem.Spec PyProof.Rows L2 TxS
section
variable {ds : DSt} {s : Sto}
theorem e_unk_k {xs : List D} : unkD (.ktp xs) s = .ok (.tup xs) s := rfl
theorem e_unk_t {xs : List D} : unkD (.tup xs) s = .ok (.tup xs) s := rfl
theorem e_unk_l {xs : List D} : unkD (.lst xs) s = .ok (.lst xs) s := rfl
theorem e_isT {xs : List D} : isT (.ktp xs) s = true := rfl
theorem e_strA_s {z : Str} : strA [.str z] s = .ok (.str z) s := rfl
theorem e_strA_i {i : Int} : strA [.int i] s = strD [.int i] s := rfl
def evFour := And.intro @e_unk_k (And.intro @e_unk_t (And.intro @e_unk_l (And.intro @e_isT (And.intro @e_strA_s @e_strA_i))))
end
end Md

set_option Elab.async false
set_option maxRecDepth 100000
set_option maxHeartbeats 4000000
set_option linter.all false
/-! rows of steps, their points: no program in sight -/
namespace Pl
open PySem Md TxS
abbrev Steps := List (Str × Int)
abbrev Pt := Int × Int
def stD (p : Str × Int) : D := .tup [.str p.1, .int p.2]
def ptD (p : Pt) : D := .tup [.int p.1, .int p.2]
def stp (tri : Bool) (p : Pt) (t : Int) : Pt := (p.1 + uX tri t, p.2 + uY tri t)
/-- where the steps begin -/
def pts (tri : Bool) : Pt → Steps → List Pt
  | _, [] => []
  | p, x :: r => p :: pts tri (stp tri p x.2) r
def fin (tri : Bool) : Pt → Steps → Pt
  | p, [] => p
  | p, x :: r => fin tri (stp tri p x.2) r
def addP (p q : Pt) : Pt := (p.1 + q.1, p.2 + q.2)
def O : Pt := (0, 0)
def letB (z : Str) : Bool := decide (z.length = 1) && !(Builtin.Str.occurrences (Str.ofString "abcdefghijklmnopqrstuvwxyz") z 0 (Str.ofString "abcdefghijklmnopqrstuvwxyz").length 1).isEmpty
structure Let (z : Str) : Prop where
  is : letB z = true
  ok : PyData.strOk z = true
structure OkR (tri : Bool) (r : Steps) : Prop where
  lt : ∀ p ∈ r, Let p.1
  lo : ∀ p ∈ r, 0 ≤ p.2
  hi : ∀ p ∈ r, p.2 < nUn tri
section
variable {tri : Bool}
theorem OkR.app {a b : Steps} (h : OkR tri a) (g : OkR tri b) : OkR tri (a ++ b) :=
  ⟨fun p hp => (List.mem_append.mp hp).elim (h.lt p) (g.lt p), fun p hp => (List.mem_append.mp hp).elim (h.lo p) (g.lo p), fun p hp => (List.mem_append.mp hp).elim (h.hi p) (g.hi p)⟩
theorem OkR.rev {a : Steps} (h : OkR tri a) : OkR tri a.reverse :=
  ⟨fun p hp => h.lt p (List.mem_reverse.mp hp), fun p hp => h.lo p (List.mem_reverse.mp hp), fun p hp => h.hi p (List.mem_reverse.mp hp)⟩
theorem OkR.mapT {a : Steps} (h : OkR tri a) (f : Int → Int) (hf : ∀ t, 0 ≤ t → t < nUn tri → 0 ≤ f t ∧ f t < nUn tri) : OkR tri (a.map fun p => (p.1, f p.2)) := by
  refine ⟨fun p hp => ?_, fun p hp => ?_, fun p hp => ?_⟩ <;> obtain ⟨q, hq, rfl⟩ := List.mem_map.mp hp
  · exact h.lt q hq
  · exact (hf q.2 (h.lo q hq) (h.hi q hq)).1
  · exact (hf q.2 (h.lo q hq) (h.hi q hq)).2
theorem OkR.mapL {a : Steps} (h : OkR tri a) (f : Str → Str) (hf : ∀ p ∈ a, Let (f p.1)) : OkR tri (a.map fun p => (f p.1, p.2)) := by
  refine ⟨fun p hp => ?_, fun p hp => ?_, fun p hp => ?_⟩ <;> obtain ⟨q, hq, rfl⟩ := List.mem_map.mp hp
  · exact hf q hq
  · exact h.lo q hq
  · exact h.hi q hq
theorem pts_len : ∀ (p : Pt) (r : Steps), (pts tri p r).length = r.length
  | _, [] => rfl
  | p, x :: r => congrArg (· + 1) (pts_len _ r)
theorem pts_app : ∀ (p : Pt) (a b : Steps), pts tri p (a ++ b) = pts tri p a ++ pts tri (fin tri p a) b
  | _, [], _ => rfl
  | p, x :: a, b => congrArg (p :: ·) (pts_app _ a b)
theorem fin_app : ∀ (p : Pt) (a b : Steps), fin tri p (a ++ b) = fin tri (fin tri p a) b
  | _, [], _ => rfl
  | p, x :: a, b => fin_app _ a b
theorem stp_add (p q : Pt) (t : Int) : stp tri (addP p q) t = addP p (stp tri q t) := by
  unfold stp addP
  simp only [Int.add_assoc]
theorem pts_add : ∀ (p q : Pt) (r : Steps), pts tri (addP p q) r = (pts tri q r).map (addP p)
  | _, _, [] => rfl
  | p, q, x :: r => by
    show addP p q :: pts tri (stp tri (addP p q) x.2) r = _
    rw [stp_add, pts_add p _ r]
    rfl
theorem fin_add : ∀ (p q : Pt) (r : Steps), fin tri (addP p q) r = addP p (fin tri q r)
  | _, _, [] => rfl
  | p, q, x :: r => by
    show fin tri (stp tri (addP p q) x.2) r = _
    rw [stp_add, fin_add p _ r]
    rfl
theorem add_O (p : Pt) : addP p O = p := by
  unfold addP O
  simp
theorem O_add (p : Pt) : addP O p = p := by
  unfold addP O
  simp
theorem pts_O (p : Pt) (r : Steps) : pts tri p r = (pts tri O r).map (addP p) := by
  rw [← pts_add, add_O]
theorem fin_O (p : Pt) (r : Steps) : fin tri p r = addP p (fin tri O r) := by
  rw [← fin_add, add_O]
/-- a change of points that goes with a change of steps -/
theorem pts_map {tri' : Bool} (f : Pt → Pt) (g : Int → Int) : ∀ (r : Steps) (p : Pt), (∀ x ∈ r, ∀ q, f (stp tri q x.2) = stp tri' (f q) (g x.2)) → pts tri' (f p) (r.map fun x => (x.1, g x.2)) = (pts tri p r).map f ∧ fin tri' (f p) (r.map fun x => (x.1, g x.2)) = f (fin tri p r)
  | [], p, _ => ⟨rfl, rfl⟩
  | x :: r, p, h => by
    have ih := pts_map f g r (stp tri p x.2) fun y hy => h y (List.mem_cons_of_mem _ hy)
    rw [h x (List.mem_cons_self ..)] at ih
    exact ⟨congrArg (f p :: ·) ih.1, ih.2⟩
theorem pts_ren (f : Str → Str) : ∀ (r : Steps) (p : Pt), pts tri p (r.map fun x => (f x.1, x.2)) = pts tri p r ∧ fin tri p (r.map fun x => (f x.1, x.2)) = fin tri p r
  | [], _ => ⟨rfl, rfl⟩
  | x :: r, p => ⟨congrArg (p :: ·) (pts_ren f r _).1, (pts_ren f r _).2⟩
theorem mod_of {t : Int} (h0 : 0 ≤ t) (h1 : t < nUn tri) : t % nUn tri = t := Int.emod_eq_of_lt h0 h1
/-- turned -/
def trn (tri : Bool) (d : Int) (r : Steps) : Steps := r.map fun x => (x.1, (x.2 + d) % nUn tri)
def rot (tri : Bool) (d : Int) (p : Pt) : Pt := (mulX p.1 p.2 (uX tri d) (uY tri d), mulY tri p.1 p.2 (uX tri d) (uY tri d))
theorem rot_stp {d t : Int} (hd : 0 ≤ d) (hd1 : d < nUn tri) (ht : 0 ≤ t) (ht1 : t < nUn tri) (q : Pt) : rot tri d (stp tri q t) = stp tri (rot tri d q) ((t + d) % nUn tri) := by
  have h := u_add tri t d
  rw [mod_of ht ht1, mod_of hd hd1] at h
  have k := dist tri q.1 q.2 (uX tri t) (uY tri t) (uX tri d) (uY tri d)
  unfold rot stp
  rw [k.1, k.2, h.1, h.2]
theorem pts_trn {d : Int} (hd : 0 ≤ d) (hd1 : d < nUn tri) {r : Steps} (h : OkR tri r) : pts tri O (trn tri d r) = (pts tri O r).map (rot tri d) ∧ fin tri O (trn tri d r) = rot tri d (fin tri O r) := by
  have e : rot tri d O = O := by
    unfold rot O mulX mulY
    simp
  have := pts_map (tri := tri) (tri' := tri) (rot tri d) (fun t => (t + d) % nUn tri) r O fun x hx q => rot_stp hd hd1 (h.lo x hx) (h.hi x hx) q
  rw [e] at this
  exact this
/-- mirrored -/
def mir (tri : Bool) (r : Steps) : Steps := r.map fun x => (x.1, -x.2 % nUn tri)
def flp (tri : Bool) (p : Pt) : Pt := (flX tri p.1 p.2, -p.2)
theorem flp_stp {t : Int} (ht : 0 ≤ t) (ht1 : t < nUn tri) (q : Pt) : flp tri (stp tri q t) = stp tri (flp tri q) (-t % nUn tri) := by
  have h := u_conj tri t
  rw [mod_of ht ht1, Int.zero_sub] at h
  unfold flp stp
  refine Prod.ext ?_ ?_
  · show flX tri (q.1 + uX tri t) (q.2 + uY tri t) = flX tri q.1 q.2 + uX tri (-t % nUn tri)
    rw [← h.1]
    unfold flX
    cases tri <;> grind
  · show -(q.2 + uY tri t) = -q.2 + uY tri (-t % nUn tri)
    rw [← h.2]
    omega
theorem pts_mir {r : Steps} (h : OkR tri r) : pts tri O (mir tri r) = (pts tri O r).map (flp tri) ∧ fin tri O (mir tri r) = flp tri (fin tri O r) := by
  have e : flp tri O = O := by
    unfold flp O flX
    cases tri <;> rfl
  have := pts_map (tri := tri) (tri' := tri) (flp tri) (fun t => -t % nUn tri) r O fun x hx q => flp_stp (h.lo x hx) (h.hi x hx) q
  rw [e] at this
  exact this
theorem mir_in (t : Int) : 0 ≤ -t % nUn tri ∧ -t % nUn tri < nUn tri := mod_in tri (-t)
theorem mir2 {r : Steps} (h : OkR tri r) : mir tri (mir tri r) = r := by
  unfold mir
  rw [List.map_map]
  have : ∀ x ∈ r, ((fun x : Str × Int => (x.1, -x.2 % nUn tri)) ∘ fun x : Str × Int => (x.1, -x.2 % nUn tri)) x = x := fun x hx => by
    have h0 := h.lo x hx
    have h1 := h.hi x hx
    show (x.1, -(-x.2 % nUn tri) % nUn tri) = x
    have : -(-x.2 % nUn tri) % nUn tri = x.2 := by
      unfold nUn at *
      cases tri
      · simp only [Bool.false_eq_true, if_false] at *
        omega
      · simp only [if_true] at *
        omega
    rw [this]
  rw [List.map_congr_left this, List.map_id']
theorem mir_rev (r : Steps) : mir tri r.reverse = (mir tri r).reverse := by
  unfold mir
  rw [List.map_reverse]
theorem mir_app (a b : Steps) : mir tri (a ++ b) = mir tri a ++ mir tri b := List.map_append ..
theorem trn_app (d : Int) (a b : Steps) : trn tri d (a ++ b) = trn tri d a ++ trn tri d b := List.map_append ..
theorem OkR.mir {r : Steps} (h : OkR tri r) : OkR tri (mir tri r) := h.mapT (fun t => -t % nUn tri) fun t _ _ => mir_in t
theorem OkR.trn {r : Steps} (h : OkR tri r) (d : Int) : OkR tri (trn tri d r) := h.mapT (fun t => (t + d) % nUn tri) fun t _ _ => mod_in tri (t + d)
/-- backward -/
def subP (p q : Pt) : Pt := (p.1 - q.1, p.2 - q.2)
theorem fin_rev : ∀ r : Steps, fin tri O r.reverse = fin tri O r
  | [] => rfl
  | x :: r => by
    rw [List.reverse_cons, fin_app, fin_rev r]
    show stp tri (fin tri O r) x.2 = fin tri (stp tri O x.2) r
    rw [fin_O (stp tri O x.2) r]
    unfold stp addP O
    refine Prod.ext ?_ ?_
    · show (fin tri (0, 0) r).1 + uX tri x.2 = 0 + uX tri x.2 + (fin tri (0, 0) r).1
      omega
    · show (fin tri (0, 0) r).2 + uY tri x.2 = 0 + uY tri x.2 + (fin tri (0, 0) r).2
      omega
/-- all points behind the first one -/
def aft (tri : Bool) : Pt → Steps → List Pt
  | _, [] => []
  | p, x :: r => stp tri p x.2 :: aft tri (stp tri p x.2) r
theorem aft_eq : ∀ (p : Pt) (r : Steps), r ≠ [] → aft tri p r = (pts tri p r).tail ++ [fin tri p r]
  | _, [], h => absurd rfl h
  | p, [x], _ => rfl
  | p, x :: y :: r, _ => by
    show stp tri p x.2 :: aft tri (stp tri p x.2) (y :: r) = pts tri (stp tri p x.2) (y :: r) ++ [fin tri (stp tri p x.2) (y :: r)]
    rw [aft_eq _ (y :: r) (by simp)]
    rfl
theorem aft_add : ∀ (p q : Pt) (r : Steps), aft tri (addP p q) r = (aft tri q r).map (addP p)
  | _, _, [] => rfl
  | p, q, x :: r => by
    show stp tri (addP p q) x.2 :: aft tri (stp tri (addP p q) x.2) r = _
    rw [stp_add, aft_add p _ r]
    rfl
theorem pts_rev : ∀ r : Steps, pts tri O r.reverse = (aft tri O r).reverse.map (subP (fin tri O r))
  | [] => rfl
  | x :: r => by
    have ih := pts_rev r
    rw [List.reverse_cons, pts_app, fin_rev, ih]
    show (aft tri O r).reverse.map (subP (fin tri O r)) ++ [fin tri O r] = (stp tri O x.2 :: aft tri (stp tri O x.2) r).reverse.map (subP (fin tri (stp tri O x.2) r))
    rw [List.reverse_cons, List.map_append]
    have e1 : fin tri (stp tri O x.2) r = addP (stp tri O x.2) (fin tri O r) := fin_O _ r
    have e2 : aft tri (stp tri O x.2) r = (aft tri O r).map (addP (stp tri O x.2)) := by rw [← aft_add, add_O]
    rw [e1, e2, ← List.map_reverse, List.map_map]
    have s1 : ∀ u q : Pt, subP (addP u (fin tri O r)) (addP u q) = subP (fin tri O r) q := fun u q => by
      unfold subP addP
      refine Prod.ext ?_ ?_
      · show u.1 + (fin tri O r).1 - (u.1 + q.1) = (fin tri O r).1 - q.1
        omega
      · show u.2 + (fin tri O r).2 - (u.2 + q.2) = (fin tri O r).2 - q.2
        omega
    have s2 : ∀ u : Pt, subP (addP u (fin tri O r)) u = fin tri O r := fun u => by
      unfold subP addP
      refine Prod.ext ?_ ?_
      · show u.1 + (fin tri O r).1 - u.1 = (fin tri O r).1
        omega
      · show u.2 + (fin tri O r).2 - u.2 = (fin tri O r).2
        omega
    have e3 : (subP (addP (stp tri O x.2) (fin tri O r)) ∘ addP (stp tri O x.2)) = subP (fin tri O r) := funext fun q => s1 _ q
    rw [e3]
    show _ = _ ++ [subP (addP (stp tri O x.2) (fin tri O r)) (stp tri O x.2)]
    rw [s2]
end
/-! ### sizes -/
theorem u_abs (tri : Bool) (t : Int) : (uX tri t).natAbs ≤ 1 ∧ (uY tri t).natAbs ≤ 1 := by
  unfold uX uY
  cases tri <;> (constructor <;> (repeat' split) <;> decide)
theorem fin_abs (tri : Bool) : ∀ (r : Steps) (p : Pt), (fin tri p r).1.natAbs ≤ p.1.natAbs + r.length ∧ (fin tri p r).2.natAbs ≤ p.2.natAbs + r.length
  | [], p => ⟨Nat.le_refl _, Nat.le_refl _⟩
  | x :: r, p => by
    have ih := fin_abs tri r (stp tri p x.2)
    have u := u_abs tri x.2
    have h1 : (stp tri p x.2).1 = p.1 + uX tri x.2 := rfl
    have h2 : (stp tri p x.2).2 = p.2 + uY tri x.2 := rfl
    rw [h1, h2] at ih
    show (fin tri (stp tri p x.2) r).1.natAbs ≤ p.1.natAbs + (r.length + 1) ∧ (fin tri (stp tri p x.2) r).2.natAbs ≤ p.2.natAbs + (r.length + 1)
    omega
theorem pts_abs (tri : Bool) : ∀ (r : Steps) (p : Pt), ∀ q ∈ pts tri p r, q.1.natAbs ≤ p.1.natAbs + r.length ∧ q.2.natAbs ≤ p.2.natAbs + r.length
  | [], p, q, h => nomatch h
  | x :: r, p, q, h => by
    have u := u_abs tri x.2
    have h1 : (stp tri p x.2).1 = p.1 + uX tri x.2 := rfl
    have h2 : (stp tri p x.2).2 = p.2 + uY tri x.2 := rfl
    rcases List.mem_cons.mp h with rfl | h
    · show q.1.natAbs ≤ q.1.natAbs + (r.length + 1) ∧ q.2.natAbs ≤ q.2.natAbs + (r.length + 1)
      omega
    · have ih := pts_abs tri r (stp tri p x.2) q h
      rw [h1, h2] at ih
      show q.1.natAbs ≤ p.1.natAbs + (r.length + 1) ∧ q.2.natAbs ≤ p.2.natAbs + (r.length + 1)
      omega
/-! ### shapes -/
theorem shp_int {n : Nat} {i : Int} : shp n (.int i) = true := by cases n <;> rfl
theorem shp_str {n : Nat} {z : Str} (h : PyData.strOk z = true) : shp n (.str z) = true := by cases n <;> exact h
theorem shp_tup {n : Nat} {xs : List D} : shp (n + 1) (.tup xs) = xs.all (shp n) := rfl
theorem shp_lst {n : Nat} {xs : List D} : shp (n + 1) (.lst xs) = xs.all (shp n) := rfl
theorem shp_pts {n : Nat} (l : List Pt) : (l.map ptD).all (shp (n + 1)) = true := by
  rw [List.all_map]
  refine List.all_eq_true.mpr fun p _ => ?_
  show shp (n + 1) (.tup [.int p.1, .int p.2]) = true
  rw [shp_tup]
  simp only [List.all_cons, List.all_nil, shp_int, Bool.and_self]
theorem shp_ptT {n : Nat} (l : List Pt) : shp (n + 2) (.tup (l.map ptD)) = true := shp_pts l
theorem shp_ptL {n : Nat} (l : List Pt) : shp (n + 2) (.lst (l.map ptD)) = true := shp_pts l
theorem shp_row {n : Nat} {tri : Bool} {r : Steps} (h : OkR tri r) : (r.map stD).all (shp (n + 1)) = true := by
  rw [List.all_map]
  refine List.all_eq_true.mpr fun p hp => ?_
  show shp (n + 1) (.tup [.str p.1, .int p.2]) = true
  rw [shp_tup]
  simp only [List.all_cons, List.all_nil, shp_int, shp_str (h.lt p hp).ok, Bool.and_self]
theorem shp_rowT {n : Nat} {tri : Bool} {r : Steps} (h : OkR tri r) : shp (n + 2) (.tup (r.map stD)) = true := shp_row h
/-! ### letters of a row -/
theorem more_mem {ks : List Str} {k x : Str} : x ∈ more ks k ↔ x ∈ ks ∨ x = k := by
  unfold more
  split
  · rename_i h
    constructor
    · exact fun q => Or.inl q
    · rintro (q | rfl)
      · exact q
      · exact h
  · rw [List.mem_cons]
    exact Or.comm
theorem more_nd {ks : List Str} {k : Str} (h : ks.Nodup) : (more ks k).Nodup := by
  unfold more
  split
  · exact h
  · rename_i hk
    first
      | exact List.nodup_append.mpr ⟨h, by simp, fun a ha b hb => by rw [List.mem_singleton] at hb; subst hb; exact fun z => hk (z ▸ ha)⟩
      | exact List.nodup_cons.mpr ⟨hk, h⟩
def metL (r : Steps) : List Str := r.foldl (fun a x => more a x.1) []
theorem met_mem : ∀ (r : Steps) (ks : List Str) (x : Str), x ∈ r.foldl (fun a x => more a x.1) ks ↔ x ∈ ks ∨ ∃ p ∈ r, p.1 = x
  | [], ks, x => by simp
  | y :: r, ks, x => by
    rw [List.foldl_cons, met_mem r, more_mem]
    constructor
    · rintro ((h | rfl) | ⟨p, hp, rfl⟩)
      · exact Or.inl h
      · exact Or.inr ⟨y, List.mem_cons_self .., rfl⟩
      · exact Or.inr ⟨p, List.mem_cons_of_mem _ hp, rfl⟩
    · rintro (h | ⟨p, hp, rfl⟩)
      · exact Or.inl (Or.inl h)
      · rcases List.mem_cons.mp hp with rfl | hp
        · exact Or.inl (Or.inr rfl)
        · exact Or.inr ⟨p, hp, rfl⟩
theorem met_nd : ∀ (r : Steps) (ks : List Str), ks.Nodup → (r.foldl (fun a x => more a x.1) ks).Nodup
  | [], ks, h => h
  | y :: r, ks, h => by
    rw [List.foldl_cons]
    exact met_nd r _ (more_nd h)
def letL (r : Steps) : List Str := sortT (metL r)
theorem letL_mem {r : Steps} {x : Str} : x ∈ letL r ↔ ∃ p ∈ r, p.1 = x := by
  unfold letL metL
  rw [(sort_perm _).mem_iff, met_mem]
  simp
theorem letL_nd (r : Steps) : (letL r).Nodup := (sort_perm _).nodup_iff.mpr (met_nd r [] List.nodup_nil)
theorem met_len : ∀ (r : Steps) (ks : List Str), (r.foldl (fun a x => more a x.1) ks).length ≤ ks.length + r.length
  | [], ks => Nat.le_refl _
  | y :: r, ks => by
    rw [List.foldl_cons]
    have h := met_len r (more ks y.1)
    have h2 : (more ks y.1).length ≤ ks.length + 1 := by
      unfold more
      split <;> simp
    rw [List.length_cons]
    omega
theorem letL_len (r : Steps) : (letL r).length ≤ r.length := by
  unfold letL metL
  rw [(sort_perm _).length_eq]
  have := met_len r []
  simpa using this
/-! ### dicts by texts -/
def dkv (kvs : List (Str × Str)) : List (L2.Key × D) := kvs.map fun p => (Sum.inr p.1, D.str p.2)
theorem put_new {kvs : List (L2.Key × D)} {k : L2.Key} {v : D} (h : k ∉ kvs.map (·.1)) : putKD kvs k v = kvs ++ [(k, v)] := by
  unfold putKD
  rw [if_neg]
  intro q
  obtain ⟨x, hx, e⟩ := List.any_eq_true.mp q
  exact h (List.mem_map.mpr ⟨x, hx, of_decide_eq_true e⟩)
theorem merge_nd : ∀ (more acc : List (L2.Key × D)), ((acc ++ more).map (·.1)).Nodup → mergeKD acc more = acc ++ more
  | [], acc, _ => by
    show acc = acc ++ []
    rw [List.append_nil]
  | x :: r, acc, h => by
    show mergeKD (putKD acc x.1 x.2) r = _
    have hx : x.1 ∉ acc.map (·.1) := by
      rw [List.map_append, List.map_cons] at h
      have := (List.nodup_append.mp h).2.2
      intro q
      exact this _ q _ (List.mem_cons_self ..) rfl
    rw [put_new hx, merge_nd r (acc ++ [(x.1, x.2)]) (by rw [List.append_assoc]; exact h), List.append_assoc]
    rfl
theorem pairs_eq : ∀ kvs : List (Str × Str), pairsD (kvs.map fun p => D.tup [.str p.1, .str p.2]) = some (dkv kvs)
  | [] => rfl
  | x :: r => by
    show (match keyOf (.str x.1), pairsD (r.map fun p => D.tup [.str p.1, .str p.2]) with | some q, some qs => some ((q, D.str x.2) :: qs) | _, _ => none) = _
    rw [pairs_eq r]
    rfl
theorem dict_nd {kvs : List (Str × Str)} (h : (kvs.map (·.1)).Nodup) : mergeKD [] (dkv kvs) = dkv kvs := by
  rw [merge_nd, List.nil_append]
  rw [List.nil_append]
  unfold dkv
  rw [List.map_map]
  have e : ((fun x : L2.Key × D => x.1) ∘ fun p : Str × Str => ((Sum.inr p.1 : L2.Key), D.str p.2)) = (fun x : Str => (Sum.inr x : L2.Key)) ∘ fun p : Str × Str => p.1 := rfl
  rw [e, ← List.map_map]
  have inj : ∀ l : List Str, l.Nodup → (l.map fun x : Str => (Sum.inr x : L2.Key)).Nodup := by
    intro l
    induction l with
    | nil => intro _; exact List.nodup_nil
    | cons a r ih =>
      intro h
      rw [List.nodup_cons] at h
      rw [List.map_cons, List.nodup_cons]
      refine ⟨fun q => ?_, ih h.2⟩
      obtain ⟨b, hb, eb⟩ := List.mem_map.mp q
      cases eb
      exact h.1 hb
  exact inj _ h
theorem val_of : ∀ {kvs : List (Str × Str)} {k v : Str}, (kvs.map (·.1)).Nodup → (k, v) ∈ kvs → valD (dkv kvs) (.inr k) = some (.str v)
  | [], _, _, _, h => nomatch h
  | x :: r, k, v, hn, h => by
    rw [List.map_cons, List.nodup_cons] at hn
    show (((Sum.inr x.1, D.str x.2) :: dkv r).find? fun kv => decide (kv.1 = Sum.inr k)).map (·.2) = _
    rw [List.find?_cons]
    by_cases e : x.1 = k
    · subst e
      rcases List.mem_cons.mp h with h | h
      · have e2 : x.2 = v := (congrArg Prod.snd h).symm
        rw [e2]
        simp
      · exact absurd (List.mem_map.mpr ⟨_, h, rfl⟩) hn.1
    · have : decide ((Sum.inr x.1 : L2.Key) = Sum.inr k) = false := decide_eq_false fun z => e (Sum.inr.inj z)
      simp only [this]
      rcases List.mem_cons.mp h with h | h
      · subst h
        exact absurd rfl e
      · exact val_of hn.2 h
end Pl

set_option Elab.async false
set_option maxRecDepth 100000
set_option maxHeartbeats 4000000
set_option linter.all false
/-! what can be shown, what is equal, what is in a row: no program in sight -/
namespace Pl
open PySem Md TxS
/-- data whose repr is told -/
def Shw (k B : Nat) (x : D) : Prop := ∃ q, x.py = some q ∧ wideB q = true ∧ q.depth ≤ k ∧ Gl.wt q ≤ B
section
variable {s : Sto} {k B n : Nat} {x : D}
theorem Shw.up {k' B' : Nat} (h : Shw k B x) (hk : k ≤ k') (hB : B ≤ B') : Shw k' B' x := let ⟨q, a, b, c, d⟩ := h; ⟨q, a, b, Nat.le_trans c hk, Nat.le_trans d hB⟩
theorem shw_int {i : Int} (h : Bd n i) (e : n ≤ 4300) : Shw 0 4400 (.int i) := ⟨_, rfl, wide_int h e, Nat.le_refl _, Nat.le_refl _⟩
theorem shw_str {z : Str} (h : Tx n z) : Shw 0 (10 * n + 2) (.str z) := ⟨_, rfl, rfl, Nat.le_refl _, h.repr⟩
theorem shw_bl {b : Bool} : Shw 0 5 (.bl b) := ⟨_, rfl, rfl, Nat.le_refl _, Nat.le_refl _⟩
theorem shw_non : Shw 0 4 .non := ⟨_, rfl, rfl, Nat.le_refl _, Nat.le_refl _⟩
theorem shw_all : ∀ {xs : List D}, (∀ x ∈ xs, Shw k B x) → ∃ qs, pyA xs = some qs ∧ wideA qs = true ∧ PyData.depthAll qs ≤ k ∧ Gl.wtAll qs ≤ xs.length * (B + 2)
  | [], _ => ⟨[], rfl, rfl, Nat.zero_le _, Nat.zero_le _⟩
  | x :: r, h => by
    obtain ⟨q, a, b, c, d⟩ := h x (List.mem_cons_self ..)
    obtain ⟨qs, a2, b2, c2, d2⟩ := shw_all fun y hy => h y (List.mem_cons_of_mem _ hy)
    refine ⟨q :: qs, ?_, ?_, ?_, ?_⟩
    · simp only [pyA, a, a2]
    · rw [w_cons, b, b2]; rfl
    · simp only [PyData.depthAll]; omega
    · simp only [Gl.wtAll, List.length_cons, Nat.succ_mul]
      omega
theorem shw_lst {xs : List D} (h : ∀ x ∈ xs, Shw k B x) (hn : xs.length ≤ n) : Shw (k + 1) (n * (B + 2) + 3) (.lst xs) := by
  obtain ⟨qs, a, b, c, d⟩ := shw_all h
  have := Nat.mul_le_mul_right (B + 2) hn
  refine ⟨.list qs, ?_, b, ?_, ?_⟩
  · simp only [D.py, a, Option.map_some]
  · simp only [PyData.depth]; omega
  · simp only [Gl.wt]; omega
theorem shw_tup {xs : List D} (h : ∀ x ∈ xs, Shw k B x) (hn : xs.length ≤ n) : Shw (k + 1) (n * (B + 2) + 3) (.tup xs) := by
  obtain ⟨qs, a, b, c, d⟩ := shw_all h
  have := Nat.mul_le_mul_right (B + 2) hn
  refine ⟨.tuple qs, ?_, b, ?_, ?_⟩
  · simp only [D.py, a, Option.map_some]
  · simp only [PyData.depth]; omega
  · simp only [Gl.wt]; omega
theorem shw_map {α : Type} {f : α → D} {l : List α} (h : ∀ a ∈ l, Shw k B (f a)) : ∀ x ∈ l.map f, Shw k B x := fun x hx => by
  obtain ⟨a, ha, rfl⟩ := List.mem_map.mp hx
  exact h a ha
theorem repr_shw (h : Shw k B x) (hv : vw x s = x) (hk : k ≤ 30) (hB : B ≤ 16000000) : ∃ q, x.py = some q ∧ reprD [x] s = .ok (.str q.shown) s := by
  obtain ⟨q, a, b, c, d⟩ := h
  exact ⟨q, a, repr_eq (by rw [hv]; exact a) (show_of b (Nat.le_trans c hk) (Nat.le_trans d hB))⟩
theorem reprE (h : Shw k B x) (hv : ∀ s, vw x s = x) (hk : k ≤ 30) (hB : B ≤ 16000000) : ∃ t, ∀ s, reprD [x] s = .ok (.str t) s := by
  obtain ⟨q, a, b, c, d⟩ := h
  exact ⟨q.shown, fun s => repr_eq (by rw [hv]; exact a) (show_of b (Nat.le_trans c hk) (Nat.le_trans d hB))⟩
end
/-! ### rows as data -/
def stP (p : Str × Int) : PyData := .tuple [.str p.1, .int p.2]
theorem pyA_st : ∀ r : Steps, pyA (r.map stD) = some (r.map stP)
  | [] => rfl
  | p :: r => by
    rw [List.map_cons]
    simp only [pyA, pyA_st r]
    rfl
theorem pyA_strs : ∀ l : List Str, pyA (l.map D.str) = some (l.map PyData.str)
  | [] => rfl
  | p :: r => by
    rw [List.map_cons]
    simp only [pyA, pyA_strs r]
    rfl
theorem eqv_st (p q : Str × Int) : PyData.eqv (stP p) (stP q) = decide (p = q) := by
  obtain ⟨a, b⟩ := p
  obtain ⟨c, d⟩ := q
  show (a == c && (b == d && true)) = _
  rw [Bool.and_true]
  by_cases h : a = c
  · by_cases h2 : b = d
    · simp [h, h2]
    · simp [h, h2]
  · simp [h]
theorem eqv_row : ∀ r r' : Steps, PyData.eqvAll (r.map stP) (r'.map stP) = decide (r = r')
  | [], [] => rfl
  | [], _ :: _ => rfl
  | _ :: _, [] => rfl
  | p :: r, q :: r' => by
    show (PyData.eqv (stP p) (stP q) && PyData.eqvAll (r.map stP) (r'.map stP)) = _
    rw [eqv_st, eqv_row r r']
    by_cases h : p = q
    · by_cases h2 : r = r'
      · simp [h, h2]
      · simp [h, h2]
    · simp [h]
theorem shaped_of {x : D} {q : PyData} (h : shp 60 x = true) (e : x.py = some q) : SeqAt.shaped q = true := by
  obtain ⟨q', e', c, d⟩ := shp_py 60 x h
  rw [e] at e'
  cases e'
  unfold SeqAt.shaped
  rw [c, decide_eq_true (by omega)]
  rfl
section
variable {s : Sto} {tri tri' : Bool} {r r' : Steps}
theorem py_row : (D.tup (r.map stD)).py = some (.tuple (r.map stP)) := by simp only [D.py, pyA_st, Option.map_some]
theorem row_eqv (h : OkR tri r) (h' : OkR tri' r') : eqD (.tup (r.map stD)) (.tup (r'.map stD)) s = .ok (.bl (decide (r = r'))) s := by
  have a := shaped_of (shp_rowT (n := 58) h) py_row
  have b := shaped_of (shp_rowT (n := 58) h') py_row
  show eqP (.tup (r.map stD)) (.tup (r'.map stD)) s id = _
  simp only [eqP, vw, py_row, a, b, Bool.and_self, if_true]
  show Out.ok (D.bl (PyData.eqvAll (r.map stP) (r'.map stP))) s = _
  rw [eqv_row]
theorem any_dec {α β : Type} [DecidableEq α] {f : α → β} {g : β → Bool} {p : α} (hg : ∀ q, g (f q) = decide (q = p)) : ∀ l : List α, (l.map f).any g = decide (p ∈ l)
  | [] => rfl
  | q :: l => by
    rw [List.map_cons, List.any_cons, hg, any_dec hg l]
    by_cases h : q = p
    · simp [h]
    · have h' : p ≠ q := fun z => h z.symm
      simp [h, h']
theorem in_rowE (h : OkR tri r) {p : Str × Int} (hp : PyData.strOk p.1 = true) : inD (stD p) (.tup (r.map stD)) s = .ok (.bl (decide (p ∈ r))) s := by
  have a := shaped_of (shp_rowT (n := 58) h) py_row
  have b : SeqAt.shaped (stP p) = true := shaped_of (x := stD p) (by
    show shp (59 + 1) (.tup [.str p.1, .int p.2]) = true
    rw [shp_tup]
    simp only [List.all_cons, List.all_nil, shp_int, shp_str hp, Bool.and_self]) rfl
  show inP (stD p) (.tup (r.map stD)) s id = _
  have e : (stD p).py = some (stP p) := rfl
  have v : vw (stD p) s = stD p := rfl
  have v2 : vw (.tup (r.map stD)) s = .tup (r.map stD) := rfl
  unfold inP
  rw [v2]
  dsimp only
  rw [v, e, pyA_st]
  dsimp only
  rw [a, b]
  simp only [Bool.and_self, if_true, id_eq]
  rw [any_dec (p := p) (f := stP) fun q => eqv_st q p]
  congr 2
  exact decide_eq_decide.mpr Iff.rfl
theorem in_strsE {z : Str} {l : List Str} (hz : PyData.strOk z = true) (hl : ∀ x ∈ l, PyData.strOk x = true) : inD (.str z) (.lst (l.map .str)) s = .ok (.bl (decide (z ∈ l))) s := by
  have a : SeqAt.shaped (.list (l.map PyData.str)) = true := shaped_of (x := .lst (l.map .str)) (by
    show shp (59 + 1) (.lst (l.map .str)) = true
    rw [shp_lst, List.all_map]
    exact List.all_eq_true.mpr fun x hx => shp_str (hl x hx)) (by simp only [D.py, pyA_strs, Option.map_some])
  have b : SeqAt.shaped (.str z) = true := shaped_of (x := .str z) hz rfl
  show inP (.str z) (.lst (l.map .str)) s id = _
  have e : (D.str z).py = some (.str z) := rfl
  simp only [inP, vw, e, pyA_strs, a, b, Bool.and_self, if_true, id_eq]
  rw [any_dec (p := z) (f := PyData.str) fun q => by
    show (q == z) = _
    by_cases h : q = z <;> simp [h]]
theorem in_strsT {z : Str} {l : List Str} (hz : PyData.strOk z = true) (hl : ∀ x ∈ l, PyData.strOk x = true) : inD (.str z) (.tup (l.map .str)) s = .ok (.bl (decide (z ∈ l))) s := by
  have a : SeqAt.shaped (.tuple (l.map PyData.str)) = true := shaped_of (x := .tup (l.map .str)) (by
    show shp (59 + 1) (.tup (l.map .str)) = true
    rw [shp_tup, List.all_map]
    exact List.all_eq_true.mpr fun x hx => shp_str (hl x hx)) (by simp only [D.py, pyA_strs, Option.map_some])
  have b : SeqAt.shaped (.str z) = true := shaped_of (x := .str z) hz rfl
  show inP (.str z) (.tup (l.map .str)) s id = _
  have e : (D.str z).py = some (.str z) := rfl
  simp only [inP, vw, e, pyA_strs, a, b, Bool.and_self, if_true, id_eq]
  rw [any_dec (p := z) (f := PyData.str) fun q => by
    show (q == z) = _
    by_cases h : q = z <;> simp [h]]
end
/-! ### letters -/
theorem setT_met (r : Steps) : setT (r.map fun p => p.1) = metL r := by
  unfold setT metL
  rw [List.foldl_map]
/-! ### the row's text -/
def rowT (r : Steps) : Str := Txt.join (Str.ofString " ") (r.map fun p => p.1 ++ Str.ofString (toString p.2))
theorem tx_join {n : Nat} : ∀ l : List Str, (∀ z ∈ l, Tx n z) → Tx (l.length * (n + 1)) (Str.join (Str.ofString " ") l)
  | [], _ => Tx.emp.up (Nat.zero_le _)
  | [x], h => (h x (List.mem_cons_self ..)).up (by simp only [List.length_cons, List.length_nil]; omega)
  | x :: y :: r, h => by
    have a := (h x (List.mem_cons_self ..)).app (Tx.of " ")
    have b := a.app (tx_join (y :: r) fun z hz => h z (List.mem_cons_of_mem _ hz))
    refine Tx.up (n := _) b ?_
    have : (" " : String).length = 1 := rfl
    simp only [List.length_cons, Nat.succ_mul, this]
    omega
theorem tx_row {r : Steps} (h : ∀ p ∈ r, Tx 1 p.1 ∧ Bd 1 p.2) : Tx (r.length * 4) (rowT r) := by
  unfold rowT Txt.join
  rw [StrLaws.glued_eq_join]
  have := tx_join (n := 3) (r.map fun p => p.1 ++ Str.ofString (toString p.2)) fun z hz => by
    obtain ⟨p, hp, rfl⟩ := List.mem_map.mp hz
    exact (h p hp).1.app (Tx.int (h p hp).2 (by decide))
  rw [List.length_map] at this
  exact this
/-! ### five letters, six turns -/
def L5 : List Str := ["a", "b", "q", "z", "k"]
def T6 : List Int := [0, 1, 2, 3, 4, 5]
def all30 : Steps := L5.flatMap fun l => T6.map fun t => (l, t)
theorem mem30 {p : Str × Int} (h : p.1 ∈ L5) (h0 : 0 ≤ p.2) (h1 : p.2 < 6) : p ∈ all30 := by
  refine List.mem_flatMap.mpr ⟨p.1, h, List.mem_map.mpr ⟨p.2, ?_, rfl⟩⟩
  have : p.2 = 0 ∨ p.2 = 1 ∨ p.2 = 2 ∨ p.2 = 3 ∨ p.2 = 4 ∨ p.2 = 5 := by omega
  unfold T6
  rcases this with h | h | h | h | h | h <;> rw [h] <;> simp
def wrong : List PyData := [.tuple [.str "a", .bool true], .tuple [.str "a", .int 0, .int 0], .list [.str "a", .int 0], .none, .int 0, .tuple [.str "a"], .tuple [.str "a", .str "0"]]
theorem ok30 : (all30.all fun p => PyData.strOk (stP p).shown) = true := by decide +kernel
theorem okW : (wrong.all fun p => PyData.strOk p.shown) = true := by decide +kernel
theorem notW : (wrong.all fun q => all30.all fun p => decide (q.shown ≠ (stP p).shown)) = true := by decide +kernel
theorem inj30 : (all30.all fun q => all30.all fun p => decide ((stP q).shown = (stP p).shown → q = p)) = true := by decide +kernel
theorem let5 : (L5.all fun l => letB l && PyData.strOk l) = true := by decide +kernel
end Pl

set_option Elab.async false
set_option maxRecDepth 100000
set_option maxHeartbeats 4000000
set_option linter.all false
namespace Law
open PySem PySem.Spec PyProof.Rows L2 Md
def topS (i : Nat) : Stmt := PySem.Challenge.pw_grownlines_k03_grids_told.main.body.getD i (.Pass ⟨0, 0, 0, 0⟩)
abbrev s_Grid___eq__ : Stmt := inClass (topS 18) 22
theorem sc_Grid___eq__ : FnScope ["self", "value"] ["self", "value"] (defScope s_Grid___eq__) := ⟨rfl, rfl, rfl, by decide +kernel, rfl, by decide +kernel, by decide +kernel⟩
abbrev s_Grid___init__ : Stmt := inClass (topS 18) 1
theorem sc_Grid___init__ : FnScope ["self", "name"] ["self", "name"] (defScope s_Grid___init__) := ⟨rfl, rfl, rfl, by decide +kernel, rfl, by decide +kernel, by decide +kernel⟩
abbrev s__law_dice : Stmt := topS 20
theorem sc__law_dice : FnScope ["_law_script", "_law_spot", "_law_cell", "_law_left"] ["_law_script", "_law_spot"] (defScope s__law_dice) := ⟨rfl, rfl, rfl, by decide +kernel, rfl, by decide +kernel, by decide +kernel⟩
abbrev s_Grid___iter__ : Stmt := inClass (topS 18) 21
theorem sc_Grid___iter__ : FnScope ["self"] ["self"] (defScope s_Grid___iter__) := ⟨rfl, rfl, rfl, by decide +kernel, rfl, by decide +kernel, by decide +kernel⟩
abbrev s_Grid___len__ : Stmt := inClass (topS 18) 20
theorem sc_Grid___len__ : FnScope ["self"] ["self"] (defScope s_Grid___len__) := ⟨rfl, rfl, rfl, by decide +kernel, rfl, by decide +kernel, by decide +kernel⟩
abbrev s_Grid___str__ : Stmt := inClass (topS 18) 23
theorem sc_Grid___str__ : FnScope ["self"] ["self"] (defScope s_Grid___str__) := ⟨rfl, rfl, rfl, by decide +kernel, rfl, by decide +kernel, by decide +kernel⟩
abbrev s_is_integer : Stmt := topS 3
theorem sc_is_integer : FnScope ["value"] ["value"] (defScope s_is_integer) := ⟨rfl, rfl, rfl, by decide +kernel, rfl, by decide +kernel, by decide +kernel⟩
abbrev s_is_point : Stmt := topS 4
theorem sc_is_point : FnScope ["value"] ["value"] (defScope s_is_point) := ⟨rfl, rfl, rfl, by decide +kernel, rfl, by decide +kernel, by decide +kernel⟩
abbrev s_require_point : Stmt := topS 16
theorem sc_require_point : FnScope ["value"] ["value"] (defScope s_require_point) := ⟨rfl, rfl, rfl, by decide +kernel, rfl, by decide +kernel, by decide +kernel⟩
abbrev s_Grid_direction_of : Stmt := inClass (topS 18) 7
theorem sc_Grid_direction_of : FnScope ["self", "point"] ["self", "point"] (defScope s_Grid_direction_of) := ⟨rfl, rfl, rfl, by decide +kernel, rfl, by decide +kernel, by decide +kernel⟩
abbrev s_Grid_half : Stmt := inClass (topS 18) 3
theorem sc_Grid_half : FnScope ["self"] ["self"] (defScope s_Grid_half) := ⟨rfl, rfl, rfl, by decide +kernel, rfl, by decide +kernel, by decide +kernel⟩
abbrev s_Grid_name : Stmt := inClass (topS 18) 2
theorem sc_Grid_name : FnScope ["self"] ["self"] (defScope s_Grid_name) := ⟨rfl, rfl, rfl, by decide +kernel, rfl, by decide +kernel, by decide +kernel⟩
abbrev s_Grid_modulo : Stmt := inClass (topS 18) 5
theorem sc_Grid_modulo : FnScope ["self", "direction"] ["self", "direction"] (defScope s_Grid_modulo) := ⟨rfl, rfl, rfl, by decide +kernel, rfl, by decide +kernel, by decide +kernel⟩
abbrev s_require_integer : Stmt := topS 17
theorem sc_require_integer : FnScope ["value"] ["value"] (defScope s_require_integer) := ⟨rfl, rfl, rfl, by decide +kernel, rfl, by decide +kernel, by decide +kernel⟩
abbrev s_Grid_unit : Stmt := inClass (topS 18) 6
theorem sc_Grid_unit : FnScope ["self", "direction"] ["self", "direction"] (defScope s_Grid_unit) := ⟨rfl, rfl, rfl, by decide +kernel, rfl, by decide +kernel, by decide +kernel⟩
abbrev s_Grid_units : Stmt := inClass (topS 18) 4
theorem sc_Grid_units : FnScope ["self"] ["self"] (defScope s_Grid_units) := ⟨rfl, rfl, rfl, by decide +kernel, rfl, by decide +kernel, by decide +kernel⟩
abbrev s__law_around : Stmt := topS 23
theorem sc__law_around : FnScope ["_law_plain"] ["_law_plain"] (defScope s__law_around) := ⟨rfl, rfl, rfl, by decide +kernel, rfl, by decide +kernel, by decide +kernel⟩
abbrev s__law_limit : Stmt := topS 25
theorem sc__law_limit : FnScope [] [] (defScope s__law_limit) := ⟨rfl, rfl, rfl, by decide +kernel, rfl, by decide +kernel, by decide +kernel⟩
abbrev s__law_roll : Stmt := topS 21
theorem sc__law_roll : FnScope ["_law_dice_here", "_law_total", "_law_found", "_law_one", "_law_two"] ["_law_dice_here", "_law_total"] (defScope s__law_roll) := ⟨rfl, rfl, rfl, by decide +kernel, rfl, by decide +kernel, by decide +kernel⟩
abbrev s__law_pick : Stmt := topS 22
theorem sc__law_pick : FnScope ["_law_dice_here", "_law_items"] ["_law_dice_here", "_law_items"] (defScope s__law_pick) := ⟨rfl, rfl, rfl, by decide +kernel, rfl, by decide +kernel, by decide +kernel⟩
abbrev s__law_part : Stmt := topS 26
theorem sc__law_part : FnScope ["_law_dice_here", "_law_great", "_law_some", "_law_part_here"] ["_law_dice_here"] (defScope s__law_part) := ⟨rfl, rfl, rfl, by decide +kernel, rfl, by decide +kernel, by decide +kernel⟩
abbrev s__law_place : Stmt := topS 27
theorem sc__law_place : FnScope ["_law_dice_here"] ["_law_dice_here"] (defScope s__law_place) := ⟨rfl, rfl, rfl, by decide +kernel, rfl, by decide +kernel, by decide +kernel⟩
abbrev s__law_unit : Stmt := topS 24
theorem sc__law_unit : FnScope ["_law_plain", "_law_direction"] ["_law_plain", "_law_direction"] (defScope s__law_unit) := ⟨rfl, rfl, rfl, by decide +kernel, rfl, by decide +kernel, by decide +kernel⟩
abbrev s__law_right : Stmt := topS 28
theorem sc__law_right : FnScope ["_law_dice_here", "_law_plain", "_law_grid", "_law_around_here", "_law_units", "_law_told", "_law_turn", "_law_direction", "_law_place_here", "_law_odd"] ["_law_dice_here", "_law_plain"] (defScope s__law_right) := ⟨rfl, rfl, rfl, by decide +kernel, rfl, by decide +kernel, by decide +kernel⟩
abbrev s_law : Stmt := topS 29
theorem sc_law : FnScope ["_law_script", "_law_spot", "_law_dice_here", "_law_name", "_law_one", "_law_other"] ["_law_script"] (defScope s_law) := ⟨rfl, rfl, rfl, by decide +kernel, rfl, by decide +kernel, by decide +kernel⟩
structure Ad where
  a_Grid___eq__ : Addr
  a_Grid___init__ : Addr
  a__law_dice : Addr
  a_Grid___iter__ : Addr
  a_Grid___len__ : Addr
  a_Grid___str__ : Addr
  a_is_integer : Addr
  a_is_point : Addr
  a_require_point : Addr
  a_Grid_direction_of : Addr
  a_Grid_half : Addr
  a_Grid_name : Addr
  a_Grid_modulo : Addr
  a_require_integer : Addr
  a_Grid_unit : Addr
  a_Grid_units : Addr
  a__law_around : Addr
  a__law_limit : Addr
  a__law_roll : Addr
  a__law_pick : Addr
  a__law_part : Addr
  a__law_place : Addr
  a__law_unit : Addr
  a__law_right : Addr
  a_law : Addr
  c_Grid : Addr
  p_Grid_own_name : Addr
  p_Grid_own_units : Addr
  q_Grid_name : Addr
  q_Grid_half : Addr
  q_Grid_units : Addr
  u_GRIDS : Addr
  u_SQUARE_UNITS : Addr
  u_SQUARE_UNITS_0 : Addr
  u_SQUARE_UNITS_1 : Addr
  u_SQUARE_UNITS_2 : Addr
  u_SQUARE_UNITS_3 : Addr
  u_TRIANGLE_UNITS : Addr
  u_TRIANGLE_UNITS_0 : Addr
  u_TRIANGLE_UNITS_1 : Addr
  u_TRIANGLE_UNITS_2 : Addr
  u_TRIANGLE_UNITS_3 : Addr
  u_TRIANGLE_UNITS_4 : Addr
  u_TRIANGLE_UNITS_5 : Addr
structure Fd where
  d_Grid___eq__ : FuncData
  d_Grid___init__ : FuncData
  d__law_dice : FuncData
  d_Grid___iter__ : FuncData
  d_Grid___len__ : FuncData
  d_Grid___str__ : FuncData
  d_is_integer : FuncData
  d_is_point : FuncData
  d_require_point : FuncData
  d_Grid_direction_of : FuncData
  d_Grid_half : FuncData
  d_Grid_name : FuncData
  d_Grid_modulo : FuncData
  d_require_integer : FuncData
  d_Grid_unit : FuncData
  d_Grid_units : FuncData
  d__law_around : FuncData
  d__law_limit : FuncData
  d__law_roll : FuncData
  d__law_pick : FuncData
  d__law_part : FuncData
  d__law_place : FuncData
  d__law_unit : FuncData
  d__law_right : FuncData
  d_law : FuncData
structure Txt (K : PySem.W.Frag) (mg : Str → Option Value) (A : Ad) (D : Fd) : Prop where
  z_abs : mg "abs" = none
  z_bool : mg "bool" = none
  z_int : mg "int" = none
  z_isinstance : mg "isinstance" = none
  z_iter : mg "iter" = none
  z_len : mg "len" = none
  z_list : mg "list" = none
  z_max : mg "max" = none
  z_min : mg "min" = none
  z_range : mg "range" = none
  z_repr : mg "repr" = none
  z_str : mg "str" = none
  z_tuple : mg "tuple" = none
  c_LIMIT : ∃ u, mg "LIMIT" = some u ∧ RelV (.int ((10 ^ 50) ^ 8)) u
  c_SQUARE : ∃ u, mg "SQUARE" = some u ∧ RelV (.str "square") u
  c_GRIDS : ∃ u, mg "GRIDS" = some u ∧ RelV (.ref A.u_GRIDS) u
  t_GRIDS : ∀ H, SqT K H A.u_GRIDS [.str "square", .str "triangle"]
  c_SQUARE_UNITS : ∃ u, mg "SQUARE_UNITS" = some u ∧ RelV (.ref A.u_SQUARE_UNITS) u
  t_SQUARE_UNITS : ∀ H, SqT K H A.u_SQUARE_UNITS [.ref A.u_SQUARE_UNITS_0, .ref A.u_SQUARE_UNITS_1, .ref A.u_SQUARE_UNITS_2, .ref A.u_SQUARE_UNITS_3]
  t_SQUARE_UNITS_0 : ∀ H, SqT K H A.u_SQUARE_UNITS_0 [.int (1), .int (0)]
  t_SQUARE_UNITS_1 : ∀ H, SqT K H A.u_SQUARE_UNITS_1 [.int (0), .int (1)]
  t_SQUARE_UNITS_2 : ∀ H, SqT K H A.u_SQUARE_UNITS_2 [.int (-1), .int (0)]
  t_SQUARE_UNITS_3 : ∀ H, SqT K H A.u_SQUARE_UNITS_3 [.int (0), .int (-1)]
  kk_SQUARE_UNITS : ∃ o, K.lookup A.u_SQUARE_UNITS = some o ∧ o.cls = .type "tuple" ∧ o.dict = none
  c_TRIANGLE_UNITS : ∃ u, mg "TRIANGLE_UNITS" = some u ∧ RelV (.ref A.u_TRIANGLE_UNITS) u
  t_TRIANGLE_UNITS : ∀ H, SqT K H A.u_TRIANGLE_UNITS [.ref A.u_TRIANGLE_UNITS_0, .ref A.u_TRIANGLE_UNITS_1, .ref A.u_TRIANGLE_UNITS_2, .ref A.u_TRIANGLE_UNITS_3, .ref A.u_TRIANGLE_UNITS_4, .ref A.u_TRIANGLE_UNITS_5]
  t_TRIANGLE_UNITS_0 : ∀ H, SqT K H A.u_TRIANGLE_UNITS_0 [.int (1), .int (0)]
  t_TRIANGLE_UNITS_1 : ∀ H, SqT K H A.u_TRIANGLE_UNITS_1 [.int (0), .int (1)]
  t_TRIANGLE_UNITS_2 : ∀ H, SqT K H A.u_TRIANGLE_UNITS_2 [.int (-1), .int (1)]
  t_TRIANGLE_UNITS_3 : ∀ H, SqT K H A.u_TRIANGLE_UNITS_3 [.int (-1), .int (0)]
  t_TRIANGLE_UNITS_4 : ∀ H, SqT K H A.u_TRIANGLE_UNITS_4 [.int (0), .int (-1)]
  t_TRIANGLE_UNITS_5 : ∀ H, SqT K H A.u_TRIANGLE_UNITS_5 [.int (1), .int (-1)]
  kk_TRIANGLE_UNITS : ∃ o, K.lookup A.u_TRIANGLE_UNITS = some o ∧ o.cls = .type "tuple" ∧ o.dict = none
  F_Grid___eq__ : Fun K "__eq__" "Grid.__eq__" s_Grid___eq__ A.a_Grid___eq__ D.d_Grid___eq__
  b_Grid___eq__ : Binds K D.d_Grid___eq__ ["self", "value"] []
  F_Grid___init__ : Fun K "__init__" "Grid.__init__" s_Grid___init__ A.a_Grid___init__ D.d_Grid___init__
  b_Grid___init__ : Binds K D.d_Grid___init__ ["self", "name"] []
  g__law_dice : mg "_law_dice" = some (.ref A.a__law_dice)
  F__law_dice : Fun K "_law_dice" "_law_dice" s__law_dice A.a__law_dice D.d__law_dice
  b__law_dice : Binds K D.d__law_dice ["_law_script", "_law_spot"] []
  F_Grid___iter__ : Fun K "__iter__" "Grid.__iter__" s_Grid___iter__ A.a_Grid___iter__ D.d_Grid___iter__
  b_Grid___iter__ : Binds K D.d_Grid___iter__ ["self"] []
  F_Grid___len__ : Fun K "__len__" "Grid.__len__" s_Grid___len__ A.a_Grid___len__ D.d_Grid___len__
  b_Grid___len__ : Binds K D.d_Grid___len__ ["self"] []
  F_Grid___str__ : Fun K "__str__" "Grid.__str__" s_Grid___str__ A.a_Grid___str__ D.d_Grid___str__
  b_Grid___str__ : Binds K D.d_Grid___str__ ["self"] []
  g_is_integer : mg "is_integer" = some (.ref A.a_is_integer)
  F_is_integer : Fun K "is_integer" "is_integer" s_is_integer A.a_is_integer D.d_is_integer
  b_is_integer : Binds K D.d_is_integer ["value"] []
  g_is_point : mg "is_point" = some (.ref A.a_is_point)
  F_is_point : Fun K "is_point" "is_point" s_is_point A.a_is_point D.d_is_point
  b_is_point : Binds K D.d_is_point ["value"] []
  g_require_point : mg "require_point" = some (.ref A.a_require_point)
  F_require_point : Fun K "require_point" "require_point" s_require_point A.a_require_point D.d_require_point
  b_require_point : Binds K D.d_require_point ["value"] []
  F_Grid_direction_of : Fun K "direction_of" "Grid.direction_of" s_Grid_direction_of A.a_Grid_direction_of D.d_Grid_direction_of
  b_Grid_direction_of : Binds K D.d_Grid_direction_of ["self", "point"] []
  F_Grid_half : Fun K "half" "Grid.half" s_Grid_half A.a_Grid_half D.d_Grid_half
  b_Grid_half : Binds K D.d_Grid_half ["self"] []
  F_Grid_name : Fun K "name" "Grid.name" s_Grid_name A.a_Grid_name D.d_Grid_name
  b_Grid_name : Binds K D.d_Grid_name ["self"] []
  F_Grid_modulo : Fun K "modulo" "Grid.modulo" s_Grid_modulo A.a_Grid_modulo D.d_Grid_modulo
  b_Grid_modulo : Binds K D.d_Grid_modulo ["self", "direction"] []
  g_require_integer : mg "require_integer" = some (.ref A.a_require_integer)
  F_require_integer : Fun K "require_integer" "require_integer" s_require_integer A.a_require_integer D.d_require_integer
  b_require_integer : Binds K D.d_require_integer ["value"] []
  F_Grid_unit : Fun K "unit" "Grid.unit" s_Grid_unit A.a_Grid_unit D.d_Grid_unit
  b_Grid_unit : Binds K D.d_Grid_unit ["self", "direction"] []
  F_Grid_units : Fun K "units" "Grid.units" s_Grid_units A.a_Grid_units D.d_Grid_units
  b_Grid_units : Binds K D.d_Grid_units ["self"] []
  g__law_around : mg "_law_around" = some (.ref A.a__law_around)
  F__law_around : Fun K "_law_around" "_law_around" s__law_around A.a__law_around D.d__law_around
  b__law_around : Binds K D.d__law_around ["_law_plain"] []
  g__law_limit : mg "_law_limit" = some (.ref A.a__law_limit)
  F__law_limit : Fun K "_law_limit" "_law_limit" s__law_limit A.a__law_limit D.d__law_limit
  b__law_limit : Binds K D.d__law_limit [] []
  g__law_roll : mg "_law_roll" = some (.ref A.a__law_roll)
  F__law_roll : Fun K "_law_roll" "_law_roll" s__law_roll A.a__law_roll D.d__law_roll
  b__law_roll : Binds K D.d__law_roll ["_law_dice_here", "_law_total"] []
  g__law_pick : mg "_law_pick" = some (.ref A.a__law_pick)
  F__law_pick : Fun K "_law_pick" "_law_pick" s__law_pick A.a__law_pick D.d__law_pick
  b__law_pick : Binds K D.d__law_pick ["_law_dice_here", "_law_items"] []
  g__law_part : mg "_law_part" = some (.ref A.a__law_part)
  F__law_part : Fun K "_law_part" "_law_part" s__law_part A.a__law_part D.d__law_part
  b__law_part : Binds K D.d__law_part ["_law_dice_here"] []
  g__law_place : mg "_law_place" = some (.ref A.a__law_place)
  F__law_place : Fun K "_law_place" "_law_place" s__law_place A.a__law_place D.d__law_place
  b__law_place : Binds K D.d__law_place ["_law_dice_here"] []
  g__law_unit : mg "_law_unit" = some (.ref A.a__law_unit)
  F__law_unit : Fun K "_law_unit" "_law_unit" s__law_unit A.a__law_unit D.d__law_unit
  b__law_unit : Binds K D.d__law_unit ["_law_plain", "_law_direction"] []
  g__law_right : mg "_law_right" = some (.ref A.a__law_right)
  F__law_right : Fun K "_law_right" "_law_right" s__law_right A.a__law_right D.d__law_right
  b__law_right : Binds K D.d__law_right ["_law_dice_here", "_law_plain"] []
  g_law : mg "law" = some (.ref A.a_law)
  F_law : Fun K "law" "law" s_law A.a_law D.d_law
  b_law : Binds K D.d_law ["_law_script"] []
  g_Grid : mg "Grid" = some (.ref A.c_Grid)
  sc_Grid : SlX.SCls K A.c_Grid
  si_Grid : SlX.SIsi K A.c_Grid
  ki_Grid : PySem.W.kitOne K (.ref A.c_Grid) (.ref A.c_Grid) = some true
  kf_Grid_NoneType : PySem.W.kitOne K (.type "NoneType") (.ref A.c_Grid) = some false
  kf_Grid_bool : PySem.W.kitOne K (.type "bool") (.ref A.c_Grid) = some false
  kf_Grid_int : PySem.W.kitOne K (.type "int") (.ref A.c_Grid) = some false
  kf_Grid_str : PySem.W.kitOne K (.type "str") (.ref A.c_Grid) = some false
  kf_Grid_list : PySem.W.kitOne K (.type "list") (.ref A.c_Grid) = some false
  kf_Grid_tuple : PySem.W.kitOne K (.type "tuple") (.ref A.c_Grid) = some false
  kf_Grid_dict : PySem.W.kitOne K (.type "dict") (.ref A.c_Grid) = some false
  kb_Grid_bool : PySem.W.kitOne K (.ref A.c_Grid) (.type "bool") = some false
  kb_Grid_int : PySem.W.kitOne K (.ref A.c_Grid) (.type "int") = some false
  kb_Grid_str : PySem.W.kitOne K (.ref A.c_Grid) (.type "str") = some false
  kb_Grid_list : PySem.W.kitOne K (.ref A.c_Grid) (.type "list") = some false
  kb_Grid_tuple : PySem.W.kitOne K (.ref A.c_Grid) (.type "tuple") = some false
  kb_Grid_dict : PySem.W.kitOne K (.ref A.c_Grid) (.type "dict") = some false
  ko_Grid_Grid : PySem.W.kitOne K (.ref A.c_Grid) (.ref A.c_Grid) = some true
  kn_Grid_Grid : PySem.W.notFirst K A.c_Grid (.ref A.c_Grid) = true
  ne_Grid : PySem.W.findIn K (.ref A.c_Grid) "__ne__" = some (some (.builtin "object.__ne__"))
  sl_Grid_own_name : SlX.Slot1 K A.c_Grid "own_name" A.p_Grid_own_name 0
  sl_Grid_own_units : SlX.Slot1 K A.c_Grid "own_units" A.p_Grid_own_units 1
  mk_Grid : Mk K A.c_Grid A.a_Grid___init__
  m_Grid_modulo : Meth K A.c_Grid "modulo" A.a_Grid_modulo
  m_Grid_unit : Meth K A.c_Grid "unit" A.a_Grid_unit
  m_Grid_direction_of : Meth K A.c_Grid "direction_of" A.a_Grid_direction_of
  m_Grid___len__ : Meth K A.c_Grid "__len__" A.a_Grid___len__
  m_Grid___iter__ : Meth K A.c_Grid "__iter__" A.a_Grid___iter__
  m_Grid___eq__ : Meth K A.c_Grid "__eq__" A.a_Grid___eq__
  m_Grid___str__ : Meth K A.c_Grid "__str__" A.a_Grid___str__
  pa_Grid_name : PySem.W.findIn K (.ref A.c_Grid) "name" = some (some (.ref A.q_Grid_name))
  pg_Grid_name : PySem.W.specialIn K (.ref A.q_Grid_name) "__get__" = some (some (.builtin "property.__get__"))
  pt_Grid_name : PySem.W.takesIn K (.ref A.q_Grid_name) = some true
  pr_Grid_name : ∃ rest, PySem.W.recIn K A.q_Grid_name "property" = some (.ref A.a_Grid_name :: rest)
  pa_Grid_half : PySem.W.findIn K (.ref A.c_Grid) "half" = some (some (.ref A.q_Grid_half))
  pg_Grid_half : PySem.W.specialIn K (.ref A.q_Grid_half) "__get__" = some (some (.builtin "property.__get__"))
  pt_Grid_half : PySem.W.takesIn K (.ref A.q_Grid_half) = some true
  pr_Grid_half : ∃ rest, PySem.W.recIn K A.q_Grid_half "property" = some (.ref A.a_Grid_half :: rest)
  pa_Grid_units : PySem.W.findIn K (.ref A.c_Grid) "units" = some (some (.ref A.q_Grid_units))
  pg_Grid_units : PySem.W.specialIn K (.ref A.q_Grid_units) "__get__" = some (some (.builtin "property.__get__"))
  pt_Grid_units : PySem.W.takesIn K (.ref A.q_Grid_units) = some true
  pr_Grid_units : ∃ rest, PySem.W.recIn K A.q_Grid_units "property" = some (.ref A.a_Grid_units :: rest)
def Gm (A : Ad) : Nat → Addr
  | 0 => A.c_Grid
  | _ => 0
def tab_own_name : Nat → Option Nat
  | 0 => some 0
  | _ => none
def tab_own_units : Nat → Option Nat
  | 0 => some 1
  | _ => none
def cs_all : List Nat := [0]
section
variable {K : PySem.W.Frag} {mg : Str → Option Value} {A : Ad} {Df : Fd}
theorem tb_own_name (T : Txt K mg A Df) : SlTab K (Gm A) "own_name" tab_own_name := by
  intro c i h
  unfold tab_own_name at h
  split at h
  · cases h; exact ⟨T.sc_Grid, _, T.sl_Grid_own_name⟩
  · cases h
theorem tb_own_units (T : Txt K mg A Df) : SlTab K (Gm A) "own_units" tab_own_units := by
  intro c i h
  unfold tab_own_units at h
  split at h
  · cases h; exact ⟨T.sc_Grid, _, T.sl_Grid_own_units⟩
  · cases h
theorem cls_all (T : Txt K mg A Df) : Cls K (Gm A) cs_all where
  sc := by
    intro c hc
    simp only [cs_all, List.mem_cons, List.not_mem_nil, or_false] at hc
    rcases hc with rfl
    · exact T.sc_Grid
  si := by
    intro c hc
    simp only [cs_all, List.mem_cons, List.not_mem_nil, or_false] at hc
    rcases hc with rfl
    · exact T.si_Grid
  toB := by
    intro c hc
    simp only [cs_all, List.mem_cons, List.not_mem_nil, or_false] at hc
    rcases hc with rfl
    · intro t ht; simp only [Gl.asked, List.mem_cons, List.not_mem_nil, or_false] at ht; rcases ht with rfl | rfl | rfl | rfl | rfl | rfl <;> first | exact T.kb_Grid_bool | exact T.kb_Grid_int | exact T.kb_Grid_str | exact T.kb_Grid_list | exact T.kb_Grid_tuple | exact T.kb_Grid_dict
  ofB := by
    intro c hc
    simp only [cs_all, List.mem_cons, List.not_mem_nil, or_false] at hc
    rcases hc with rfl
    · intro t ht; simp only [Gl.kinds, List.mem_cons, List.not_mem_nil, or_false] at ht; rcases ht with rfl | rfl | rfl | rfl | rfl | rfl | rfl <;> first | exact T.kf_Grid_NoneType | exact T.kf_Grid_bool | exact T.kf_Grid_int | exact T.kf_Grid_str | exact T.kf_Grid_list | exact T.kf_Grid_tuple | exact T.kf_Grid_dict
  own := by
    intro c hc
    simp only [cs_all, List.mem_cons, List.not_mem_nil, or_false] at hc
    rcases hc with rfl
    · intro k hk; simp only [cs_all, List.mem_cons, List.not_mem_nil, or_false] at hk; rcases hk with rfl <;> first | exact T.ko_Grid_Grid
  nf := by
    intro c hc
    simp only [cs_all, List.mem_cons, List.not_mem_nil, or_false] at hc
    rcases hc with rfl
    · intro k hk; simp only [cs_all, List.mem_cons, List.not_mem_nil, or_false] at hk; rcases hk with rfl <;> first | exact T.kn_Grid_Grid

def d_GRIDS : Md.D := .tup [.str "square", .str "triangle"]
theorem rp_GRIDS (T : Txt K mg A Df) {F : Hp} {ι : List Addr} : Rp K (Gm A) F ι (.ref A.u_GRIDS) d_GRIDS := (.tup (T.t_GRIDS _) (.cons (.str _) (.cons (.str _) .nil)))
def d_SQUARE_UNITS : Md.D := .tup [.tup [.int (1), .int (0)], .tup [.int (0), .int (1)], .tup [.int (-1), .int (0)], .tup [.int (0), .int (-1)]]
theorem rp_SQUARE_UNITS (T : Txt K mg A Df) {F : Hp} {ι : List Addr} : Rp K (Gm A) F ι (.ref A.u_SQUARE_UNITS) d_SQUARE_UNITS := (.tup (T.t_SQUARE_UNITS _) (.cons (.tup (T.t_SQUARE_UNITS_0 _) (.cons (.int _) (.cons (.int _) .nil))) (.cons (.tup (T.t_SQUARE_UNITS_1 _) (.cons (.int _) (.cons (.int _) .nil))) (.cons (.tup (T.t_SQUARE_UNITS_2 _) (.cons (.int _) (.cons (.int _) .nil))) (.cons (.tup (T.t_SQUARE_UNITS_3 _) (.cons (.int _) (.cons (.int _) .nil))) .nil)))))
def k_SQUARE_UNITS : Md.D := .ktp [.tup [.int (1), .int (0)], .tup [.int (0), .int (1)], .tup [.int (-1), .int (0)], .tup [.int (0), .int (-1)]]
theorem rk_SQUARE_UNITS (T : Txt K mg A Df) {F : Hp} {ι : List Addr} : Rp K (Gm A) F ι (.ref A.u_SQUARE_UNITS) k_SQUARE_UNITS := (.ktp T.kk_SQUARE_UNITS (T.t_SQUARE_UNITS _) (.cons (.tup (T.t_SQUARE_UNITS_0 _) (.cons (.int _) (.cons (.int _) .nil))) (.cons (.tup (T.t_SQUARE_UNITS_1 _) (.cons (.int _) (.cons (.int _) .nil))) (.cons (.tup (T.t_SQUARE_UNITS_2 _) (.cons (.int _) (.cons (.int _) .nil))) (.cons (.tup (T.t_SQUARE_UNITS_3 _) (.cons (.int _) (.cons (.int _) .nil))) .nil)))))
def d_TRIANGLE_UNITS : Md.D := .tup [.tup [.int (1), .int (0)], .tup [.int (0), .int (1)], .tup [.int (-1), .int (1)], .tup [.int (-1), .int (0)], .tup [.int (0), .int (-1)], .tup [.int (1), .int (-1)]]
theorem rp_TRIANGLE_UNITS (T : Txt K mg A Df) {F : Hp} {ι : List Addr} : Rp K (Gm A) F ι (.ref A.u_TRIANGLE_UNITS) d_TRIANGLE_UNITS := (.tup (T.t_TRIANGLE_UNITS _) (.cons (.tup (T.t_TRIANGLE_UNITS_0 _) (.cons (.int _) (.cons (.int _) .nil))) (.cons (.tup (T.t_TRIANGLE_UNITS_1 _) (.cons (.int _) (.cons (.int _) .nil))) (.cons (.tup (T.t_TRIANGLE_UNITS_2 _) (.cons (.int _) (.cons (.int _) .nil))) (.cons (.tup (T.t_TRIANGLE_UNITS_3 _) (.cons (.int _) (.cons (.int _) .nil))) (.cons (.tup (T.t_TRIANGLE_UNITS_4 _) (.cons (.int _) (.cons (.int _) .nil))) (.cons (.tup (T.t_TRIANGLE_UNITS_5 _) (.cons (.int _) (.cons (.int _) .nil))) .nil)))))))
def k_TRIANGLE_UNITS : Md.D := .ktp [.tup [.int (1), .int (0)], .tup [.int (0), .int (1)], .tup [.int (-1), .int (1)], .tup [.int (-1), .int (0)], .tup [.int (0), .int (-1)], .tup [.int (1), .int (-1)]]
theorem rk_TRIANGLE_UNITS (T : Txt K mg A Df) {F : Hp} {ι : List Addr} : Rp K (Gm A) F ι (.ref A.u_TRIANGLE_UNITS) k_TRIANGLE_UNITS := (.ktp T.kk_TRIANGLE_UNITS (T.t_TRIANGLE_UNITS _) (.cons (.tup (T.t_TRIANGLE_UNITS_0 _) (.cons (.int _) (.cons (.int _) .nil))) (.cons (.tup (T.t_TRIANGLE_UNITS_1 _) (.cons (.int _) (.cons (.int _) .nil))) (.cons (.tup (T.t_TRIANGLE_UNITS_2 _) (.cons (.int _) (.cons (.int _) .nil))) (.cons (.tup (T.t_TRIANGLE_UNITS_3 _) (.cons (.int _) (.cons (.int _) .nil))) (.cons (.tup (T.t_TRIANGLE_UNITS_4 _) (.cons (.int _) (.cons (.int _) .nil))) (.cons (.tup (T.t_TRIANGLE_UNITS_5 _) (.cons (.int _) (.cons (.int _) .nil))) .nil)))))))
end
end Law

set_option Elab.async false
set_option maxRecDepth 100000
set_option maxHeartbeats 4000000
set_option linter.all false
namespace Law
open PySem PySem.Spec PyProof.Rows L2 Md
section
variable {P : Program} {w : World} {K : PySem.W.Frag} {mg : Str → Option Value} {base : Heap} {A : Ad} {Df : Fd}
def m_Grid___eq__ : Fn := bodyD 2 0
  (retS (andD (isiD (varD 1) (isiC cs_all 0)) (op2 eqD (bindX (varD 0) fun _ => attrD tab_own_name) (bindX (varD 1) fun _ => attrD tab_own_name))))
theorem ok_Grid___eq__ (T : Txt K mg A Df) (nd : base.NoDigits) : FnOk P w K mg base (L2.CX P w) 1 A.a_Grid___eq__ Df.d_Grid___eq__ ["self", "value"] (spD K (Gm A) m_Grid___eq__) := by
  refine okD T.F_Grid___eq__ sc_Grid___eq__ rfl fun cdv Ar outer s H E hr => ?_
  exact ⟨_, (ds_one (ds_ret (de_and (de_isiC (k := 0) (cls_all T) (by rfl) T.z_isinstance (by rfl) T.g_Grid ⟨pv 1, gd_var⟩) (de_one (de_cmp (op_eqA hr) og_eq (de_attr (tb_own_name T) ⟨pv 0, gd_var⟩) (de_attr (tb_own_name T) ⟨pv 1, gd_var⟩) (nomark _))))))⟩

def m_Grid___init__ : Fn := bodyD 2 0
  (seqS (ifS (orT (notT (testD (isiD (varD 1) (isiT cs_all "str")))) (testD (op2 ninD (varD 1) (cD d_GRIDS))))
  badS
  nilS)
  (seqS (setAttrS tab_own_name (varD 0) (varD 1))
  (setAttrS tab_own_units (varD 0) (ifD (testD (op2 eqD (varD 1) (cD (.str "square")))) (cD k_SQUARE_UNITS) (cD k_TRIANGLE_UNITS)))))
theorem ok_Grid___init__ (T : Txt K mg A Df) (nd : base.NoDigits) : FnOk P w K mg base (L2.CX P w) 1 A.a_Grid___init__ Df.d_Grid___init__ ["self", "name"] (spD K (Gm A) m_Grid___init__) := by
  refine okD T.F_Grid___init__ sc_Grid___init__ rfl fun cdv Ar outer s H E hr => ?_
  exact ⟨_, (ds_cons (ds_if (DW.dt (dw_or (dt_not (dt_val (de_isiT (T := "str") (cls_all T) (by rfl) T.z_isinstance (by rfl) T.z_str (by decide +kernel) ⟨pv 1, gd_var⟩))) (dw_or1 (dt_cmp (op_ninA hr) og_nin ⟨pv 1, gd_var⟩ (de_glob (by rfl) T.c_GRIDS (fun _ _ => rp_GRIDS T)) (by rfl)))))
    (ds_one ds_never)
    ds_nil)
    (ds_cons (ds_attr (tb_own_name T) ⟨pv 0, gd_var⟩ ⟨pv 1, gd_var⟩)
    (ds_one (ds_attr (tb_own_units T) ⟨pv 0, gd_var⟩ (de_if (dt_cmp (op_eqA hr) og_eq ⟨pv 1, gd_var⟩ (de_glob (by rfl) T.c_SQUARE (fun _ _ => .str _)) (nomark _)) (de_glob (by rfl) T.c_SQUARE_UNITS (fun _ _ => rk_SQUARE_UNITS T)) (de_glob (by rfl) T.c_TRIANGLE_UNITS (fun _ _ => rk_TRIANGLE_UNITS T)))))))⟩

def m__law_dice : Fn := bodyD 2 2
  (seqS (asgS (ifD (testD (op2 ltD (varD 1) (callB lenD (consD (varD 0) nilD)))) (callB intA (consD (op2 ixD (varD 0) (varD 1)) nilD)) (op2 addD (op2 mulD (cD (.int 53)) (varD 1)) (cD (.int 11)))) (nameG 2))
  (seqS (asgS (op2 modD (callB maxD (consD (cD (.int 0)) (consD (op2 subD (callB absD (consD (varD 2) nilD)) (op2 powD (cD (.int 10)) (cD (.int 16)))) nilD))) (op2 mulD (op2 powD (cD (.int 10)) (cD (.int 60))) (op2 powD (cD (.int 10)) (cD (.int 60))))) (nameG 3))
  (retS (lstC (consD (varD 3) (consD (op2 addD (op2 addD (op2 addD (op2 mulD (op2 modD (callB absD (consD (varD 2) nilD)) (cD (.int 1152921504606846883))) (cD (.int 43))) (op2 mulD (cD (.int 709)) (varD 1))) (op2 mulD (cD (.int 17)) (callB intA (consD (op2 ltD (varD 2) (cD (.int 0))) nilD)))) (cD (.int 5))) (consD (cD (.int 0)) nilD)))))))
theorem ok__law_dice (T : Txt K mg A Df) (nd : base.NoDigits) : FnOk P w K mg base (L2.CX P w) 1 A.a__law_dice Df.d__law_dice ["_law_script", "_law_spot"] (spD K (Gm A) m__law_dice) := by
  refine okD T.F__law_dice sc__law_dice rfl fun cdv Ar outer s H E hr => ?_
  exact ⟨_, (ds_cons (ds_set (i := 2) sc__law_dice.nd rfl (.inl rfl) (de_if (dt_cmp op_ltA og_cmp ⟨pv 1, gd_var⟩ (de_callB call_lenAA cg_len (by rfl) T.z_len (by decide +kernel) (da_cons ⟨pv 0, gd_var⟩ da_nil)) (nomark _)) (de_callTy call_intA cg_intA (by rfl) T.z_int (by decide +kernel) (da_cons (de_ix hr ⟨pv 0, gd_var⟩ ⟨pv 1, gd_var⟩) da_nil)) (de_op op_addA og_add (de_op op_mulAA og_mul de_int ⟨pv 1, gd_var⟩) de_int)))
    (ds_cons (ds_set (i := 3) sc__law_dice.nd rfl (.inl rfl) (de_op op_mod og_mod (de_callB (call_max2 (by rfl)) cg_max (by rfl) T.z_max (by decide +kernel) (da_cons de_int (da_cons (de_op op_sub og_sub (de_callB call_abs cg_abs (by rfl) T.z_abs (by decide +kernel) (da_cons ⟨pv 2, gd_var⟩ da_nil)) (de_op Gl.op_powA og_pow de_int de_int)) da_nil))) (de_op op_mulAA og_mul (de_op Gl.op_powA og_pow de_int de_int) (de_op Gl.op_powA og_pow de_int de_int))))
    (ds_one (ds_ret (de_lstC (da_cons ⟨pv 3, gd_var⟩ (da_cons (de_op op_addA og_add (de_op op_addA og_add (de_op op_addA og_add (de_op op_mulAA og_mul (de_op op_mod og_mod (de_callB call_abs cg_abs (by rfl) T.z_abs (by decide +kernel) (da_cons ⟨pv 2, gd_var⟩ da_nil)) de_int) de_int) (de_op op_mulAA og_mul de_int ⟨pv 1, gd_var⟩)) (de_op op_mulAA og_mul de_int (de_callTy call_intA cg_intA (by rfl) T.z_int (by decide +kernel) (da_cons (de_cmp op_ltA og_cmp ⟨pv 2, gd_var⟩ de_int (nomark _)) da_nil)))) de_int) (da_cons de_int da_nil))))))))⟩

def m_Grid___iter__ : Fn := bodyI (bindX (bindX (varD 0) fun _ => attrD tab_own_units) fun _ => unkD)
theorem ok_Grid___iter__ (T : Txt K mg A Df) (nd : base.NoDigits) : FnI P w K mg base 1 A.a_Grid___iter__ (spIt K (Gm A) m_Grid___iter__) := by
  refine okIt T.F_Grid___iter__ sc_Grid___iter__ T.b_Grid___iter__ rfl rfl fun cdv Ar outer s H E hr => ?_
  exact ⟨_, it_ret (de_unk (de_attr (tb_own_units T) ⟨pv 0, gd_var⟩)) (by rfl) T.z_iter⟩

def m_Grid___len__ : Fn := bodyD 1 0
  (retS (callB lenD (consD (bindX (bindX (varD 0) fun _ => attrD tab_own_units) fun _ => unkD) nilD)))
theorem ok_Grid___len__ (T : Txt K mg A Df) (nd : base.NoDigits) : FnOk P w K mg base (L2.CX P w) 1 A.a_Grid___len__ Df.d_Grid___len__ ["self"] (spD K (Gm A) m_Grid___len__) := by
  refine okD T.F_Grid___len__ sc_Grid___len__ rfl fun cdv Ar outer s H E hr => ?_
  exact ⟨_, (ds_one (ds_ret (de_callB call_lenAA cg_len (by rfl) T.z_len (by decide +kernel) (da_cons (de_unk (de_attr (tb_own_units T) ⟨pv 0, gd_var⟩)) da_nil))))⟩

def m_Grid___str__ : Fn := bodyD 1 0
  (retS (callB strA (consD (bindX (varD 0) fun _ => attrD tab_own_name) nilD)))
theorem ok_Grid___str__ (T : Txt K mg A Df) (nd : base.NoDigits) : FnOk P w K mg base (L2.CX P w) 1 A.a_Grid___str__ Df.d_Grid___str__ ["self"] (spD K (Gm A) m_Grid___str__) := by
  refine okD T.F_Grid___str__ sc_Grid___str__ rfl fun cdv Ar outer s H E hr => ?_
  exact ⟨_, (ds_one (ds_ret (de_callTy call_strA cg_strA (by rfl) T.z_str (by decide +kernel) (da_cons (de_attr (tb_own_name T) ⟨pv 0, gd_var⟩) da_nil))))⟩

def m_is_integer : Fn := bodyD 1 0
  (retS (andD (isiD (varD 0) (isiT cs_all "int")) (andD (bindX (isiD (varD 0) (isiT cs_all "bool")) fun _ => notD) (chainD ltD ltD (bindX (cD (.int ((10 ^ 50) ^ 8))) fun _ => negD) (varD 0) (cD (.int ((10 ^ 50) ^ 8)))))))
theorem ok_is_integer (T : Txt K mg A Df) (nd : base.NoDigits) : FnOk P w K mg base (L2.CX P w) 1 A.a_is_integer Df.d_is_integer ["value"] (spD K (Gm A) m_is_integer) := by
  refine okD T.F_is_integer sc_is_integer rfl fun cdv Ar outer s H E hr => ?_
  exact ⟨_, (ds_one (ds_ret (de_and (de_isiT (T := "int") (cls_all T) (by rfl) T.z_isinstance (by rfl) T.z_int (by decide +kernel) ⟨pv 0, gd_var⟩) (de_and (de_not (de_isiT (T := "bool") (cls_all T) (by rfl) T.z_isinstance (by rfl) T.z_bool (by decide +kernel) ⟨pv 0, gd_var⟩)) (de_one (de_chain op_ltA og_cmp op_ltA og_cmp (de_neg (de_glob (by rfl) T.c_LIMIT (fun _ _ => .int _))) ⟨pv 0, gd_var⟩ (de_glob (by rfl) T.c_LIMIT (fun _ _ => .int _))))))))⟩

def m_is_point : Fn := bodyD 1 0
  (retS (andD (isiD (varD 0) (isiT cs_all "tuple")) (andD (op2 eqD (callB lenD (consD (varD 0) nilD)) (cD (.int 2))) (andD (callD m_is_integer (consD (op2 ixD (varD 0) (cD (.int 0))) nilD)) (callD m_is_integer (consD (op2 ixD (varD 0) (cD (.int 1))) nilD))))))
theorem ok_is_point (T : Txt K mg A Df) (nd : base.NoDigits) : FnOk P w K mg base (L2.CX P w) 2 A.a_is_point Df.d_is_point ["value"] (spD K (Gm A) m_is_point) := by
  have G_is_integer := ok_is_integer (P := P) (w := w) (base := base) T nd
  refine okD T.F_is_point sc_is_point rfl fun cdv Ar outer s H E hr => ?_
  exact ⟨_, (ds_one (ds_ret (de_and (de_isiT (T := "tuple") (cls_all T) (by rfl) T.z_isinstance (by rfl) T.z_tuple (by decide +kernel) ⟨pv 0, gd_var⟩) (de_and (de_cmp (op_eqA hr) og_eq (de_callB call_lenAA cg_len (by rfl) T.z_len (by decide +kernel) (da_cons ⟨pv 0, gd_var⟩ da_nil)) de_int (nomark _)) (de_and (de_call G_is_integer (takes_of rfl rfl rfl rfl) (hr.mono (by decide)) (by rfl) T.g_is_integer T.F_is_integer.kp T.b_is_integer (da_cons (de_ix hr ⟨pv 0, gd_var⟩ de_int) da_nil)) (de_one (de_call G_is_integer (takes_of rfl rfl rfl rfl) (hr.mono (by decide)) (by rfl) T.g_is_integer T.F_is_integer.kp T.b_is_integer (da_cons (de_ix hr ⟨pv 0, gd_var⟩ de_int) da_nil))))))))⟩

def m_require_point : Fn := bodyD 1 0
  (ifS (notT (testD (callD m_is_point (consD (varD 0) nilD))))
  badS
  nilS)
theorem ok_require_point (T : Txt K mg A Df) (nd : base.NoDigits) : FnOk P w K mg base (L2.CX P w) 3 A.a_require_point Df.d_require_point ["value"] (spD K (Gm A) m_require_point) := by
  have G_is_point := ok_is_point (P := P) (w := w) (base := base) T nd
  refine okD T.F_require_point sc_require_point rfl fun cdv Ar outer s H E hr => ?_
  exact ⟨_, (ds_one (ds_if (dt_not (dt_val (de_call G_is_point (takes_of rfl rfl rfl rfl) (hr.mono (by decide)) (by rfl) T.g_is_point T.F_is_point.kp T.b_is_point (da_cons ⟨pv 0, gd_var⟩ da_nil))))
    (ds_one ds_never)
    ds_nil))⟩

def m_Grid_direction_of : Fn := bodyD 2 0
  (seqS (exprS (callD m_require_point (consD (varD 1) nilD)))
  (retS (ifD (testD (op2 inD (varD 1) (bindX (bindX (varD 0) fun _ => attrD tab_own_units) fun _ => unkD))) (bmD isT idxTM (bindX (varD 0) fun _ => attrD tab_own_units) (consD (varD 1) nilD)) (cD .non))))
theorem ok_Grid_direction_of (T : Txt K mg A Df) (nd : base.NoDigits) : FnOk P w K mg base (L2.CX P w) 4 A.a_Grid_direction_of Df.d_Grid_direction_of ["self", "point"] (spD K (Gm A) m_Grid_direction_of) := by
  have G_require_point := ok_require_point (P := P) (w := w) (base := base) T nd
  refine okD T.F_Grid_direction_of sc_Grid_direction_of rfl fun cdv Ar outer s H E hr => ?_
  exact ⟨_, (ds_cons (ds_expr (de_call G_require_point (takes_of rfl rfl rfl rfl) (hr.mono (by decide)) (by rfl) T.g_require_point T.F_require_point.kp T.b_require_point (da_cons ⟨pv 1, gd_var⟩ da_nil)))
    (ds_one (ds_ret (de_if (dt_cmp (op_inA hr) og_in ⟨pv 1, gd_var⟩ (de_unk (de_attr (tb_own_units T) ⟨pv 0, gd_var⟩)) (by rfl)) (de_bm ty_T mg_idxT PySem.F.plainAttrs_tuple PySem.F.slot_tuple_index PySem.F.type_tuple_index (mt_idxT hr) (de_attr (tb_own_units T) ⟨pv 0, gd_var⟩) (da_cons ⟨pv 1, gd_var⟩ da_nil)) de_non))))⟩

def m_Grid_half : Fn := bodyD 1 0
  (retS (op2 divD (callB lenD (consD (bindX (bindX (varD 0) fun _ => attrD tab_own_units) fun _ => unkD) nilD)) (cD (.int 2))))
theorem ok_Grid_half (T : Txt K mg A Df) (nd : base.NoDigits) : FnOk P w K mg base (L2.CX P w) 1 A.a_Grid_half Df.d_Grid_half ["self"] (spD K (Gm A) m_Grid_half) := by
  refine okD T.F_Grid_half sc_Grid_half rfl fun cdv Ar outer s H E hr => ?_
  exact ⟨_, (ds_one (ds_ret (de_op Gl.op_fdivA og_div (de_callB call_lenAA cg_len (by rfl) T.z_len (by decide +kernel) (da_cons (de_unk (de_attr (tb_own_units T) ⟨pv 0, gd_var⟩)) da_nil)) de_int)))⟩

def m_Grid_name : Fn := bodyD 1 0
  (retS (bindX (varD 0) fun _ => attrD tab_own_name))
theorem ok_Grid_name (T : Txt K mg A Df) (nd : base.NoDigits) : FnOk P w K mg base (L2.CX P w) 1 A.a_Grid_name Df.d_Grid_name ["self"] (spD K (Gm A) m_Grid_name) := by
  refine okD T.F_Grid_name sc_Grid_name rfl fun cdv Ar outer s H E hr => ?_
  exact ⟨_, (ds_one (ds_ret (de_attr (tb_own_name T) ⟨pv 0, gd_var⟩)))⟩

def m_Grid_modulo : Fn := bodyD 2 0
  (retS (op2 modD (varD 1) (callB lenD (consD (bindX (bindX (varD 0) fun _ => attrD tab_own_units) fun _ => unkD) nilD))))
theorem ok_Grid_modulo (T : Txt K mg A Df) (nd : base.NoDigits) : FnOk P w K mg base (L2.CX P w) 1 A.a_Grid_modulo Df.d_Grid_modulo ["self", "direction"] (spD K (Gm A) m_Grid_modulo) := by
  refine okD T.F_Grid_modulo sc_Grid_modulo rfl fun cdv Ar outer s H E hr => ?_
  exact ⟨_, (ds_one (ds_ret (de_op op_mod og_mod ⟨pv 1, gd_var⟩ (de_callB call_lenAA cg_len (by rfl) T.z_len (by decide +kernel) (da_cons (de_unk (de_attr (tb_own_units T) ⟨pv 0, gd_var⟩)) da_nil)))))⟩

def m_require_integer : Fn := bodyD 1 0
  (ifS (notT (testD (callD m_is_integer (consD (varD 0) nilD))))
  badS
  nilS)
theorem ok_require_integer (T : Txt K mg A Df) (nd : base.NoDigits) : FnOk P w K mg base (L2.CX P w) 2 A.a_require_integer Df.d_require_integer ["value"] (spD K (Gm A) m_require_integer) := by
  have G_is_integer := ok_is_integer (P := P) (w := w) (base := base) T nd
  refine okD T.F_require_integer sc_require_integer rfl fun cdv Ar outer s H E hr => ?_
  exact ⟨_, (ds_one (ds_if (dt_not (dt_val (de_call G_is_integer (takes_of rfl rfl rfl rfl) (hr.mono (by decide)) (by rfl) T.g_is_integer T.F_is_integer.kp T.b_is_integer (da_cons ⟨pv 0, gd_var⟩ da_nil))))
    (ds_one ds_never)
    ds_nil))⟩

def m_Grid_unit : Fn := bodyD 2 0
  (seqS (exprS (callD m_require_integer (consD (varD 1) nilD)))
  (retS (op2 ixD (bindX (bindX (varD 0) fun _ => attrD tab_own_units) fun _ => unkD) (methD 0 m_Grid_modulo (varD 0) (consD (varD 1) nilD)))))
theorem ok_Grid_unit (T : Txt K mg A Df) (nd : base.NoDigits) : FnOk P w K mg base (L2.CX P w) 4 A.a_Grid_unit Df.d_Grid_unit ["self", "direction"] (spD K (Gm A) m_Grid_unit) := by
  have G_require_integer := ok_require_integer (P := P) (w := w) (base := base) T nd
  have R_Grid_modulo := Gl.FnOk.pos (ok_Grid_modulo (P := P) (w := w) (base := base) T nd) T.b_Grid_modulo
  refine okD T.F_Grid_unit sc_Grid_unit rfl fun cdv Ar outer s H E hr => ?_
  exact ⟨_, (ds_cons (ds_expr (de_call G_require_integer (takes_of rfl rfl rfl rfl) (hr.mono (by decide)) (by rfl) T.g_require_integer T.F_require_integer.kp T.b_require_integer (da_cons ⟨pv 1, gd_var⟩ da_nil)))
    (ds_one (ds_ret (de_ix hr (de_unk (de_attr (tb_own_units T) ⟨pv 0, gd_var⟩)) (de_meth (c := 0) ⟨pv 0, gd_var⟩ T.sc_Grid T.m_Grid_modulo R_Grid_modulo (takes_of rfl rfl rfl rfl) (hr.mono (by decide)) (da_cons ⟨pv 1, gd_var⟩ da_nil))))))⟩

def m_Grid_units : Fn := bodyD 1 0
  (retS (bindX (bindX (varD 0) fun _ => attrD tab_own_units) fun _ => unkD))
theorem ok_Grid_units (T : Txt K mg A Df) (nd : base.NoDigits) : FnOk P w K mg base (L2.CX P w) 1 A.a_Grid_units Df.d_Grid_units ["self"] (spD K (Gm A) m_Grid_units) := by
  refine okD T.F_Grid_units sc_Grid_units rfl fun cdv Ar outer s H E hr => ?_
  exact ⟨_, (ds_one (ds_ret (de_unk (de_attr (tb_own_units T) ⟨pv 0, gd_var⟩))))⟩

def m__law_around : Fn := bodyD 1 0
  (retS (ifD (testD (op2 eqD (op2 ixD (varD 0) (cD (.str "grid"))) (cD (.str "square")))) (cD (.int 4)) (cD (.int 6))))
theorem ok__law_around (T : Txt K mg A Df) (nd : base.NoDigits) : FnOk P w K mg base (L2.CX P w) 1 A.a__law_around Df.d__law_around ["_law_plain"] (spD K (Gm A) m__law_around) := by
  refine okD T.F__law_around sc__law_around rfl fun cdv Ar outer s H E hr => ?_
  exact ⟨_, (ds_one (ds_ret (de_if (dt_cmp (op_eqA hr) og_eq (de_ix hr ⟨pv 0, gd_var⟩ de_str) de_str (nomark _)) de_int de_int)))⟩

def m__law_limit : Fn := bodyD 0 0
  (retS (op2 powD (op2 powD (cD (.int 10)) (cD (.int 50))) (cD (.int 8))))
theorem ok__law_limit (T : Txt K mg A Df) (nd : base.NoDigits) : FnOk P w K mg base (L2.CX P w) 1 A.a__law_limit Df.d__law_limit [] (spD K (Gm A) m__law_limit) := by
  refine okD T.F__law_limit sc__law_limit rfl fun cdv Ar outer s H E hr => ?_
  exact ⟨_, (ds_one (ds_ret (de_op Gl.op_powA og_pow (de_op Gl.op_powA og_pow de_int de_int) de_int)))⟩

def m__law_roll : Fn := bodyD 2 3
  (seqS (ifS (testD (op2 gtD (op2 ixD (varD 0) (cD (.int 0))) (cD (.int 0))))
  (seqS (asgS (op2 modD (callB intA (consD (op2 ixD (varD 0) (cD (.int 0))) nilD)) (varD 1)) (nameG 2))
  (seqS (setItS (varD 0) (cD (.int 0)) (op2 divD (op2 ixD (varD 0) (cD (.int 0))) (varD 1)))
  (retS (varD 2))))
  nilS)
  (seqS (setItS (varD 0) (cD (.int 2)) (op2 addD (op2 ixD (varD 0) (cD (.int 2))) (cD (.int 1))))
  (seqS (asgS (op2 modD (callB intA (consD (op2 addD (op2 ixD (varD 0) (cD (.int 1))) (op2 mulD (cD (.int 15485863)) (op2 ixD (varD 0) (cD (.int 2))))) nilD)) (cD (.int 2305843009213693693))) (nameG 3))
  (seqS (asgS (op2 addD (op2 mulD (op2 modD (callB intA (consD (op2 addD (op2 mulD (varD 3) (varD 3)) (op2 mulD (cD (.int 89)) (op2 ixD (varD 0) (cD (.int 2))))) nilD)) (cD (.int 1152921504606846869))) (cD (.int 9699667))) (varD 3)) (nameG 4))
  (retS (op2 modD (callB intA (consD (op2 divD (varD 4) (cD (.int 65536))) nilD)) (varD 1)))))))
theorem ok__law_roll (T : Txt K mg A Df) (nd : base.NoDigits) : FnOk P w K mg base (L2.CX P w) 1 A.a__law_roll Df.d__law_roll ["_law_dice_here", "_law_total"] (spD K (Gm A) m__law_roll) := by
  refine okD T.F__law_roll sc__law_roll rfl fun cdv Ar outer s H E hr => ?_
  exact ⟨_, (ds_cons (ds_if (dt_cmp op_gtA og_cmp (de_ix hr ⟨pv 0, gd_var⟩ de_int) de_int (nomark _))
    (ds_cons (ds_set (i := 2) sc__law_roll.nd rfl (.inl rfl) (de_op op_mod og_mod (de_callTy call_intA cg_intA (by rfl) T.z_int (by decide +kernel) (da_cons (de_ix hr ⟨pv 0, gd_var⟩ de_int) da_nil)) ⟨pv 1, gd_var⟩))
    (ds_cons (ds_setIt ⟨pv 0, gd_var⟩ de_int (de_op Gl.op_fdivA og_div (de_ix hr ⟨pv 0, gd_var⟩ de_int) ⟨pv 1, gd_var⟩))
    (ds_one (ds_ret ⟨pv 2, gd_var⟩))))
    ds_nil)
    (ds_cons (ds_setIt ⟨pv 0, gd_var⟩ de_int (de_op op_addA og_add (de_ix hr ⟨pv 0, gd_var⟩ de_int) de_int))
    (ds_cons (ds_set (i := 3) sc__law_roll.nd rfl (.inl rfl) (de_op op_mod og_mod (de_callTy call_intA cg_intA (by rfl) T.z_int (by decide +kernel) (da_cons (de_op op_addA og_add (de_ix hr ⟨pv 0, gd_var⟩ de_int) (de_op op_mulAA og_mul de_int (de_ix hr ⟨pv 0, gd_var⟩ de_int))) da_nil)) de_int))
    (ds_cons (ds_set (i := 4) sc__law_roll.nd rfl (.inl rfl) (de_op op_addA og_add (de_op op_mulAA og_mul (de_op op_mod og_mod (de_callTy call_intA cg_intA (by rfl) T.z_int (by decide +kernel) (da_cons (de_op op_addA og_add (de_op op_mulAA og_mul ⟨pv 3, gd_var⟩ ⟨pv 3, gd_var⟩) (de_op op_mulAA og_mul de_int (de_ix hr ⟨pv 0, gd_var⟩ de_int))) da_nil)) de_int) de_int) ⟨pv 3, gd_var⟩))
    (ds_one (ds_ret (de_op op_mod og_mod (de_callTy call_intA cg_intA (by rfl) T.z_int (by decide +kernel) (da_cons (de_op Gl.op_fdivA og_div ⟨pv 4, gd_var⟩ de_int) da_nil)) ⟨pv 1, gd_var⟩)))))))⟩

def m__law_pick : Fn := bodyD 2 0
  (retS (op2 ixD (varD 1) (callD m__law_roll (consD (varD 0) (consD (callB lenD (consD (varD 1) nilD)) nilD)))))
theorem ok__law_pick (T : Txt K mg A Df) (nd : base.NoDigits) : FnOk P w K mg base (L2.CX P w) 2 A.a__law_pick Df.d__law_pick ["_law_dice_here", "_law_items"] (spD K (Gm A) m__law_pick) := by
  have G__law_roll := ok__law_roll (P := P) (w := w) (base := base) T nd
  refine okD T.F__law_pick sc__law_pick rfl fun cdv Ar outer s H E hr => ?_
  exact ⟨_, (ds_one (ds_ret (de_ix hr ⟨pv 1, gd_var⟩ (de_call G__law_roll (takes_of rfl rfl rfl rfl) (hr.mono (by decide)) (by rfl) T.g__law_roll T.F__law_roll.kp T.b__law_roll (da_cons ⟨pv 0, gd_var⟩ (da_cons (de_callB call_lenAA cg_len (by rfl) T.z_len (by decide +kernel) (da_cons ⟨pv 1, gd_var⟩ da_nil)) da_nil))))))⟩

def m__law_part : Fn := bodyD 1 3
  (seqS (asgS (op2 subD (op2 subD (callD m__law_limit nilD) (cD (.int 1))) (callD m__law_roll (consD (varD 0) (consD (op2 powD (cD (.int 10)) (cD (.int 20))) nilD)))) (nameG 1))
  (seqS (asgS (lstD (consD (callD m__law_roll (consD (varD 0) (consD (cD (.int 9)) nilD))) (consD (callD m__law_roll (consD (varD 0) (consD (cD (.int 200)) nilD))) (consD (callD m__law_roll (consD (varD 0) (consD (op2 powD (cD (.int 10)) (cD (.int 30))) nilD))) (consD (varD 1) nilD))))) (nameG 2))
  (seqS (asgS (op2 ixD (varD 2) (callD m__law_pick (consD (varD 0) (consD (lstD (consD (cD (.int 0)) (consD (cD (.int 0)) (consD (cD (.int 0)) (consD (cD (.int 1)) (consD (cD (.int 1)) (consD (cD (.int 2)) (consD (cD (.int 3)) nilD)))))))) nilD)))) (nameG 3))
  (retS (ifD (testD (op2 eqD (callD m__law_roll (consD (varD 0) (consD (cD (.int 2)) nilD))) (cD (.int 0)))) (op2 subD (cD (.int 0)) (varD 3)) (varD 3))))))
theorem ok__law_part (T : Txt K mg A Df) (nd : base.NoDigits) : FnOk P w K mg base (L2.CX P w) 3 A.a__law_part Df.d__law_part ["_law_dice_here"] (spD K (Gm A) m__law_part) := by
  have G__law_limit := ok__law_limit (P := P) (w := w) (base := base) T nd
  have G__law_pick := ok__law_pick (P := P) (w := w) (base := base) T nd
  have G__law_roll := ok__law_roll (P := P) (w := w) (base := base) T nd
  refine okD T.F__law_part sc__law_part rfl fun cdv Ar outer s H E hr => ?_
  exact ⟨_, (ds_cons (ds_set (i := 1) sc__law_part.nd rfl (.inl rfl) (de_op op_sub og_sub (de_op op_sub og_sub (de_call0 G__law_limit (takes_of rfl rfl rfl rfl) (hr.mono (by decide)) (by rfl) T.g__law_limit T.F__law_limit.kp T.b__law_limit) de_int) (de_call G__law_roll (takes_of rfl rfl rfl rfl) (hr.mono (by decide)) (by rfl) T.g__law_roll T.F__law_roll.kp T.b__law_roll (da_cons ⟨pv 0, gd_var⟩ (da_cons (de_op Gl.op_powA og_pow de_int de_int) da_nil)))))
    (ds_cons (ds_set (i := 2) sc__law_part.nd rfl (.inl rfl) (de_lst (da_cons (de_call G__law_roll (takes_of rfl rfl rfl rfl) (hr.mono (by decide)) (by rfl) T.g__law_roll T.F__law_roll.kp T.b__law_roll (da_cons ⟨pv 0, gd_var⟩ (da_cons de_int da_nil))) (da_cons (de_call G__law_roll (takes_of rfl rfl rfl rfl) (hr.mono (by decide)) (by rfl) T.g__law_roll T.F__law_roll.kp T.b__law_roll (da_cons ⟨pv 0, gd_var⟩ (da_cons de_int da_nil))) (da_cons (de_call G__law_roll (takes_of rfl rfl rfl rfl) (hr.mono (by decide)) (by rfl) T.g__law_roll T.F__law_roll.kp T.b__law_roll (da_cons ⟨pv 0, gd_var⟩ (da_cons (de_op Gl.op_powA og_pow de_int de_int) da_nil))) (da_cons ⟨pv 1, gd_var⟩ da_nil))))))
    (ds_cons (ds_set (i := 3) sc__law_part.nd rfl (.inl rfl) (de_ix hr ⟨pv 2, gd_var⟩ (de_call G__law_pick (takes_of rfl rfl rfl rfl) (hr.mono (by decide)) (by rfl) T.g__law_pick T.F__law_pick.kp T.b__law_pick (da_cons ⟨pv 0, gd_var⟩ (da_cons (de_lst (da_cons de_int (da_cons de_int (da_cons de_int (da_cons de_int (da_cons de_int (da_cons de_int (da_cons de_int da_nil)))))))) da_nil)))))
    (ds_one (ds_ret (de_if (dt_cmp (op_eqA hr) og_eq (de_call G__law_roll (takes_of rfl rfl rfl rfl) (hr.mono (by decide)) (by rfl) T.g__law_roll T.F__law_roll.kp T.b__law_roll (da_cons ⟨pv 0, gd_var⟩ (da_cons de_int da_nil))) de_int (nomark _)) (de_op op_sub og_sub de_int ⟨pv 3, gd_var⟩) ⟨pv 3, gd_var⟩))))))⟩

def m__law_place : Fn := bodyD 1 0
  (retS (tupD (consD (callD m__law_part (consD (varD 0) nilD)) (consD (callD m__law_part (consD (varD 0) nilD)) nilD))))
theorem ok__law_place (T : Txt K mg A Df) (nd : base.NoDigits) : FnOk P w K mg base (L2.CX P w) 4 A.a__law_place Df.d__law_place ["_law_dice_here"] (spD K (Gm A) m__law_place) := by
  have G__law_part := ok__law_part (P := P) (w := w) (base := base) T nd
  refine okD T.F__law_place sc__law_place rfl fun cdv Ar outer s H E hr => ?_
  exact ⟨_, (ds_one (ds_ret (de_tup (da_cons (de_call G__law_part (takes_of rfl rfl rfl rfl) (hr.mono (by decide)) (by rfl) T.g__law_part T.F__law_part.kp T.b__law_part (da_cons ⟨pv 0, gd_var⟩ da_nil)) (da_cons (de_call G__law_part (takes_of rfl rfl rfl rfl) (hr.mono (by decide)) (by rfl) T.g__law_part T.F__law_part.kp T.b__law_part (da_cons ⟨pv 0, gd_var⟩ da_nil)) da_nil)))))⟩

def m__law_unit : Fn := bodyD 2 0
  (seqS (ifS (testD (op2 eqD (op2 ixD (varD 0) (cD (.str "grid"))) (cD (.str "square"))))
  (retS (op2 ixD (lstD (consD (tupD (consD (cD (.int 1)) (consD (cD (.int 0)) nilD))) (consD (tupD (consD (cD (.int 0)) (consD (cD (.int 1)) nilD))) (consD (tupD (consD (op2 subD (cD (.int 0)) (cD (.int 1))) (consD (cD (.int 0)) nilD))) (consD (tupD (consD (cD (.int 0)) (consD (op2 subD (cD (.int 0)) (cD (.int 1))) nilD))) nilD))))) (op2 modD (varD 1) (cD (.int 4)))))
  nilS)
  (retS (op2 ixD (lstD (consD (tupD (consD (cD (.int 1)) (consD (cD (.int 0)) nilD))) (consD (tupD (consD (cD (.int 0)) (consD (cD (.int 1)) nilD))) (consD (tupD (consD (op2 subD (cD (.int 0)) (cD (.int 1))) (consD (cD (.int 1)) nilD))) (consD (tupD (consD (op2 subD (cD (.int 0)) (cD (.int 1))) (consD (cD (.int 0)) nilD))) (consD (tupD (consD (cD (.int 0)) (consD (op2 subD (cD (.int 0)) (cD (.int 1))) nilD))) (consD (tupD (consD (cD (.int 1)) (consD (op2 subD (cD (.int 0)) (cD (.int 1))) nilD))) nilD))))))) (op2 modD (varD 1) (cD (.int 6))))))
theorem ok__law_unit (T : Txt K mg A Df) (nd : base.NoDigits) : FnOk P w K mg base (L2.CX P w) 1 A.a__law_unit Df.d__law_unit ["_law_plain", "_law_direction"] (spD K (Gm A) m__law_unit) := by
  refine okD T.F__law_unit sc__law_unit rfl fun cdv Ar outer s H E hr => ?_
  exact ⟨_, (ds_cons (ds_if (dt_cmp (op_eqA hr) og_eq (de_ix hr ⟨pv 0, gd_var⟩ de_str) de_str (nomark _))
    (ds_one (ds_ret (de_ix hr (de_lst (da_cons (de_tup (da_cons de_int (da_cons de_int da_nil))) (da_cons (de_tup (da_cons de_int (da_cons de_int da_nil))) (da_cons (de_tup (da_cons (de_op op_sub og_sub de_int de_int) (da_cons de_int da_nil))) (da_cons (de_tup (da_cons de_int (da_cons (de_op op_sub og_sub de_int de_int) da_nil))) da_nil))))) (de_op op_mod og_mod ⟨pv 1, gd_var⟩ de_int))))
    ds_nil)
    (ds_one (ds_ret (de_ix hr (de_lst (da_cons (de_tup (da_cons de_int (da_cons de_int da_nil))) (da_cons (de_tup (da_cons de_int (da_cons de_int da_nil))) (da_cons (de_tup (da_cons (de_op op_sub og_sub de_int de_int) (da_cons de_int da_nil))) (da_cons (de_tup (da_cons (de_op op_sub og_sub de_int de_int) (da_cons de_int da_nil))) (da_cons (de_tup (da_cons de_int (da_cons (de_op op_sub og_sub de_int de_int) da_nil))) (da_cons (de_tup (da_cons de_int (da_cons (de_op op_sub og_sub de_int de_int) da_nil))) da_nil))))))) (de_op op_mod og_mod ⟨pv 1, gd_var⟩ de_int)))))⟩

def m__law_right : Fn := body0 2 8
  (seqS (parS 2 3 (consD (makeD 0 m_Grid___init__ (consD (op2 ixD (varD 1) (cD (.str "grid"))) nilD)) (consD (callD m__law_around (consD (varD 1) nilD)) nilD)))
  (seqS (asgS (lcD (rng1D (consD (varD 3) nilD)) (nameG 7) yesD (callD m__law_unit (consD (varD 1) (consD (varD 7) nilD))) [7]) (nameG 4))
  (seqS (ifS (testD (op2 neD (callB (listOwn 0 m_Grid___iter__ m_Grid___len__) (consD (varD 2) nilD)) (varD 4)))
  (retS (cD (.bl false)))
  nilS)
  (seqS (asgS (tupD (consD (propD 0 m_Grid_name (varD 2)) (consD (propD 0 m_Grid_half (varD 2)) (consD (propD 0 m_Grid_units (varD 2)) (consD (callB (lenOwn 0 m_Grid___len__) (consD (varD 2) nilD)) (consD (callB (strOwn 0 m_Grid___str__) (consD (varD 2) nilD)) nilD)))))) (nameG 5))
  (seqS (ifS (testD (op2 neD (callB reprD (consD (varD 5) nilD)) (callB reprD (consD (tupD (consD (op2 ixD (varD 1) (cD (.str "grid"))) (consD (op2 divD (varD 3) (cD (.int 2))) (consD (callB tupleD (consD (varD 4) nilD)) (consD (varD 3) (consD (op2 ixD (varD 1) (cD (.str "grid"))) nilD)))))) nilD))))
  (retS (cD (.bl false)))
  nilS)
  (seqS (forS (rng1D (consD (cD (.int 6)) nilD)) (nameG 6)
  (seqS (asgS (callD m__law_part (consD (varD 0) nilD)) (nameG 7))
  (ifS (testD (op2 neD (callB reprD (consD (methD 0 m_Grid_unit (varD 2) (consD (varD 7) nilD)) nilD)) (callB reprD (consD (op2 ixD (varD 4) (op2 modD (varD 7) (varD 3))) nilD))))
  (retS (cD (.bl false)))
  nilS)))
  (seqS (forS (itD (op2 addD (lstD (consD (callD m__law_place (consD (varD 0) nilD)) (consD (tupD (consD (cD (.int 0)) (consD (cD (.int 0)) nilD))) (consD (tupD (consD (cD (.int 1)) (consD (cD (.int 1)) nilD))) (consD (tupD (consD (op2 subD (cD (.int 0)) (cD (.int 1))) (consD (cD (.int 1)) nilD))) (consD (tupD (consD (cD (.int 1)) (consD (op2 subD (cD (.int 0)) (cD (.int 1))) nilD))) (consD (tupD (consD (op2 subD (cD (.int 0)) (cD (.int 1))) (consD (op2 subD (cD (.int 0)) (cD (.int 1))) nilD))) (consD (tupD (consD (cD (.int 2)) (consD (cD (.int 0)) nilD))) nilD)))))))) (varD 4))) (nameG 8)
  (ifS (testD (op2 neD (callB reprD (consD (methD 0 m_Grid_direction_of (varD 2) (consD (varD 8) nilD)) nilD)) (callB reprD (consD (ifD (testD (op2 inD (varD 8) (varD 4))) (bmD isL indexM (varD 4) (consD (varD 8) nilD)) (cD .non)) nilD))))
  (retS (cD (.bl false)))
  nilS))
  (seqS (asgS (callD m__law_pick (consD (varD 0) (consD (lstD (consD (cD .non) (consD (op2 ixD (varD 1) (cD (.str "grid"))) (consD (cD (.int 0)) (consD (tupD nilD) (consD (varD 4) (consD (callB tupleD (consD (varD 4) nilD)) (consD (lstD (consD (varD 2) nilD)) (consD (tupD (consD (varD 2) nilD)) (consD (cD (.dic [])) nilD)))))))))) nilD))) (nameG 9))
  (retS (andD (op2 (cmpOwn cs_all 0 m_Grid___eq__ id) (varD 2) (makeD 0 m_Grid___init__ (consD (op2 ixD (varD 1) (cD (.str "grid"))) nilD))) (andD (bindX (op2 (cmpOwn cs_all 0 m_Grid___eq__ not) (varD 2) (varD 2)) fun _ => notD) (andD (op2 (cmpOwn cs_all 0 m_Grid___eq__ not) (varD 2) (varD 9)) (bindX (op2 (cmpOwn cs_all 0 m_Grid___eq__ id) (varD 2) (varD 9)) fun _ => notD)))))))))))))
theorem nb__law_right (xs : List D) (s : Sto) : m__law_right xs s = nb (m__law_right xs s) := body0_nb xs s
theorem ok__law_right (T : Txt K mg A Df) (nd : base.NoDigits) : Gl.FnG P w K mg base CX0 7 A.a__law_right Df.d__law_right ["_law_dice_here", "_law_plain"] (spD K (Gm A) m__law_right) := by
  have G_Grid___init__ := ok_Grid___init__ (P := P) (w := w) (base := base) T nd
  have G__law_around := ok__law_around (P := P) (w := w) (base := base) T nd
  have G__law_part := ok__law_part (P := P) (w := w) (base := base) T nd
  have G__law_pick := ok__law_pick (P := P) (w := w) (base := base) T nd
  have G__law_place := ok__law_place (P := P) (w := w) (base := base) T nd
  have G__law_unit := ok__law_unit (P := P) (w := w) (base := base) T nd
  have I_Grid___iter__ := ok_Grid___iter__ (P := P) (w := w) (base := base) T nd
  have R_Grid___eq__ := Gl.FnOk.pos (ok_Grid___eq__ (P := P) (w := w) (base := base) T nd) T.b_Grid___eq__
  have R_Grid___len__ := Gl.FnOk.pos (ok_Grid___len__ (P := P) (w := w) (base := base) T nd) T.b_Grid___len__
  have R_Grid___str__ := Gl.FnOk.pos (ok_Grid___str__ (P := P) (w := w) (base := base) T nd) T.b_Grid___str__
  have R_Grid_direction_of := Gl.FnOk.pos (ok_Grid_direction_of (P := P) (w := w) (base := base) T nd) T.b_Grid_direction_of
  have R_Grid_half := Gl.FnOk.pos (ok_Grid_half (P := P) (w := w) (base := base) T nd) T.b_Grid_half
  have R_Grid_name := Gl.FnOk.pos (ok_Grid_name (P := P) (w := w) (base := base) T nd) T.b_Grid_name
  have R_Grid_unit := Gl.FnOk.pos (ok_Grid_unit (P := P) (w := w) (base := base) T nd) T.b_Grid_unit
  have R_Grid_units := Gl.FnOk.pos (ok_Grid_units (P := P) (w := w) (base := base) T nd) T.b_Grid_units
  refine okD0 T.F__law_right sc__law_right rfl fun cdv Ar outer s H E hG hr => ?_
  exact ⟨_, (ds_cons (ds_par (i := 2) (j := 3) (by rfl) sc__law_right.nd rfl rfl (by decide) rfl rfl (da_cons (de_make (c := 0) T.mk_Grid G_Grid___init__ takes0 (hr.mono (by decide)) (by rfl) T.g_Grid T.b_Grid___init__ (da_cons (de_ix hr ⟨pv 1, gd_var⟩ de_str) da_nil)) (da_cons (de_call G__law_around takes0 (hr.mono (by decide)) (by rfl) T.g__law_around T.F__law_around.kp T.b__law_around (da_cons ⟨pv 1, gd_var⟩ da_nil)) da_nil)) (by rfl))
    (ds_cons (ds_setLc (i := 4) (own := [("_law_direction", 7)]) (by rfl) sc__law_right.nd rfl rfl (sw_true rfl rfl rfl (by decide +kernel)) (di_range1 (by rfl) T.z_range (da_cons ⟨pv 3, gd_var⟩ da_nil)) (blkOk_by (own := [("_law_direction", 7)]) (N := ["_law_dice_here", "_law_plain", "_law_grid", "_law_around_here", "_law_units", "_law_told", "_law_turn", "_law_direction", "_law_place_here", "_law_odd"]) (sc := defScope s__law_right) (by decide +kernel)) (fun _ _ _ _ _ => (dg_name (i := 7) sc__law_right.nd rfl (.inl rfl))) (fun _ _ _ _ _ => dts_nil) (fun _ _ _ _ _ => (de_call G__law_unit takes0 (hr.mono (by decide)) (by rfl) T.g__law_unit T.F__law_unit.kp T.b__law_unit (da_cons ⟨pv 1, gd_var⟩ (da_cons ⟨pv 7, gd_var⟩ da_nil)))))
    (ds_cons (ds_if (dt_cmp (op_neA hr) og_ne (de_callTy (call_listOwnS (C := Gm A 0) (by rfl) T.m_Grid___iter__ T.m_Grid___len__ I_Grid___iter__ R_Grid___len__ (hr.mono (by decide)) (hr.mono (by decide))) (cg_listOwn (c := 0)) (by rfl) T.z_list (by decide +kernel) (da_cons ⟨pv 2, gd_var⟩ da_nil)) ⟨pv 4, gd_var⟩ (nomark _))
    (ds_one (ds_ret de_bl))
    ds_nil)
    (ds_cons (ds_set (i := 5) sc__law_right.nd rfl (.inl rfl) (de_tup (da_cons (de_prop (c := 0) ⟨pv 2, gd_var⟩ T.sc_Grid T.pa_Grid_name T.pg_Grid_name T.pt_Grid_name T.pr_Grid_name R_Grid_name (hr.mono (by decide))) (da_cons (de_prop (c := 0) ⟨pv 2, gd_var⟩ T.sc_Grid T.pa_Grid_half T.pg_Grid_half T.pt_Grid_half T.pr_Grid_half R_Grid_half (hr.mono (by decide))) (da_cons (de_prop (c := 0) ⟨pv 2, gd_var⟩ T.sc_Grid T.pa_Grid_units T.pg_Grid_units T.pt_Grid_units T.pr_Grid_units R_Grid_units (hr.mono (by decide))) (da_cons (de_callB (call_lenOwnA (Γ := Gm A) (c := 0) T.m_Grid___len__ R_Grid___len__ (hr.mono (by decide))) cg_lenOwn (by rfl) T.z_len (by decide +kernel) (da_cons ⟨pv 2, gd_var⟩ da_nil)) (da_cons (de_callTy (call_strOwn (C := Gm A 0) T.m_Grid___str__ R_Grid___str__ (hr.mono (by decide))) (cg_strOwn (c := 0)) (by rfl) T.z_str (by decide +kernel) (da_cons ⟨pv 2, gd_var⟩ da_nil)) da_nil)))))))
    (ds_cons (ds_if (dt_cmp (op_neA hr) og_ne (de_callB (call_reprA hr hG nd) cg_repr (by rfl) T.z_repr (by decide +kernel) (da_cons ⟨pv 5, gd_var⟩ da_nil)) (de_callB (call_reprA hr hG nd) cg_repr (by rfl) T.z_repr (by decide +kernel) (da_cons (de_tup (da_cons (de_ix hr ⟨pv 1, gd_var⟩ de_str) (da_cons (de_op Gl.op_fdivA og_div ⟨pv 3, gd_var⟩ de_int) (da_cons (de_callTy call_tupA cg_tuple (by rfl) T.z_tuple (by decide +kernel) (da_cons ⟨pv 4, gd_var⟩ da_nil)) (da_cons ⟨pv 3, gd_var⟩ (da_cons (de_ix hr ⟨pv 1, gd_var⟩ de_str) da_nil)))))) da_nil)) (nomark _))
    (ds_one (ds_ret de_bl))
    ds_nil)
    (ds_cons (ds_for PassesOwn.never (by rfl) (di_range1 (by rfl) T.z_range (da_cons de_int da_nil)) (dg_name (i := 6) sc__law_right.nd rfl (.inl rfl))
    (ds_cons (ds_set (i := 7) sc__law_right.nd rfl (.inl rfl) (de_call G__law_part takes0 (hr.mono (by decide)) (by rfl) T.g__law_part T.F__law_part.kp T.b__law_part (da_cons ⟨pv 0, gd_var⟩ da_nil)))
    (ds_one (ds_if (dt_cmp (op_neA hr) og_ne (de_callB (call_reprA hr hG nd) cg_repr (by rfl) T.z_repr (by decide +kernel) (da_cons (de_meth (c := 0) ⟨pv 2, gd_var⟩ T.sc_Grid T.m_Grid_unit R_Grid_unit takes0 (hr.mono (by decide)) (da_cons ⟨pv 7, gd_var⟩ da_nil)) da_nil)) (de_callB (call_reprA hr hG nd) cg_repr (by rfl) T.z_repr (by decide +kernel) (da_cons (de_ix hr ⟨pv 4, gd_var⟩ (de_op op_mod og_mod ⟨pv 7, gd_var⟩ ⟨pv 3, gd_var⟩)) da_nil)) (nomark _))
    (ds_one (ds_ret de_bl))
    ds_nil))))
    (ds_cons (ds_for PassesOwn.never (by rfl) (di_any (de_op op_addA og_add (de_lst (da_cons (de_call G__law_place takes0 (hr.mono (by decide)) (by rfl) T.g__law_place T.F__law_place.kp T.b__law_place (da_cons ⟨pv 0, gd_var⟩ da_nil)) (da_cons (de_tup (da_cons de_int (da_cons de_int da_nil))) (da_cons (de_tup (da_cons de_int (da_cons de_int da_nil))) (da_cons (de_tup (da_cons (de_op op_sub og_sub de_int de_int) (da_cons de_int da_nil))) (da_cons (de_tup (da_cons de_int (da_cons (de_op op_sub og_sub de_int de_int) da_nil))) (da_cons (de_tup (da_cons (de_op op_sub og_sub de_int de_int) (da_cons (de_op op_sub og_sub de_int de_int) da_nil))) (da_cons (de_tup (da_cons de_int (da_cons de_int da_nil))) da_nil)))))))) ⟨pv 4, gd_var⟩)) (dg_name (i := 8) sc__law_right.nd rfl (.inl rfl))
    (ds_one (ds_if (dt_cmp (op_neA hr) og_ne (de_callB (call_reprA hr hG nd) cg_repr (by rfl) T.z_repr (by decide +kernel) (da_cons (de_meth (c := 0) ⟨pv 2, gd_var⟩ T.sc_Grid T.m_Grid_direction_of R_Grid_direction_of takes0 (hr.mono (by decide)) (da_cons ⟨pv 8, gd_var⟩ da_nil)) da_nil)) (de_callB (call_reprA hr hG nd) cg_repr (by rfl) T.z_repr (by decide +kernel) (da_cons (de_if (dt_cmp (op_inA hr) og_in ⟨pv 8, gd_var⟩ ⟨pv 4, gd_var⟩ (by rfl)) (de_bm ty_L mg_index PySem.F.plainAttrs_list PySem.F.slot_list_index PySem.F.type_list_index (mt_indexDA hr) ⟨pv 4, gd_var⟩ (da_cons ⟨pv 8, gd_var⟩ da_nil)) de_non) da_nil)) (nomark _))
    (ds_one (ds_ret de_bl))
    ds_nil)))
    (ds_cons (ds_set (i := 9) sc__law_right.nd rfl (.inl rfl) (de_call G__law_pick takes0 (hr.mono (by decide)) (by rfl) T.g__law_pick T.F__law_pick.kp T.b__law_pick (da_cons ⟨pv 0, gd_var⟩ (da_cons (de_lst (da_cons de_non (da_cons (de_ix hr ⟨pv 1, gd_var⟩ de_str) (da_cons de_int (da_cons (de_tup da_nil) (da_cons ⟨pv 4, gd_var⟩ (da_cons (de_callTy call_tupA cg_tuple (by rfl) T.z_tuple (by decide +kernel) (da_cons ⟨pv 4, gd_var⟩ da_nil)) (da_cons (de_lst (da_cons ⟨pv 2, gd_var⟩ da_nil)) (da_cons (de_tup (da_cons ⟨pv 2, gd_var⟩ da_nil)) (da_cons de_dict0 da_nil)))))))))) da_nil))))
    (ds_one (ds_ret (de_and (de_cmp (op_eqOwn (Γ := Gm A) (c := 0) T.m_Grid___eq__ T.ne_Grid R_Grid___eq__ (hr.mono (by decide))) (og_eqOwn (cls_all T) (by decide)) ⟨pv 2, gd_var⟩ (de_make (c := 0) T.mk_Grid G_Grid___init__ takes0 (hr.mono (by decide)) (by rfl) T.g_Grid T.b_Grid___init__ (da_cons (de_ix hr ⟨pv 1, gd_var⟩ de_str) da_nil)) (nomark _)) (de_and (de_not (de_cmp (op_neOwn (Γ := Gm A) (c := 0) T.m_Grid___eq__ T.ne_Grid R_Grid___eq__ (hr.mono (by decide)) T.si_Grid) (og_neOwn (cls_all T) (by decide)) ⟨pv 2, gd_var⟩ ⟨pv 2, gd_var⟩ (nomark _))) (de_and (de_cmp (op_neOwn (Γ := Gm A) (c := 0) T.m_Grid___eq__ T.ne_Grid R_Grid___eq__ (hr.mono (by decide)) T.si_Grid) (og_neOwn (cls_all T) (by decide)) ⟨pv 2, gd_var⟩ ⟨pv 9, gd_var⟩ (nomark _)) (de_one (de_not (de_cmp (op_eqOwn (Γ := Gm A) (c := 0) T.m_Grid___eq__ T.ne_Grid R_Grid___eq__ (hr.mono (by decide))) (og_eqOwn (cls_all T) (by decide)) ⟨pv 2, gd_var⟩ ⟨pv 9, gd_var⟩ (nomark _)))))))))))))))))⟩

def m_law : Fn := body0 1 5
  (seqS (forS (rng1D (consD (callB maxD (consD (cD (.int 1)) (consD (callB minD (consD (cD (.int 5)) (consD (callB lenD (consD (varD 0) nilD)) nilD))) nilD))) nilD)) (nameG 1)
  (seqS (asgS (callD m__law_dice (consD (varD 0) (consD (varD 1) nilD))) (nameG 2))
  (forS (itD (tupD (consD (cD (.str "square")) (consD (cD (.str "triangle")) nilD)))) (nameG 3)
  (ifS (notT (testD (callD m__law_right (consD (varD 2) (consD (dictD (dcons (cD (.str "grid")) (varD 3) dnil)) nilD)))))
  (retS (cD (.bl false)))
  nilS))))
  (seqS (parS 4 5 (consD (makeD 0 m_Grid___init__ (consD (cD (.str "square")) nilD)) (consD (makeD 0 m_Grid___init__ (consD (cD (.str "triangle")) nilD)) nilD)))
  (retS (andD (op2 (cmpOwn cs_all 0 m_Grid___eq__ not) (varD 4) (varD 5)) (andD (bindX (op2 (cmpOwn cs_all 0 m_Grid___eq__ id) (varD 4) (varD 5)) fun _ => notD) (op2 eqD (cD d_GRIDS) (tupD (consD (cD (.str "square")) (consD (cD (.str "triangle")) nilD)))))))))
theorem nb_law (xs : List D) (s : Sto) : m_law xs s = nb (m_law xs s) := body0_nb xs s
theorem ok_law (T : Txt K mg A Df) (nd : base.NoDigits) : Gl.FnG P w K mg base CX0 8 A.a_law Df.d_law ["_law_script"] (spD K (Gm A) m_law) := by
  have G_Grid___init__ := ok_Grid___init__ (P := P) (w := w) (base := base) T nd
  have G__law_dice := ok__law_dice (P := P) (w := w) (base := base) T nd
  have G__law_right := ok__law_right (P := P) (w := w) (base := base) T nd
  have R_Grid___eq__ := Gl.FnOk.pos (ok_Grid___eq__ (P := P) (w := w) (base := base) T nd) T.b_Grid___eq__
  refine okD0 T.F_law sc_law rfl fun cdv Ar outer s H E hG hr => ?_
  exact ⟨_, (ds_cons (ds_for PassesOwn.never (by rfl) (di_range1 (by rfl) T.z_range (da_cons (de_callB (call_max2 (by rfl)) cg_max (by rfl) T.z_max (by decide +kernel) (da_cons de_int (da_cons (de_callB (call_min2 (by rfl)) cg_min (by rfl) T.z_min (by decide +kernel) (da_cons de_int (da_cons (de_callB call_lenAA cg_len (by rfl) T.z_len (by decide +kernel) (da_cons ⟨pv 0, gd_var⟩ da_nil)) da_nil))) da_nil))) da_nil)) (dg_name (i := 1) sc_law.nd rfl (.inl rfl))
    (ds_cons (ds_set (i := 2) sc_law.nd rfl (.inl rfl) (de_call G__law_dice takes0 (hr.mono (by decide)) (by rfl) T.g__law_dice T.F__law_dice.kp T.b__law_dice (da_cons ⟨pv 0, gd_var⟩ (da_cons ⟨pv 1, gd_var⟩ da_nil))))
    (ds_one (ds_for PassesOwn.never (by rfl) (di_any (de_tup (da_cons de_str (da_cons de_str da_nil)))) (dg_name (i := 3) sc_law.nd rfl (.inl rfl))
    (ds_one (ds_if (dt_not (dt_val (de_callG G__law_right nb__law_right hG (hr.mono (by decide)) (by rfl) T.g__law_right T.F__law_right.kp T.b__law_right (da_cons ⟨pv 2, gd_var⟩ (da_cons (de_dict (dp_cons de_str ⟨pv 3, gd_var⟩ dp_nil) (by rfl) (by rfl) (fun z => by cases z) (by decide)) da_nil)))))
    (ds_one (ds_ret de_bl))
    ds_nil))))))
    (ds_cons (ds_par (i := 4) (j := 5) (by rfl) sc_law.nd rfl rfl (by decide) rfl rfl (da_cons (de_make (c := 0) T.mk_Grid G_Grid___init__ takes0 (hr.mono (by decide)) (by rfl) T.g_Grid T.b_Grid___init__ (da_cons de_str da_nil)) (da_cons (de_make (c := 0) T.mk_Grid G_Grid___init__ takes0 (hr.mono (by decide)) (by rfl) T.g_Grid T.b_Grid___init__ (da_cons de_str da_nil)) da_nil)) (by rfl))
    (ds_one (ds_ret (de_and (de_cmp (op_neOwn (Γ := Gm A) (c := 0) T.m_Grid___eq__ T.ne_Grid R_Grid___eq__ (hr.mono (by decide)) T.si_Grid) (og_neOwn (cls_all T) (by decide)) ⟨pv 4, gd_var⟩ ⟨pv 5, gd_var⟩ (nomark _)) (de_and (de_not (de_cmp (op_eqOwn (Γ := Gm A) (c := 0) T.m_Grid___eq__ T.ne_Grid R_Grid___eq__ (hr.mono (by decide))) (og_eqOwn (cls_all T) (by decide)) ⟨pv 4, gd_var⟩ ⟨pv 5, gd_var⟩ (nomark _))) (de_one (de_cmp (op_eqA hr) og_eq (de_glob (by rfl) T.c_GRIDS (fun _ _ => rp_GRIDS T)) (de_tup (da_cons de_str (da_cons de_str da_nil))) (nomark _)))))))))⟩

end
end Law

set_option Elab.async false
set_option maxRecDepth 100000
set_option maxHeartbeats 4000000
set_option linter.all false
namespace Law
open PySem PySem.Spec PyProof.Rows L2 Md Pl TxS
/-- a grid -/
def unL (tri : Bool) : List D := bif tri then [.tup [.int 1, .int 0], .tup [.int 0, .int 1], .tup [.int (-1), .int 1], .tup [.int (-1), .int 0], .tup [.int 0, .int (-1)], .tup [.int 1, .int (-1)]] else [.tup [.int 1, .int 0], .tup [.int 0, .int 1], .tup [.int (-1), .int 0], .tup [.int 0, .int (-1)]]
abbrev unD (tri : Bool) : D := .tup (unL tri)
abbrev unK (tri : Bool) : D := .ktp (unL tri)
abbrev gD (tri : Bool) : D := .ins 0 [.str (nameOf tri), unK tri]
abbrev plD (tri : Bool) : D := .dic [(.inr (Str.ofString "grid"), .str (nameOf tri))]
section
variable {s : Sto} {tri : Bool}
theorem a_name : attrD tab_own_name (gD tri) s = .ok (.str (nameOf tri)) s := rfl
theorem a_units : attrD tab_own_units (gD tri) s = .ok (unK tri) s := rfl
theorem unk_un : unkD (unK tri) s = .ok (unD tri) s := rfl
theorem pl_grid : ixD (plD tri) (.str "grid") s = .ok (.str (nameOf tri)) s := by
  refine ix_dicE (q := .inr (Str.ofString "grid")) rfl ?_
  simp only [valD, List.find?_cons, decide_true, Option.map_some]
theorem un_len : (unL tri).length = (nUn tri).toNat := by cases tri <;> rfl
theorem un_lenI : ((unL tri).length : Int) = nUn tri := by cases tri <;> rfl
theorem len_un : lenD [unD tri] s = .ok (.int (nUn tri)) s := by cases tri <;> rfl
theorem ix_un {r : Int} (h0 : 0 ≤ r) (h1 : r < nUn tri) : ixD (unD tri) (.int r) s = .ok (.tup [.int (uX tri r), .int (uY tri r)]) s := by
  cases tri
  · have h1 : r < 4 := h1
    rcases fin_cases h0 (show r < 6 by omega) (by decide) with rfl | rfl | rfl | rfl | rfl | rfl <;> first | rfl | omega
  · have h1 : r < 6 := h1
    rcases fin_cases h0 h1 (by decide) with rfl | rfl | rfl | rfl | rfl | rfl <;> rfl
theorem ix_unl {r : Int} (h0 : 0 ≤ r) (h1 : r < nUn tri) : ixD (.lst (unL tri)) (.int r) s = .ok (.tup [.int (uX tri r), .int (uY tri r)]) s := by
  cases tri
  · have h1 : r < 4 := h1
    rcases fin_cases h0 (show r < 6 by omega) (by decide) with rfl | rfl | rfl | rfl | rfl | rfl <;> first | rfl | omega
  · have h1 : r < 6 := h1
    rcases fin_cases h0 h1 (by decide) with rfl | rfl | rfl | rfl | rfl | rfl <;> rfl
end

section
variable {s : Sto}
theorem dice_ok {ns : List Int} {k : Nat} : ∃ l b : Int, m__law_dice [.scr ns, .int (k : Int)] s = .ok (.cell s.length) (s ++ [.lst [.int l, .int b, .int 0]]) := by
  unfold m__law_dice
  simp -implicitDefEqProofs (disch := first | assumption | with_reducible (first | exact e_nc_int | exact e_nc_str | exact e_nc_tup | exact e_nc_lst | exact e_nc_bl | exact e_nc_non | exact e_nc_dic | exact e_nc_ins | exact e_right_int | exact e_right_str | exact e_right_tup | exact e_right_lst | exact e_right_non | exact e_right_dic | exact e_isL | exact e_isS | exact e_isT) | decide +kernel | with_reducible exact e_right_ins (by decide +kernel) | with_reducible exact mulB_l (by decide +kernel) | with_reducible exact mulB_r (by decide +kernel) | omega) only [Bool.not_true, Bool.not_false, evAll, evTwo, evThree, evFour, pow_eq]
  rcases Nat.lt_or_ge k ns.length with hk | hk
  · have ha : ixD (.scr ns) (.int (k : Int)) s = .ok (.int ns[k]) s := by
      simp only [ixD, vw, atI, ixN]
      rw [if_pos (by omega), if_pos (by omega)]
      simp only [Int.toNat_natCast, Option.bind_some, List.getElem?_eq_getElem hk]
    rw [decide_eq_true (show (k : Int) < ns.length by omega)]
    simp -implicitDefEqProofs (disch := first | assumption | with_reducible (first | exact e_nc_int | exact e_nc_str | exact e_nc_tup | exact e_nc_lst | exact e_nc_bl | exact e_nc_non | exact e_nc_dic | exact e_nc_ins | exact e_right_int | exact e_right_str | exact e_right_tup | exact e_right_lst | exact e_right_non | exact e_right_dic | exact e_isL | exact e_isS | exact e_isT) | decide +kernel | with_reducible exact e_right_ins (by decide +kernel) | with_reducible exact mulB_l (by decide +kernel) | with_reducible exact mulB_r (by decide +kernel) | omega) only [Bool.not_true, Bool.not_false, evAll, evTwo, evThree, evFour, pow_eq, ha, trim_new]
    exact ⟨_, _, rfl⟩
  · rw [decide_eq_false (show ¬ (k : Int) < ns.length by omega)]
    simp -implicitDefEqProofs (disch := first | assumption | with_reducible (first | exact e_nc_int | exact e_nc_str | exact e_nc_tup | exact e_nc_lst | exact e_nc_bl | exact e_nc_non | exact e_nc_dic | exact e_nc_ins | exact e_right_int | exact e_right_str | exact e_right_tup | exact e_right_lst | exact e_right_non | exact e_right_dic | exact e_isL | exact e_isS | exact e_isT) | decide +kernel | with_reducible exact e_right_ins (by decide +kernel) | with_reducible exact mulB_l (by decide +kernel) | with_reducible exact mulB_r (by decide +kernel) | omega) only [Bool.not_true, Bool.not_false, evAll, evTwo, evThree, evFour, pow_eq, trim_new]
    exact ⟨_, _, rfl⟩
theorem roll_ok {n : Nat} {t : Int} (hd : Dn n s) (h0 : 0 < t) (h1 : t ≤ 10 ^ 60) : ∃ (r : Int) (s' : Sto), m__law_roll [.cell n, .int t] s = .ok (.int r) s' ∧ 0 ≤ r ∧ r < t ∧ Dn n s' ∧ s'.length = s.length := by
  obtain ⟨l, k, c, e⟩ := hd.at_
  have h9 : t < Gl.B9 := Gl.small_B9 h1
  have a0 : ∀ x y z : D, atI [x, y, z] 0 = some x := fun _ _ _ => rfl
  have a1 : ∀ x y z : D, atI [x, y, z] 1 = some y := fun _ _ _ => rfl
  have a2 : ∀ x y z : D, atI [x, y, z] 2 = some z := fun _ _ _ => rfl
  unfold m__law_roll
  simp -implicitDefEqProofs (disch := first | assumption | with_reducible (first | exact e_nc_int | exact e_nc_str | exact e_nc_tup | exact e_nc_lst | exact e_nc_bl | exact e_nc_non | exact e_nc_dic | exact e_nc_ins | exact e_right_int | exact e_right_str | exact e_right_tup | exact e_right_lst | exact e_right_non | exact e_right_dic | exact e_isL | exact e_isS | exact e_isT) | decide +kernel | with_reducible exact e_right_ins (by decide +kernel) | with_reducible exact mulB_l (by decide +kernel) | with_reducible exact mulB_r (by decide +kernel) | omega) only [Bool.not_true, Bool.not_false, evAll, evTwo, evThree, evFour, ix_cell e (a0 _ _ _)]
  by_cases hl : 0 < l
  · rw [decide_eq_true hl]
    have hs : ∀ x : Int, setItD (.cell n) (.int 0) (.int x) s = some (s.set n (.lst [.int x, .int k, .int c])) := fun x => setItD_eq (j := 0) e rfl rfl
    simp -implicitDefEqProofs (disch := first | assumption | with_reducible (first | exact e_nc_int | exact e_nc_str | exact e_nc_tup | exact e_nc_lst | exact e_nc_bl | exact e_nc_non | exact e_nc_dic | exact e_nc_ins | exact e_right_int | exact e_right_str | exact e_right_tup | exact e_right_lst | exact e_right_non | exact e_right_dic | exact e_isL | exact e_isS | exact e_isT) | decide +kernel | with_reducible exact e_right_ins (by decide +kernel) | with_reducible exact mulB_l (by decide +kernel) | with_reducible exact mulB_r (by decide +kernel) | omega) only [Bool.not_true, Bool.not_false, evAll, evTwo, evThree, evFour, ix_cell e (a0 _ _ _), hs]
    refine ⟨_, _, trim_eq (List.length_set ..), Int.emod_nonneg _ (by omega), Int.emod_lt_of_pos _ h0, hd.put .., List.length_set ..⟩
  · rw [decide_eq_false hl]
    have hs : ∀ x : Int, setItD (.cell n) (.int 2) (.int x) s = some (s.set n (.lst [.int l, .int k, .int x])) := fun x => setItD_eq (j := 2) e rfl rfl
    have hd2 := hd.put l k (c + 1)
    have e2 : (s.set n (.lst [.int l, .int k, .int (c + 1)]))[n]? = some (.lst [.int l, .int k, .int (c + 1)]) := List.getElem?_set_self hd.lt
    have el : (s.set n (.lst [.int l, .int k, .int (c + 1)])).length = s.length := List.length_set ..
    have m1 : ∀ x : Int, mulB (x % 2305843009213693693) (x % 2305843009213693693) = true := fun x => mulB_l (by unfold sm64; simp only [Bool.and_eq_true, decide_eq_true_eq]; omega)
    simp -implicitDefEqProofs (disch := first | assumption | with_reducible (first | exact e_nc_int | exact e_nc_str | exact e_nc_tup | exact e_nc_lst | exact e_nc_bl | exact e_nc_non | exact e_nc_dic | exact e_nc_ins | exact e_right_int | exact e_right_str | exact e_right_tup | exact e_right_lst | exact e_right_non | exact e_right_dic | exact e_isL | exact e_isS | exact e_isT) | decide +kernel | with_reducible exact e_right_ins (by decide +kernel) | with_reducible exact mulB_l (by decide +kernel) | with_reducible exact mulB_r (by decide +kernel) | omega) only [Bool.not_true, Bool.not_false, evAll, evTwo, evThree, evFour, hs, ix_cell e (a2 _ _ _), ix_cell e2 (a1 _ _ _), ix_cell e2 (a2 _ _ _), e_mul (m1 _)]
    refine ⟨_, _, trim_eq el, Int.emod_nonneg _ (by omega), Int.emod_lt_of_pos _ h0, hd2, el⟩
theorem atI_nat {α : Type} {xs : List α} {r : Int} (h0 : 0 ≤ r) (h1 : r < xs.length) : ∃ x, atI xs r = some x ∧ x ∈ xs := by
  obtain ⟨k, rfl⟩ := Int.eq_ofNat_of_zero_le h0
  have hk : k < xs.length := by omega
  refine ⟨xs[k], ?_, List.getElem_mem hk⟩
  simp only [atI, ixN]
  rw [if_pos (by omega), if_pos (by omega)]
  simp only [Int.toNat_natCast, Option.bind_some, List.getElem?_eq_getElem hk]
theorem pick_ok {n : Nat} {xs : List D} (hd : Dn n s) (h0 : 0 < xs.length) (h1 : xs.length ≤ 1000) : ∃ (x : D) (s' : Sto), m__law_pick [.cell n, .lst xs] s = .ok x s' ∧ x ∈ xs ∧ Dn n s' ∧ s'.length = s.length := by
  obtain ⟨r, s', e, r0, r1, hd', hl⟩ := roll_ok (t := xs.length) hd (by omega) (by omega)
  obtain ⟨x, hx, hm⟩ := atI_nat r0 r1
  unfold m__law_pick
  refine ⟨x, s', ?_, hm, hd', hl⟩
  simp -implicitDefEqProofs (disch := first | assumption | with_reducible (first | exact e_nc_int | exact e_nc_str | exact e_nc_tup | exact e_nc_lst | exact e_nc_bl | exact e_nc_non | exact e_nc_dic | exact e_nc_ins | exact e_right_int | exact e_right_str | exact e_right_tup | exact e_right_lst | exact e_right_non | exact e_right_dic | exact e_isL | exact e_isS | exact e_isT) | decide +kernel | with_reducible exact e_right_ins (by decide +kernel) | with_reducible exact mulB_l (by decide +kernel) | with_reducible exact mulB_r (by decide +kernel) | omega) only [Bool.not_true, Bool.not_false, evAll, evTwo, evThree, evFour, e, ix_lst hx]
  exact trim_eq hl
end

section
variable {s : Sto}
theorem isint_ok {n : Int} (h : n.natAbs < 10 ^ 400) : m_is_integer [.int n] s = .ok (.bl true) s := by
  have e : ((10 ^ 50) ^ 8 : Int) = ((10 ^ 400 : Nat) : Int) := by decide +kernel
  have h1 : decide (-((10 ^ 50) ^ 8 : Int) < n) = true := decide_eq_true (by rw [e]; generalize (10 ^ 400 : Nat) = B at *; omega)
  have h2 : decide (n < ((10 ^ 50) ^ 8 : Int)) = true := decide_eq_true (by rw [e]; generalize (10 ^ 400 : Nat) = B at *; omega)
  unfold m_is_integer
  simp -implicitDefEqProofs (disch := first | assumption | with_reducible (first | exact e_nc_int | exact e_nc_str | exact e_nc_tup | exact e_nc_lst | exact e_nc_bl | exact e_nc_non | exact e_nc_dic | exact e_nc_ins | exact e_right_int | exact e_right_str | exact e_right_tup | exact e_right_lst | exact e_right_non | exact e_right_dic | exact e_isL | exact e_isS | exact e_isT) | decide +kernel | with_reducible exact e_right_ins (by decide +kernel) | with_reducible exact mulB_l (by decide +kernel) | with_reducible exact mulB_r (by decide +kernel) | omega) only [Bool.not_true, Bool.not_false, evAll, evTwo, evThree, evFour, h1, h2]
end

section
variable {s : Sto}
theorem ispoint_ok {a b : Int} (h1 : a.natAbs < 10 ^ 400) (h2 : b.natAbs < 10 ^ 400) : m_is_point [.tup [.int a, .int b]] s = .ok (.bl true) s := by
  unfold m_is_point
  simp -implicitDefEqProofs (disch := first | assumption | with_reducible (first | exact e_nc_int | exact e_nc_str | exact e_nc_tup | exact e_nc_lst | exact e_nc_bl | exact e_nc_non | exact e_nc_dic | exact e_nc_ins | exact e_right_int | exact e_right_str | exact e_right_tup | exact e_right_lst | exact e_right_non | exact e_right_dic | exact e_isL | exact e_isS | exact e_isT) | decide +kernel | with_reducible exact e_right_ins (by decide +kernel) | with_reducible exact mulB_l (by decide +kernel) | with_reducible exact mulB_r (by decide +kernel) | omega) only [Bool.not_true, Bool.not_false, evAll, evTwo, evThree, evFour, isint_ok h1, isint_ok h2, List.length_cons, List.length_nil, show (decide (((0 + 1 + 1 : Nat) : Int) = 2)) = true from rfl]
theorem reqpoint_ok {a b : Int} (h1 : a.natAbs < 10 ^ 400) (h2 : b.natAbs < 10 ^ 400) : m_require_point [.tup [.int a, .int b]] s = .ok .non s := by
  unfold m_require_point
  simp -implicitDefEqProofs (disch := first | assumption | with_reducible (first | exact e_nc_int | exact e_nc_str | exact e_nc_tup | exact e_nc_lst | exact e_nc_bl | exact e_nc_non | exact e_nc_dic | exact e_nc_ins | exact e_right_int | exact e_right_str | exact e_right_tup | exact e_right_lst | exact e_right_non | exact e_right_dic | exact e_isL | exact e_isS | exact e_isT) | decide +kernel | with_reducible exact e_right_ins (by decide +kernel) | with_reducible exact mulB_l (by decide +kernel) | with_reducible exact mulB_r (by decide +kernel) | omega) only [Bool.not_true, Bool.not_false, evAll, evTwo, evThree, evFour, ispoint_ok h1 h2]
end

section
variable {s : Sto} {tri : Bool}
theorem grid_make (hs : ∀ m, okS m s = true) : makeE 0 m_Grid___init__ [.str (nameOf tri)] s = .ok (gD tri) s := by
  refine make_eq (fs := [.str (nameOf tri), unK tri]) ?_ (by cases tri <;> rfl) (hs _)
  have h1 : ninD (.str (nameOf tri)) d_GRIDS (s ++ [.ins 0 []]) = .ok (.bl false) (s ++ [.ins 0 []]) := by
    have e : ∀ u : Sto, ninD (.str (nameOf tri)) d_GRIDS u = (if (SeqAt.shaped (.str (nameOf tri)) && SeqAt.shaped (.tuple [.str "square", .str "triangle"])) = true then .ok (.bl (! [PyData.str "square", .str "triangle"].any fun z => PyData.eqv z (.str (nameOf tri)))) u else .bad) := fun u => rfl
    rw [e, if_pos (by cases tri <;> decide +kernel)]
    have : (! [PyData.str "square", .str "triangle"].any fun z => PyData.eqv z (.str (nameOf tri))) = false := by cases tri <;> decide +kernel
    rw [this]
  unfold m_Grid___init__
  simp -implicitDefEqProofs (disch := first | assumption | with_reducible (first | exact e_nc_int | exact e_nc_str | exact e_nc_tup | exact e_nc_lst | exact e_nc_bl | exact e_nc_non | exact e_nc_dic | exact e_nc_ins | exact e_right_int | exact e_right_str | exact e_right_tup | exact e_right_lst | exact e_right_non | exact e_right_dic | exact e_isL | exact e_isS | exact e_isT) | decide +kernel | with_reducible exact e_right_ins (by decide +kernel) | with_reducible exact mulB_l (by decide +kernel) | with_reducible exact mulB_r (by decide +kernel) | omega) only [Bool.not_true, Bool.not_false, evAll, evTwo, evThree, evFour, h1, isSq, setAttr_last (tab := tab_own_name) (n := 0) (i := 0) rfl, setAttr_last (tab := tab_own_units) (n := 0) (i := 1) rfl]
  cases tri
  · simp -implicitDefEqProofs (disch := first | assumption | with_reducible (first | exact e_nc_int | exact e_nc_str | exact e_nc_tup | exact e_nc_lst | exact e_nc_bl | exact e_nc_non | exact e_nc_dic | exact e_nc_ins | exact e_right_int | exact e_right_str | exact e_right_tup | exact e_right_lst | exact e_right_non | exact e_right_dic | exact e_isL | exact e_isS | exact e_isT) | decide +kernel | with_reducible exact e_right_ins (by decide +kernel) | with_reducible exact mulB_l (by decide +kernel) | with_reducible exact mulB_r (by decide +kernel) | omega) only [Bool.not_true, Bool.not_false, evAll, evTwo, evThree, evFour, setAttr_last (tab := tab_own_name) (n := 0) (i := 0) rfl, setAttr_last (tab := tab_own_units) (n := 0) (i := 1) rfl]
    rfl
  · simp -implicitDefEqProofs (disch := first | assumption | with_reducible (first | exact e_nc_int | exact e_nc_str | exact e_nc_tup | exact e_nc_lst | exact e_nc_bl | exact e_nc_non | exact e_nc_dic | exact e_nc_ins | exact e_right_int | exact e_right_str | exact e_right_tup | exact e_right_lst | exact e_right_non | exact e_right_dic | exact e_isL | exact e_isS | exact e_isT) | decide +kernel | with_reducible exact e_right_ins (by decide +kernel) | with_reducible exact mulB_l (by decide +kernel) | with_reducible exact mulB_r (by decide +kernel) | omega) only [Bool.not_true, Bool.not_false, evAll, evTwo, evThree, evFour, setAttr_last (tab := tab_own_name) (n := 0) (i := 0) rfl, setAttr_last (tab := tab_own_units) (n := 0) (i := 1) rfl]
    rfl
theorem grid_eq {t2 : Bool} : m_Grid___eq__ [gD tri, gD t2] s = .ok (.bl (decide (tri = t2))) s := by
  have e : decide (nameOf tri = nameOf t2) = decide (tri = t2) := by cases tri <;> cases t2 <;> decide +kernel
  unfold m_Grid___eq__
  simp -implicitDefEqProofs (disch := first | assumption | with_reducible (first | exact e_nc_int | exact e_nc_str | exact e_nc_tup | exact e_nc_lst | exact e_nc_bl | exact e_nc_non | exact e_nc_dic | exact e_nc_ins | exact e_right_int | exact e_right_str | exact e_right_tup | exact e_right_lst | exact e_right_non | exact e_right_dic | exact e_isL | exact e_isS | exact e_isT) | decide +kernel | with_reducible exact e_right_ins (by decide +kernel) | with_reducible exact mulB_l (by decide +kernel) | with_reducible exact mulB_r (by decide +kernel) | omega) only [Bool.not_true, Bool.not_false, evAll, evTwo, evThree, evFour, a_name, e]
theorem lenO_un : lenO (.ok (.int (nUn tri)) s) = .ok (.int (nUn tri)) s := by cases tri <;> rfl
theorem grid_iter : m_Grid___iter__ [gD tri] s = .ok (unD tri) s := rfl
theorem grid_len : m_Grid___len__ [gD tri] s = .ok (.int (nUn tri)) s := by
  unfold m_Grid___len__
  simp -implicitDefEqProofs (disch := first | assumption | with_reducible (first | exact e_nc_int | exact e_nc_str | exact e_nc_tup | exact e_nc_lst | exact e_nc_bl | exact e_nc_non | exact e_nc_dic | exact e_nc_ins | exact e_right_int | exact e_right_str | exact e_right_tup | exact e_right_lst | exact e_right_non | exact e_right_dic | exact e_isL | exact e_isS | exact e_isT) | decide +kernel | with_reducible exact e_right_ins (by decide +kernel) | with_reducible exact mulB_l (by decide +kernel) | with_reducible exact mulB_r (by decide +kernel) | omega) only [Bool.not_true, Bool.not_false, evAll, evTwo, evThree, evFour, unk_un, a_units, un_lenI]
end

section
variable {s : Sto} {tri : Bool} {a b c d : Int}
theorem around_ok : m__law_around [plD tri] s = .ok (.int (nUn tri)) s := by
  unfold m__law_around
  simp -implicitDefEqProofs (disch := first | assumption | with_reducible (first | exact e_nc_int | exact e_nc_str | exact e_nc_tup | exact e_nc_lst | exact e_nc_bl | exact e_nc_non | exact e_nc_dic | exact e_nc_ins | exact e_right_int | exact e_right_str | exact e_right_tup | exact e_right_lst | exact e_right_non | exact e_right_dic | exact e_isL | exact e_isS | exact e_isT) | decide +kernel | with_reducible exact e_right_ins (by decide +kernel) | with_reducible exact mulB_l (by decide +kernel) | with_reducible exact mulB_r (by decide +kernel) | omega) only [Bool.not_true, Bool.not_false, evAll, evTwo, evThree, evFour, pl_grid, isSq]
  cases tri
  · simp -implicitDefEqProofs (disch := first | assumption | with_reducible (first | exact e_nc_int | exact e_nc_str | exact e_nc_tup | exact e_nc_lst | exact e_nc_bl | exact e_nc_non | exact e_nc_dic | exact e_nc_ins | exact e_right_int | exact e_right_str | exact e_right_tup | exact e_right_lst | exact e_right_non | exact e_right_dic | exact e_isL | exact e_isS | exact e_isT) | decide +kernel | with_reducible exact e_right_ins (by decide +kernel) | with_reducible exact mulB_l (by decide +kernel) | with_reducible exact mulB_r (by decide +kernel) | omega) only [Bool.not_true, Bool.not_false, evAll, evTwo, evThree, evFour]
    rfl
  · simp -implicitDefEqProofs (disch := first | assumption | with_reducible (first | exact e_nc_int | exact e_nc_str | exact e_nc_tup | exact e_nc_lst | exact e_nc_bl | exact e_nc_non | exact e_nc_dic | exact e_nc_ins | exact e_right_int | exact e_right_str | exact e_right_tup | exact e_right_lst | exact e_right_non | exact e_right_dic | exact e_isL | exact e_isS | exact e_isT) | decide +kernel | with_reducible exact e_right_ins (by decide +kernel) | with_reducible exact mulB_l (by decide +kernel) | with_reducible exact mulB_r (by decide +kernel) | omega) only [Bool.not_true, Bool.not_false, evAll, evTwo, evThree, evFour]
    rfl
end

section
variable {s : Sto} {tri : Bool} {a b c d : Int}
theorem unit_ok {r : Int} (h0 : 0 ≤ r) (h1 : r < nUn tri) : m__law_unit [plD tri, .int r] s = .ok (.tup [.int (uX tri r), .int (uY tri r)]) s := by
  have z : (0 : Int) - 1 = -1 := rfl
  have g4 : r < 4 → ∀ u, ixD (.lst [.tup [.int 1, .int 0], .tup [.int 0, .int 1], .tup [.int (-1), .int 0], .tup [.int 0, .int (-1)]]) (.int r) u = .ok (.tup [.int (uX false r), .int (uY false r)]) u := fun h1 u => by
    rcases fin_cases h0 h1 (by decide) with rfl | rfl | rfl | rfl | rfl | rfl <;> first | rfl | omega
  have g6 : r < 6 → ∀ u, ixD (.lst [.tup [.int 1, .int 0], .tup [.int 0, .int 1], .tup [.int (-1), .int 1], .tup [.int (-1), .int 0], .tup [.int 0, .int (-1)], .tup [.int 1, .int (-1)]]) (.int r) u = .ok (.tup [.int (uX true r), .int (uY true r)]) u := fun h1 u => by
    rcases fin_cases h0 h1 (by decide) with rfl | rfl | rfl | rfl | rfl | rfl <;> first | rfl | omega
  unfold m__law_unit
  simp -implicitDefEqProofs (disch := first | assumption | with_reducible (first | exact e_nc_int | exact e_nc_str | exact e_nc_tup | exact e_nc_lst | exact e_nc_bl | exact e_nc_non | exact e_nc_dic | exact e_nc_ins | exact e_right_int | exact e_right_str | exact e_right_tup | exact e_right_lst | exact e_right_non | exact e_right_dic | exact e_isL | exact e_isS | exact e_isT) | decide +kernel | with_reducible exact e_right_ins (by decide +kernel) | with_reducible exact mulB_l (by decide +kernel) | with_reducible exact mulB_r (by decide +kernel) | omega) only [Bool.not_true, Bool.not_false, evAll, evTwo, evThree, evFour, pl_grid, isSq]
  cases tri
  · have h1 : r < 4 := h1
    simp -implicitDefEqProofs (disch := first | assumption | with_reducible (first | exact e_nc_int | exact e_nc_str | exact e_nc_tup | exact e_nc_lst | exact e_nc_bl | exact e_nc_non | exact e_nc_dic | exact e_nc_ins | exact e_right_int | exact e_right_str | exact e_right_tup | exact e_right_lst | exact e_right_non | exact e_right_dic | exact e_isL | exact e_isS | exact e_isT) | decide +kernel | with_reducible exact e_right_ins (by decide +kernel) | with_reducible exact mulB_l (by decide +kernel) | with_reducible exact mulB_r (by decide +kernel) | omega) only [Bool.not_true, Bool.not_false, evAll, evTwo, evThree, evFour, z, Int.emod_eq_of_lt h0 h1, g4 h1]
  · have h1 : r < 6 := h1
    simp -implicitDefEqProofs (disch := first | assumption | with_reducible (first | exact e_nc_int | exact e_nc_str | exact e_nc_tup | exact e_nc_lst | exact e_nc_bl | exact e_nc_non | exact e_nc_dic | exact e_nc_ins | exact e_right_int | exact e_right_str | exact e_right_tup | exact e_right_lst | exact e_right_non | exact e_right_dic | exact e_isL | exact e_isS | exact e_isT) | decide +kernel | with_reducible exact e_right_ins (by decide +kernel) | with_reducible exact mulB_l (by decide +kernel) | with_reducible exact mulB_r (by decide +kernel) | omega) only [Bool.not_true, Bool.not_false, evAll, evTwo, evThree, evFour, z, Int.emod_eq_of_lt h0 h1, g6 h1]
end

section
variable {s : Sto} {n : Nat}
def LIM : Int := 10 ^ 400
theorem limit_ok : m__law_limit [] s = .ok (.int LIM) s := by
  unfold m__law_limit
  simp -implicitDefEqProofs (disch := first | assumption | with_reducible (first | exact e_nc_int | exact e_nc_str | exact e_nc_tup | exact e_nc_lst | exact e_nc_bl | exact e_nc_non | exact e_nc_dic | exact e_nc_ins | exact e_right_int | exact e_right_str | exact e_right_tup | exact e_right_lst | exact e_right_non | exact e_right_dic | exact e_isL | exact e_isS | exact e_isT) | decide +kernel | with_reducible exact e_right_ins (by decide +kernel) | with_reducible exact mulB_l (by decide +kernel) | with_reducible exact mulB_r (by decide +kernel) | omega) only [Bool.not_true, Bool.not_false, evAll, evTwo, evThree, evFour, pow_eq]
  have : ((10 : Int) ^ Int.toNat 50) ^ Int.toNat 8 = LIM := by unfold LIM; decide +kernel
  rw [this]
theorem part_ok (hd : Dn n s) : ∃ (x : Int) (s' : Sto), m__law_part [.cell n] s = .ok (.int x) s' ∧ x.natAbs < 10 ^ 400 ∧ Dn n s' ∧ s'.length = s.length := by
  obtain ⟨r1, s1, e1, a1, b1, d1, l1⟩ := roll_ok (t := 10 ^ Int.toNat 20) hd (by decide +kernel) (by decide +kernel)
  obtain ⟨r2, s2, e2, a2, b2, d2, l2⟩ := roll_ok (t := 9) d1 (by decide) (by decide)
  obtain ⟨r3, s3, e3, a3, b3, d3, l3⟩ := roll_ok (t := 200) d2 (by decide) (by decide)
  obtain ⟨r4, s4, e4, a4, b4, d4, l4⟩ := roll_ok (t := 10 ^ Int.toNat 30) d3 (by decide +kernel) (by decide +kernel)
  obtain ⟨i, s5, e5, hi, d5, l5⟩ := pick_ok (xs := [.int 0, .int 0, .int 0, .int 1, .int 1, .int 2, .int 3]) d4 (by decide) (by decide)
  obtain ⟨r6, s6, e6, a6, b6, d6, l6⟩ := roll_ok (t := 2) d5 (by decide) (by decide)
  have hL : ∀ x : Int, 0 ≤ x → x ≤ LIM - 1 → x.natAbs < 10 ^ 400 := fun x h0 h1 => by
    have e : LIM = ((10 ^ 400 : Nat) : Int) := by unfold LIM; decide +kernel
    rw [e] at h1
    generalize (10 ^ 400 : Nat) = B at *
    omega
  have c1 : (10 : Int) ^ Int.toNat 20 ≤ LIM - 1 := by unfold LIM; decide +kernel
  have c2 : (10 : Int) ^ Int.toNat 30 ≤ LIM - 1 := by unfold LIM; decide +kernel
  have c3 : (200 : Int) ≤ LIM - 1 := by unfold LIM; decide +kernel
  have h : ∃ x : Int, (∀ u : Sto, ixD (.lst [.int r2, .int r3, .int r4, .int (LIM - 1 - r1)]) i u = .ok (.int x) u) ∧ x.natAbs < 10 ^ 400 := by
    simp only [List.mem_cons, List.not_mem_nil, or_false] at hi
    generalize (10 : Int) ^ Int.toNat 20 = p at *
    generalize (10 : Int) ^ Int.toNat 30 = q at *
    generalize LIM = L at *
    rcases hi with rfl | rfl | rfl | rfl | rfl | rfl | rfl
    · exact ⟨r2, fun _ => rfl, hL _ a2 (by omega)⟩
    · exact ⟨r2, fun _ => rfl, hL _ a2 (by omega)⟩
    · exact ⟨r2, fun _ => rfl, hL _ a2 (by omega)⟩
    · exact ⟨r3, fun _ => rfl, hL _ a3 (by omega)⟩
    · exact ⟨r3, fun _ => rfl, hL _ a3 (by omega)⟩
    · exact ⟨r4, fun _ => rfl, hL _ a4 (by omega)⟩
    · exact ⟨_, fun _ => rfl, hL _ (by omega) (by omega)⟩
  obtain ⟨x, hx, hb⟩ := h
  have hl : s6.length = s.length := by omega
  unfold m__law_part
  by_cases h6 : r6 = 0
  · refine ⟨0 - x, s6, ?_, by rw [Int.zero_sub, Int.natAbs_neg]; exact hb, d6, hl⟩
    simp -implicitDefEqProofs (disch := first | assumption | with_reducible (first | exact e_nc_int | exact e_nc_str | exact e_nc_tup | exact e_nc_lst | exact e_nc_bl | exact e_nc_non | exact e_nc_dic | exact e_nc_ins | exact e_right_int | exact e_right_str | exact e_right_tup | exact e_right_lst | exact e_right_non | exact e_right_dic | exact e_isL | exact e_isS | exact e_isT) | decide +kernel | with_reducible exact e_right_ins (by decide +kernel) | with_reducible exact mulB_l (by decide +kernel) | with_reducible exact mulB_r (by decide +kernel) | omega) only [Bool.not_true, Bool.not_false, evAll, evTwo, evThree, evFour, pow_eq, limit_ok, e1, e2, e3, e4, e5, e6, hx, decide_eq_true h6, trim_eq hl]
  · refine ⟨x, s6, ?_, hb, d6, hl⟩
    simp -implicitDefEqProofs (disch := first | assumption | with_reducible (first | exact e_nc_int | exact e_nc_str | exact e_nc_tup | exact e_nc_lst | exact e_nc_bl | exact e_nc_non | exact e_nc_dic | exact e_nc_ins | exact e_right_int | exact e_right_str | exact e_right_tup | exact e_right_lst | exact e_right_non | exact e_right_dic | exact e_isL | exact e_isS | exact e_isT) | decide +kernel | with_reducible exact e_right_ins (by decide +kernel) | with_reducible exact mulB_l (by decide +kernel) | with_reducible exact mulB_r (by decide +kernel) | omega) only [Bool.not_true, Bool.not_false, evAll, evTwo, evThree, evFour, pow_eq, limit_ok, e1, e2, e3, e4, e5, e6, hx, decide_eq_false h6, trim_eq hl]
theorem place_ok (hd : Dn n s) : ∃ (a b : Int) (s' : Sto), m__law_place [.cell n] s = .ok (.tup [.int a, .int b]) s' ∧ a.natAbs < 10 ^ 400 ∧ b.natAbs < 10 ^ 400 ∧ Dn n s' ∧ s'.length = s.length := by
  obtain ⟨a, s1, e1, ha, d1, l1⟩ := part_ok hd
  obtain ⟨b, s2, e2, hb, d2, l2⟩ := part_ok d1
  have hl : s2.length = s.length := by omega
  refine ⟨a, b, s2, ?_, ha, hb, d2, hl⟩
  unfold m__law_place
  simp -implicitDefEqProofs (disch := first | assumption | with_reducible (first | exact e_nc_int | exact e_nc_str | exact e_nc_tup | exact e_nc_lst | exact e_nc_bl | exact e_nc_non | exact e_nc_dic | exact e_nc_ins | exact e_right_int | exact e_right_str | exact e_right_tup | exact e_right_lst | exact e_right_non | exact e_right_dic | exact e_isL | exact e_isS | exact e_isT) | decide +kernel | with_reducible exact e_right_ins (by decide +kernel) | with_reducible exact mulB_l (by decide +kernel) | with_reducible exact mulB_r (by decide +kernel) | omega) only [Bool.not_true, Bool.not_false, evAll, evTwo, evThree, evFour, e1, e2, trim_eq hl]
end

section
variable {s : Sto} {tri : Bool} {n : Nat}
theorem geq_k {x : D} {k : String} (h : kindD x s = some k) : m_Grid___eq__ [gD tri, x] s = .ok (.bl false) s := by
  unfold m_Grid___eq__
  simp -implicitDefEqProofs (disch := first | assumption | with_reducible (first | exact e_nc_int | exact e_nc_str | exact e_nc_tup | exact e_nc_lst | exact e_nc_bl | exact e_nc_non | exact e_nc_dic | exact e_nc_ins | exact e_right_int | exact e_right_str | exact e_right_tup | exact e_right_lst | exact e_right_non | exact e_right_dic | exact e_isL | exact e_isS | exact e_isT) | decide +kernel | with_reducible exact e_right_ins (by decide +kernel) | with_reducible exact mulB_l (by decide +kernel) | with_reducible exact mulB_r (by decide +kernel) | omega) only [Bool.not_true, Bool.not_false, evAll, evTwo, evThree, evFour, isiC_k h]
theorem gname_ok : m_Grid_name [gD tri] s = .ok (.str (nameOf tri)) s := by
  unfold m_Grid_name
  simp -implicitDefEqProofs (disch := first | assumption | with_reducible (first | exact e_nc_int | exact e_nc_str | exact e_nc_tup | exact e_nc_lst | exact e_nc_bl | exact e_nc_non | exact e_nc_dic | exact e_nc_ins | exact e_right_int | exact e_right_str | exact e_right_tup | exact e_right_lst | exact e_right_non | exact e_right_dic | exact e_isL | exact e_isS | exact e_isT) | decide +kernel | with_reducible exact e_right_ins (by decide +kernel) | with_reducible exact mulB_l (by decide +kernel) | with_reducible exact mulB_r (by decide +kernel) | omega) only [Bool.not_true, Bool.not_false, evAll, evTwo, evThree, evFour, a_name]
theorem gunits_ok : m_Grid_units [gD tri] s = .ok (unD tri) s := by
  unfold m_Grid_units
  simp -implicitDefEqProofs (disch := first | assumption | with_reducible (first | exact e_nc_int | exact e_nc_str | exact e_nc_tup | exact e_nc_lst | exact e_nc_bl | exact e_nc_non | exact e_nc_dic | exact e_nc_ins | exact e_right_int | exact e_right_str | exact e_right_tup | exact e_right_lst | exact e_right_non | exact e_right_dic | exact e_isL | exact e_isS | exact e_isT) | decide +kernel | with_reducible exact e_right_ins (by decide +kernel) | with_reducible exact mulB_l (by decide +kernel) | with_reducible exact mulB_r (by decide +kernel) | omega) only [Bool.not_true, Bool.not_false, evAll, evTwo, evThree, evFour, a_units, unk_un]
theorem ghalf_ok : m_Grid_half [gD tri] s = .ok (.int (nUn tri / 2)) s := by
  unfold m_Grid_half
  simp -implicitDefEqProofs (disch := first | assumption | with_reducible (first | exact e_nc_int | exact e_nc_str | exact e_nc_tup | exact e_nc_lst | exact e_nc_bl | exact e_nc_non | exact e_nc_dic | exact e_nc_ins | exact e_right_int | exact e_right_str | exact e_right_tup | exact e_right_lst | exact e_right_non | exact e_right_dic | exact e_isL | exact e_isS | exact e_isT) | decide +kernel | with_reducible exact e_right_ins (by decide +kernel) | with_reducible exact mulB_l (by decide +kernel) | with_reducible exact mulB_r (by decide +kernel) | omega) only [Bool.not_true, Bool.not_false, evAll, evTwo, evThree, evFour, a_units, unk_un, un_lenI]
theorem gmod_ok {x : Int} : m_Grid_modulo [gD tri, .int x] s = .ok (.int (x % nUn tri)) s := by
  unfold m_Grid_modulo
  have h := nUn_pos tri
  simp -implicitDefEqProofs (disch := first | assumption | with_reducible (first | exact e_nc_int | exact e_nc_str | exact e_nc_tup | exact e_nc_lst | exact e_nc_bl | exact e_nc_non | exact e_nc_dic | exact e_nc_ins | exact e_right_int | exact e_right_str | exact e_right_tup | exact e_right_lst | exact e_right_non | exact e_right_dic | exact e_isL | exact e_isS | exact e_isT) | decide +kernel | with_reducible exact e_right_ins (by decide +kernel) | with_reducible exact mulB_l (by decide +kernel) | with_reducible exact mulB_r (by decide +kernel) | omega) only [Bool.not_true, Bool.not_false, evAll, evTwo, evThree, evFour, a_units, unk_un, un_lenI]
theorem gunit_ok {x : Int} (h : x.natAbs < 10 ^ 400) : m_Grid_unit [gD tri, .int x] s = .ok (.tup [.int (uX tri (x % nUn tri)), .int (uY tri (x % nUn tri))]) s := by
  have hp := nUn_pos tri
  have e1 : m_require_integer [.int x] s = .ok .non s := by
    unfold m_require_integer
    simp -implicitDefEqProofs (disch := first | assumption | with_reducible (first | exact e_nc_int | exact e_nc_str | exact e_nc_tup | exact e_nc_lst | exact e_nc_bl | exact e_nc_non | exact e_nc_dic | exact e_nc_ins | exact e_right_int | exact e_right_str | exact e_right_tup | exact e_right_lst | exact e_right_non | exact e_right_dic | exact e_isL | exact e_isS | exact e_isT) | decide +kernel | with_reducible exact e_right_ins (by decide +kernel) | with_reducible exact mulB_l (by decide +kernel) | with_reducible exact mulB_r (by decide +kernel) | omega) only [Bool.not_true, Bool.not_false, evAll, evTwo, evThree, evFour, isint_ok h]
  unfold m_Grid_unit
  simp -implicitDefEqProofs (disch := first | assumption | with_reducible (first | exact e_nc_int | exact e_nc_str | exact e_nc_tup | exact e_nc_lst | exact e_nc_bl | exact e_nc_non | exact e_nc_dic | exact e_nc_ins | exact e_right_int | exact e_right_str | exact e_right_tup | exact e_right_lst | exact e_right_non | exact e_right_dic | exact e_isL | exact e_isS | exact e_isT) | decide +kernel | with_reducible exact e_right_ins (by decide +kernel) | with_reducible exact mulB_l (by decide +kernel) | with_reducible exact mulB_r (by decide +kernel) | omega) only [Bool.not_true, Bool.not_false, evAll, evTwo, evThree, evFour, e1, a_units, unk_un, gmod_ok, ix_un (Int.emod_nonneg _ (by omega)) (Int.emod_lt_of_pos _ hp)]
theorem idx_any {q : PyData} : ∀ {qs : List PyData}, (qs.any fun z => PyData.eqv z q) = true → ∃ j, idxP qs q = some j ∧ j < qs.length
  | [], h => by cases h
  | z :: r, h => by
    rw [List.any_cons, Bool.or_eq_true] at h
    unfold idxP
    by_cases hz : PyData.eqv z q = true
    · exact ⟨0, if_pos hz, by simp⟩
    · rw [if_neg hz]
      obtain ⟨j, e, l⟩ := idx_any (h.resolve_left hz)
      exact ⟨j + 1, by rw [e]; rfl, by simpa using l⟩
def unP (tri : Bool) : List PyData := bif tri then [.tuple [.int 1, .int 0], .tuple [.int 0, .int 1], .tuple [.int (-1), .int 1], .tuple [.int (-1), .int 0], .tuple [.int 0, .int (-1)], .tuple [.int 1, .int (-1)]] else [.tuple [.int 1, .int 0], .tuple [.int 0, .int 1], .tuple [.int (-1), .int 0], .tuple [.int 0, .int (-1)]]
theorem py_un : pyA (unL tri) = some (unP tri) := by cases tri <;> rfl
/-- the direction of a point -/
theorem dir_ok {a b : Int} (ha : a.natAbs < 10 ^ 400) (hb : b.natAbs < 10 ^ 400)  : ∃ (d : D) (t : Str), m_Grid_direction_of [gD tri, .tup [.int a, .int b]] s = .ok d s ∧ reprD [d] s = .ok (.str t) s ∧
    ((inD (.tup [.int a, .int b]) (.lst (unL tri)) s = .ok (.bl false) s ∧ d = .non) ∨ (inD (.tup [.int a, .int b]) (.lst (unL tri)) s = .ok (.bl true) s ∧ indexM (.lst (unL tri)) [.tup [.int a, .int b]] s = .ok d s)) := by
  have sp : SeqAt.shaped (.tuple [.int a, .int b]) = true := by rfl
  have su : SeqAt.shaped (.tuple (unP tri)) = true := by cases tri <;> rfl
  have sl : SeqAt.shaped (.list (unP tri)) = true := by cases tri <;> rfl
  have i1 : inD (.tup [.int a, .int b]) (unD tri) s = .ok (.bl ((unP tri).any fun z => PyData.eqv z (.tuple [.int a, .int b]))) s := by
    have : inD (.tup [.int a, .int b]) (unD tri) s = (match pyA (unL tri) with | some ps => if (SeqAt.shaped (.tuple [.int a, .int b]) && SeqAt.shaped (.tuple ps)) = true then .ok (.bl (ps.any fun z => PyData.eqv z (.tuple [.int a, .int b]))) s else .bad | none => .bad) := by
      show inP _ _ s id = _
      unfold inP
      show (match some (PyData.tuple [.int a, .int b]), pyA (unL tri) with | some p, some qs => _ | _, _ => _) = _
      cases pyA (unL tri) <;> rfl
    rw [this, py_un]
    dsimp only
    rw [sp, su]
    rfl
  have i2 : inD (.tup [.int a, .int b]) (.lst (unL tri)) s = .ok (.bl ((unP tri).any fun z => PyData.eqv z (.tuple [.int a, .int b]))) s := by
    have : inD (.tup [.int a, .int b]) (.lst (unL tri)) s = (match pyA (unL tri) with | some ps => if (SeqAt.shaped (.tuple [.int a, .int b]) && SeqAt.shaped (.list ps)) = true then .ok (.bl (ps.any fun z => PyData.eqv z (.tuple [.int a, .int b]))) s else .bad | none => .bad) := by
      show inP _ _ s id = _
      unfold inP
      show (match some (PyData.tuple [.int a, .int b]), pyA (unL tri) with | some p, some qs => _ | _, _ => _) = _
      cases pyA (unL tri) <;> rfl
    rw [this, py_un]
    dsimp only
    rw [sp, sl]
    rfl
  have r1 := reqpoint_ok (s := s) ha hb
  cases hany : (unP tri).any fun z => PyData.eqv z (.tuple [.int a, .int b]) with
  | false =>
    rw [hany] at i1 i2
    obtain ⟨t, et⟩ := reprE (k := 0) (B := 4) shw_non (fun _ => rfl) (by decide) (by decide)
    refine ⟨.non, t, ?_, et s, Or.inl ⟨i2, rfl⟩⟩
    · unfold m_Grid_direction_of
      simp -implicitDefEqProofs (disch := first | assumption | with_reducible (first | exact e_nc_int | exact e_nc_str | exact e_nc_tup | exact e_nc_lst | exact e_nc_bl | exact e_nc_non | exact e_nc_dic | exact e_nc_ins | exact e_right_int | exact e_right_str | exact e_right_tup | exact e_right_lst | exact e_right_non | exact e_right_dic | exact e_isL | exact e_isS | exact e_isT) | decide +kernel | with_reducible exact e_right_ins (by decide +kernel) | with_reducible exact mulB_l (by decide +kernel) | with_reducible exact mulB_r (by decide +kernel) | omega) only [Bool.not_true, Bool.not_false, evAll, evTwo, evThree, evFour, r1, a_units, unk_un, i1]
  | true =>
    rw [hany] at i1 i2
    obtain ⟨j, ej, lj⟩ := idx_any hany
    have hj : j < 6 := Nat.lt_of_lt_of_le lj (by cases tri <;> decide)
    have x1 : idxTM (unK tri) [.tup [.int a, .int b]] s = .ok (.int (j : Nat)) s := by
      show (match pyA (unL tri), some (PyData.tuple [.int a, .int b]) with | some ps, some q => _ | _, _ => _) = _
      rw [py_un]
      dsimp only
      rw [sp, su, ej]
      rfl
    have x2 : indexM (.lst (unL tri)) [.tup [.int a, .int b]] s = .ok (.int (j : Nat)) s := by
      have : indexM (.lst (unL tri)) [.tup [.int a, .int b]] s = (match pyA (unL tri) with | some ps => if (SeqAt.shaped (.list ps) && SeqAt.shaped (.tuple [.int a, .int b])) = true then (match idxP ps (.tuple [.int a, .int b]) with | some j => .ok (.int (j : Nat)) s | none => .bad) else .bad | none => .bad) := by
        unfold indexM
        show (match (match pyA (unL tri) with | some ys => some (PyData.list ys) | none => none), some (PyData.tuple [.int a, .int b]) with | some (.list ps), some q => _ | _, _ => _) = _
        cases pyA (unL tri) <;> rfl
      rw [this, py_un]
      dsimp only
      rw [sp, sl, ej]
      rfl
    obtain ⟨t, et⟩ := reprE (x := .int (j : Nat)) (k := 0) (B := 4400) (shw_int (n := 2) (show ((j : Nat) : Int).natAbs < 10 ^ 2 by omega) (by decide)) (fun _ => rfl) (by decide) (by decide)
    refine ⟨.int (j : Nat), t, ?_, et s, Or.inr ⟨i2, x2⟩⟩
    · unfold m_Grid_direction_of
      have hT : isT (unK tri) s = true := rfl
      simp -implicitDefEqProofs (disch := first | assumption | with_reducible (first | exact e_nc_int | exact e_nc_str | exact e_nc_tup | exact e_nc_lst | exact e_nc_bl | exact e_nc_non | exact e_nc_dic | exact e_nc_ins | exact e_right_int | exact e_right_str | exact e_right_tup | exact e_right_lst | exact e_right_non | exact e_right_dic | exact e_isL | exact e_isS | exact e_isT) | decide +kernel | with_reducible exact e_right_ins (by decide +kernel) | with_reducible exact mulB_l (by decide +kernel) | with_reducible exact mulB_r (by decide +kernel) | omega) only [Bool.not_true, Bool.not_false, evAll, evTwo, evThree, evFour, r1, a_units, unk_un, i1, x1]
end
end Law

set_option Elab.async false
set_option maxRecDepth 100000
set_option maxHeartbeats 4000000
set_option linter.all false
namespace Law
open PySem PySem.Spec PyProof.Rows L2 Md Pl TxS
section
variable {s : Sto} {tri : Bool} {n : Nat}
theorem units_lc {x0 x2 x3 x4 x5 x6 x7 x8 x9 : Option D} : lcGo (nameG 7) yesD (callD m__law_unit (consD (varD 1) (consD (varD 7) nilD))) [x0, some (plD tri), x2, x3, x4, x5, x6, x7, x8, x9] (rngL 0 (nUn tri).toNat) s = .ok (unL tri) s := by
  have q := lc_mapP (α := Nat) (γ := nameG 7) (φ := callD m__law_unit (consD (varD 1) (consD (varD 7) nilD))) (s := s) (ds := [x0, some (plD tri), x2, x3, x4, x5, x6, x7, x8, x9]) (fun i : Nat => D.int (i : Int)) (fun i : Nat => D.tup [.int (uX tri i), .int (uY tri i)]) (List.range (nUn tri).toNat) fun i hi => ⟨_, rfl, (by
    have lt : i < (nUn tri).toNat := List.mem_range.mp hi
    have e := unit_ok (s := s) (tri := tri) (r := (i : Int)) (by omega) (by omega)
    simp -implicitDefEqProofs (disch := first | assumption | with_reducible (first | exact e_nc_int | exact e_nc_str | exact e_nc_tup | exact e_nc_lst | exact e_nc_bl | exact e_nc_non | exact e_nc_dic | exact e_nc_ins | exact e_right_int | exact e_right_str | exact e_right_tup | exact e_right_lst | exact e_right_non | exact e_right_dic | exact e_isL | exact e_isS | exact e_isT) | decide +kernel | with_reducible exact e_right_ins (by decide +kernel) | with_reducible exact mulB_l (by decide +kernel) | with_reducible exact mulB_r (by decide +kernel) | omega) only [Bool.not_true, Bool.not_false, evAll, evTwo, evThree, evFour, e]), rfl⟩
  have e1 : rngL 0 (nUn tri).toNat = (List.range (nUn tri).toNat).map fun i : Nat => D.int (i : Int) := by
    unfold rngL
    refine List.map_congr_left fun i _ => ?_
    simp
  have e2 : (List.range (nUn tri).toNat).map (fun i : Nat => D.tup [.int (uX tri i), .int (uY tri i)]) = unL tri := by cases tri <;> rfl
  rw [e1, q, e2]
theorem shw_u {q : Int × Int} (h : q.1.natAbs < 10 ^ 400 ∧ q.2.natAbs < 10 ^ 400) : Shw 1 10000 (.tup [.int q.1, .int q.2]) := (shw_tup (k := 0) (B := 4400) (n := 2) (fun x hx => by
  simp only [List.mem_cons, List.not_mem_nil, or_false] at hx
  rcases hx with rfl | rfl
  · exact shw_int (n := 400) h.1 (by decide)
  · exact shw_int (n := 400) h.2 (by decide)) (Nat.le_refl _)).up (Nat.le_refl _) (by decide)
theorem un_bd {r : Int} (h0 : 0 ≤ r) (h1 : r < nUn tri) : (uX tri r).natAbs < 10 ^ 400 ∧ (uY tri r).natAbs < 10 ^ 400 := by
  have h2 : r < 6 := by cases tri <;> (have h1' : r < _ := h1; unfold nUn at h1; simp at h1; omega)
  cases tri <;> rcases fin_cases h0 h2 (by decide) with rfl | rfl | rfl | rfl | rfl | rfl <;> exact ⟨by decide +kernel, by decide +kernel⟩
theorem un_mem {x : D} (h : x ∈ unL tri) : ∃ a b : Int, x = .tup [.int a, .int b] ∧ a.natAbs < 10 ^ 400 ∧ b.natAbs < 10 ^ 400 := by
  cases tri
  · have h' : x ∈ [D.tup [.int 1, .int 0], .tup [.int 0, .int 1], .tup [.int (-1), .int 0], .tup [.int 0, .int (-1)]] := h
    simp only [List.mem_cons, List.not_mem_nil, or_false] at h'
    rcases h' with rfl | rfl | rfl | rfl <;> exact ⟨_, _, rfl, by decide +kernel, by decide +kernel⟩
  · have h' : x ∈ [D.tup [.int 1, .int 0], .tup [.int 0, .int 1], .tup [.int (-1), .int 1], .tup [.int (-1), .int 0], .tup [.int 0, .int (-1)], .tup [.int 1, .int (-1)]] := h
    simp only [List.mem_cons, List.not_mem_nil, or_false] at h'
    rcases h' with rfl | rfl | rfl | rfl | rfl | rfl <;> exact ⟨_, _, rfl, by decide +kernel, by decide +kernel⟩
theorem right_ok (hd : Dn n s) : ∃ s', m__law_right [.cell n, plD tri] s = .ok (.bl true) s' ∧ Dn n s' ∧ s'.length = s.length := by
  have hs := hd.calm
  have g1 := grid_make (tri := tri) hs
  have hp := nUn_pos tri
  have h6 : nUn tri ≤ 6 := by cases tri <;> decide
  have l1 : listOwn 0 m_Grid___iter__ m_Grid___len__ [gD tri] s = .ok (.lst (unL tri)) s := listOwn_eq (k := (nUn tri).toNat) grid_iter (by rw [grid_len, Int.toNat_of_nonneg (by omega)]) (by omega)
  have ul : (unL tri).length ≤ 1000 := by rw [un_len]; omega
  have rl : (rngL 0 (nUn tri).toNat).length ≤ 1000 := by rw [rng_len]; omega
  have n1 : neD (.lst (unL tri)) (.lst (unL tri)) s = .ok (.bl false) s := lst_ne (by cases tri <;> rfl) rfl
  have hstr : m_Grid___str__ [gD tri] s = .ok (.str (nameOf tri)) s := by
    unfold m_Grid___str__
    simp -implicitDefEqProofs (disch := first | assumption | with_reducible (first | exact e_nc_int | exact e_nc_str | exact e_nc_tup | exact e_nc_lst | exact e_nc_bl | exact e_nc_non | exact e_nc_dic | exact e_nc_ins | exact e_right_int | exact e_right_str | exact e_right_tup | exact e_right_lst | exact e_right_non | exact e_right_dic | exact e_isL | exact e_isS | exact e_isT) | decide +kernel | with_reducible exact e_right_ins (by decide +kernel) | with_reducible exact mulB_l (by decide +kernel) | with_reducible exact mulB_r (by decide +kernel) | omega) only [Bool.not_true, Bool.not_false, evAll, evTwo, evThree, evFour, a_name]
  have shU : Shw 2 200000 (unD tri) := (shw_tup (k := 1) (B := 10000) (n := 6) (fun x hx => by
    obtain ⟨a, b, rfl, h1, h2⟩ := un_mem hx
    exact shw_u (q := (a, b)) ⟨h1, h2⟩) (by rw [un_len]; omega)).up (by decide) (by decide)
  have sN : Shw 2 200000 (.int (nUn tri)) := (shw_int (n := 2) (show (nUn tri).natAbs < 10 ^ 2 by omega) (by decide)).up (by decide) (by decide)
  have sH : Shw 2 200000 (.int (nUn tri / 2)) := (shw_int (n := 2) (show (nUn tri / 2).natAbs < 10 ^ 2 by omega) (by decide)).up (by decide) (by decide)
  have sS : Shw 2 200000 (.str (nameOf tri)) := (shw_str (n := 20) (by cases tri <;> exact ⟨by decide +kernel, by decide +kernel⟩)).up (by decide) (by decide)
  obtain ⟨t1, rp1⟩ := reprE (x := .tup [.str (nameOf tri), .int (nUn tri / 2), unD tri, .int (nUn tri), .str (nameOf tri)]) (shw_tup (n := 5) (k := 2) (B := 200000) (fun x hx => by
    simp only [List.mem_cons, List.not_mem_nil, or_false] at hx
    rcases hx with rfl | rfl | rfl | rfl | rfl
    · exact sS
    · exact sH
    · exact shU
    · exact sN
    · exact sS) (Nat.le_refl _)) (fun _ => rfl) (by decide) (by decide)
  have lu : ∀ u : Sto, tupleD [.lst (unL tri)] u = .ok (unD tri) u := fun _ => rfl
  -- the turns
  obtain ⟨ds2, s2, e2, x6, x7, rfl, d2, m2⟩ := for_rng (i := 6) (n := Int.toNat 6) (s := s) (ds := [some (.cell n), some (plD tri), some (gD tri), some (.int (nUn tri)), some (.lst (unL tri)), some (.tup [.str (nameOf tri), .int (nUn tri / 2), unD tri, .int (nUn tri), .str (nameOf tri)]), none, none, none, none])
    (body := (seqS (asgS (callD m__law_part (consD (varD 0) nilD)) (nameG 7))
(ifS (testD (op2 neD (callB reprD (consD (methD 0 m_Grid_unit (varD 2) (consD (varD 7) nilD)) nilD)) (callB reprD (consD (op2 ixD (varD 4) (op2 modD (varD 7) (varD 3))) nilD))))
(retS (cD (.bl false)))
nilS)))
    (fun j ds u => ∃ x6 x7, ds = [some (.cell n), some (plD tri), some (gD tri), some (.int (nUn tri)), some (.lst (unL tri)), some (.tup [.str (nameOf tri), .int (nUn tri / 2), unD tri, .int (nUn tri), .str (nameOf tri)]), x6, x7, none, none] ∧ Dn n u ∧ u.length = s.length) ⟨_, _, rfl, hd, rfl⟩ (by
      rintro j _ u hj ⟨x6, x7, rfl, du, lu⟩
      obtain ⟨x, u1, f1, hx, du1, lu1⟩ := part_ok du
      have q1 := Int.emod_nonneg x (show nUn tri ≠ 0 by omega)
      have q2 := Int.emod_lt_of_pos x hp
      obtain ⟨t, rp⟩ := reprE (shw_u (q := (uX tri (x % nUn tri), uY tri (x % nUn tri))) (un_bd q1 q2)) (fun _ => rfl) (by decide) (by decide)
      have g := gunit_ok (s := u1) (tri := tri) hx
      have i := ix_unl (s := u1) (tri := tri) q1 q2
      simp -implicitDefEqProofs (disch := first | assumption | with_reducible (first | exact e_nc_int | exact e_nc_str | exact e_nc_tup | exact e_nc_lst | exact e_nc_bl | exact e_nc_non | exact e_nc_dic | exact e_nc_ins | exact e_right_int | exact e_right_str | exact e_right_tup | exact e_right_lst | exact e_right_non | exact e_right_dic | exact e_isL | exact e_isS | exact e_isT) | decide +kernel | with_reducible exact e_right_ins (by decide +kernel) | with_reducible exact mulB_l (by decide +kernel) | with_reducible exact mulB_r (by decide +kernel) | omega) only [Bool.not_true, Bool.not_false, evAll, evTwo, evThree, evFour, f1, g, i, rp, decide_true]
      exact ⟨_, _, rfl, _, _, rfl, du1, by omega⟩)
  -- the places
  obtain ⟨a, b, s3, e3, ha, hb, d3, m3⟩ := place_ok d2
  have add1 : ∀ (xs : List D) (u : Sto), xs.length ≤ 100 → addD (.lst xs) (.lst (unL tri)) u = .ok (.lst (xs ++ unL tri)) u := fun xs u h => by
    have : xs.length + (unL tri).length ≤ sizeLine := by rw [un_len]; exact Nat.le_trans (show _ ≤ 1000 by omega) (by decide +kernel)
    exact if_pos this
  have hall : ∀ x ∈ ([.tup [.int a, .int b], .tup [.int 0, .int 0], .tup [.int 1, .int 1], .tup [.int (0 - 1), .int 1], .tup [.int 1, .int (0 - 1)], .tup [.int (0 - 1), .int (0 - 1)], .tup [.int 2, .int 0]] ++ unL tri : List D), ∃ a b : Int, x = .tup [.int a, .int b] ∧ a.natAbs < 10 ^ 400 ∧ b.natAbs < 10 ^ 400 := fun x hx => by
    rcases List.mem_append.mp hx with h | h
    · simp only [List.mem_cons, List.not_mem_nil, or_false] at h
      rcases h with rfl | rfl | rfl | rfl | rfl | rfl | rfl
      · exact ⟨_, _, rfl, ha, hb⟩
      all_goals exact ⟨_, _, rfl, by decide +kernel, by decide +kernel⟩
    · exact un_mem h
  obtain ⟨ds4, s4, e4, x8, rfl, rfl⟩ := for_lstG (γ := nameG 8) (body := (ifS (testD (op2 neD (callB reprD (consD (methD 0 m_Grid_direction_of (varD 2) (consD (varD 8) nilD)) nilD)) (callB reprD (consD (ifD (testD (op2 inD (varD 8) (varD 4))) (bmD isL indexM (varD 4) (consD (varD 8) nilD)) (cD .non)) nilD))))
(retS (cD (.bl false)))
nilS)) ([.tup [.int a, .int b], .tup [.int 0, .int 0], .tup [.int 1, .int 1], .tup [.int (0 - 1), .int 1], .tup [.int 1, .int (0 - 1)], .tup [.int (0 - 1), .int (0 - 1)], .tup [.int 2, .int 0]] ++ unL tri : List D)
    (fun j ds u => ∃ x8, ds = [some (.cell n), some (plD tri), some (gD tri), some (.int (nUn tri)), some (.lst (unL tri)), some (.tup [.str (nameOf tri), .int (nUn tri / 2), unD tri, .int (nUn tri), .str (nameOf tri)]), x6, x7, x8, none] ∧ u = s3) (s := s3) ⟨none, rfl, rfl⟩ (by
      rintro j x _ u hj ⟨x8, rfl, hu⟩
      obtain rfl : s3 = u := hu.symm
      obtain ⟨p, q, rfl, hp, hq⟩ := hall x (List.mem_of_getElem? hj)
      obtain ⟨d, t, f1, f2, f3⟩ := dir_ok (s := s3) (tri := tri) hp hq
      refine ⟨_, [some (.cell n), some (plD tri), some (gD tri), some (.int (nUn tri)), some (.lst (unL tri)), some (.tup [.str (nameOf tri), .int (nUn tri / 2), unD tri, .int (nUn tri), .str (nameOf tri)]), x6, x7, some (.tup [.int p, .int q]), none], s3, rfl, ?_, _, rfl, rfl⟩
      rcases f3 with ⟨i, rfl⟩ | ⟨i, f⟩
      · simp -implicitDefEqProofs (disch := first | assumption | with_reducible (first | exact e_nc_int | exact e_nc_str | exact e_nc_tup | exact e_nc_lst | exact e_nc_bl | exact e_nc_non | exact e_nc_dic | exact e_nc_ins | exact e_right_int | exact e_right_str | exact e_right_tup | exact e_right_lst | exact e_right_non | exact e_right_dic | exact e_isL | exact e_isS | exact e_isT) | decide +kernel | with_reducible exact e_right_ins (by decide +kernel) | with_reducible exact mulB_l (by decide +kernel) | with_reducible exact mulB_r (by decide +kernel) | omega) only [Bool.not_true, Bool.not_false, evAll, evTwo, evThree, evFour, f1, f2, i, decide_true]
      · simp -implicitDefEqProofs (disch := first | assumption | with_reducible (first | exact e_nc_int | exact e_nc_str | exact e_nc_tup | exact e_nc_lst | exact e_nc_bl | exact e_nc_non | exact e_nc_dic | exact e_nc_ins | exact e_right_int | exact e_right_str | exact e_right_tup | exact e_right_lst | exact e_right_non | exact e_right_dic | exact e_isL | exact e_isS | exact e_isT) | decide +kernel | with_reducible exact e_right_ins (by decide +kernel) | with_reducible exact mulB_l (by decide +kernel) | with_reducible exact mulB_r (by decide +kernel) | omega) only [Bool.not_true, Bool.not_false, evAll, evTwo, evThree, evFour, f1, f2, i, f, decide_true])
  obtain ⟨x, s5, e5, hx, d5, m5⟩ := pick_ok (xs := [.non, .str (nameOf tri), .int 0, .tup [], .lst (unL tri), unD tri, .lst [gD tri], .tup [gD tri], .dic []]) d3 (show 0 < 9 by decide) (show 9 ≤ 1000 by decide)
  have hA : ∀ kk : Bool → Bool, cmpOwn cs_all 0 m_Grid___eq__ kk (gD tri) x s5 = .ok (.bl (kk false)) s5 := by
    intro kk
    have hK : ∀ (x : D) (kd : String), kindD x s5 = some kd → rightD cs_all x s5 = true → cmpOwn cs_all 0 m_Grid___eq__ kk (gD tri) x s5 = .ok (.bl (kk false)) s5 := fun x kd h1 h2 => by
      rw [e_cmpOwn h2, geq_k h1]
      rfl
    simp only [List.mem_cons, List.not_mem_nil, or_false] at hx
    rcases hx with rfl | rfl | rfl | rfl | rfl | rfl | rfl | rfl | rfl
    · exact hK _ "NoneType" rfl rfl
    · exact hK _ "str" rfl rfl
    · exact hK _ "int" rfl rfl
    · exact hK _ "tuple" rfl rfl
    · exact hK _ "list" rfl rfl
    · exact hK _ "tuple" rfl rfl
    · exact hK _ "list" rfl rfl
    · exact hK _ "tuple" rfl rfl
    · exact hK _ "dict" rfl rfl
  have g5 := grid_make (tri := tri) d5.calm
  have ad := add1 [.tup [.int a, .int b], .tup [.int 0, .int 0], .tup [.int 1, .int 1], .tup [.int (0 - 1), .int 1], .tup [.int 1, .int (0 - 1)], .tup [.int (0 - 1), .int (0 - 1)], .tup [.int 2, .int 0]] s4 (by show 7 ≤ 100; decide)
  have l5 : s5.length = s.length := by omega
  refine ⟨s5, ?_, d5, l5⟩
  unfold m__law_right
  simp -implicitDefEqProofs (disch := first | assumption | with_reducible (first | exact e_nc_int | exact e_nc_str | exact e_nc_tup | exact e_nc_lst | exact e_nc_bl | exact e_nc_non | exact e_nc_dic | exact e_nc_ins | exact e_right_int | exact e_right_str | exact e_right_tup | exact e_right_lst | exact e_right_non | exact e_right_dic | exact e_isL | exact e_isS | exact e_isT) | decide +kernel | with_reducible exact e_right_ins (by decide +kernel) | with_reducible exact mulB_l (by decide +kernel) | with_reducible exact mulB_r (by decide +kernel) | omega) only [Bool.not_true, Bool.not_false, evAll, evTwo, evThree, evFour, pl_grid, g1, around_ok, rngE_eq (j := nUn tri) (by omega) (by omega), units_lc, lcE_eq rl, l1, n1, gname_ok, ghalf_ok, gunits_ok, grid_len, lenO_un, hstr, lu, rp1, decide_true, rngE_eq (j := 6) (by decide) (by decide), e2, e3, ad, e4, e5, g5, hA, grid_eq, id_eq, trim_eq l5]
end
end Law

set_option Elab.async false
set_option maxRecDepth 100000
set_option maxHeartbeats 4000000
set_option linter.all false
namespace Law
open PySem PySem.Spec PyProof.Rows L2 Md Pl TxS
theorem geq_no {s : Sto} : m_Grid___eq__ [gD false, gD true] s = .ok (.bl false) s := by
  have e := grid_eq (s := s) (tri := false) (t2 := true)
  exact e
theorem law_ok (ns : List Int) (hn : ns.length ≤ 63) : ∃ s', m_law [.scr ns] [] = .ok (.bl true) s' := by
  have hmax : ∃ k : Nat, (if (if (ns.length : Int) < 5 then (ns.length : Int) else 5) > 1 then (if (ns.length : Int) < 5 then (ns.length : Int) else 5) else 1) = (k : Int) ∧ k ≤ 5 := by
    refine ⟨(if (if (ns.length : Int) < 5 then (ns.length : Int) else 5) > 1 then (if (ns.length : Int) < 5 then (ns.length : Int) else 5) else 1).toNat, ?_, ?_⟩ <;> (repeat' split) <;> omega
  obtain ⟨k, hk, hk5⟩ := hmax
  obtain ⟨ds', s1, e1, x1, x2, x3, hds, hc⟩ := for_rng (i := 1) (n := k) (s := []) (ds := [some (.scr ns), none, none, none, none, none])
      (body := (seqS (asgS (callD m__law_dice (consD (varD 0) (consD (varD 1) nilD))) (nameG 2))
(forS (itD (tupD (consD (cD (.str "square")) (consD (cD (.str "triangle")) nilD)))) (nameG 3)
(ifS (notT (testD (callD m__law_right (consD (varD 2) (consD (dictD (dcons (cD (.str "grid")) (varD 3) dnil)) nilD)))))
(retS (cD (.bl false)))
nilS))))
      (fun j ds u => ∃ x1 x2 x3, ds = [some (.scr ns), x1, x2, x3, none, none] ∧ ∀ m, okS m u = true) ⟨_, _, _, rfl, calm_nil⟩ (by
        rintro j _ u hj ⟨x1, x2, x3, rfl, hc⟩
        obtain ⟨l, b, e1⟩ := dice_ok (s := u) (ns := ns) (k := j)
        have d1 := Dn.new hc l b 0
        obtain ⟨s2, e2, d2, l2⟩ := right_ok (tri := false) d1
        obtain ⟨s3, e3, d3, l3⟩ := right_ok (tri := true) d2
        have hq : ∀ (tri : Bool) (u : Sto), dicE [(.str "grid", .str (nameOf tri))] u = .ok (plD tri) u := fun tri u => rfl
        have hq1 : ∀ (u : Sto), dicE [(.str "grid", .str "square")] u = .ok (plD false) u := fun u => rfl
        have hq2 : ∀ (u : Sto), dicE [(.str "grid", .str "triangle")] u = .ok (plD true) u := fun u => rfl
        simp -implicitDefEqProofs (disch := first | assumption | with_reducible (first | exact e_nc_int | exact e_nc_str | exact e_nc_tup | exact e_nc_lst | exact e_nc_bl | exact e_nc_non | exact e_nc_dic | exact e_nc_ins | exact e_right_int | exact e_right_str | exact e_right_tup | exact e_right_lst | exact e_right_non | exact e_right_dic | exact e_isL | exact e_isS | exact e_isT) | decide +kernel | with_reducible exact e_right_ins (by decide +kernel) | with_reducible exact mulB_l (by decide +kernel) | with_reducible exact mulB_r (by decide +kernel) | omega) only [Bool.not_true, Bool.not_false, evAll, evTwo, evThree, evFour, e1, forGo1, hq1, hq2, e2, e3]
        exact ⟨_, _, rfl, _, _, _, rfl, d3.calm⟩)
  subst hds
  have g1 : makeE 0 m_Grid___init__ [.str "square"] s1 = .ok (gD false) s1 := grid_make (tri := false) hc
  have g2 : makeE 0 m_Grid___init__ [.str "triangle"] s1 = .ok (gD true) s1 := grid_make (tri := true) hc
  have hT : eqD d_GRIDS (.tup [.str "square", .str "triangle"]) s1 = .ok (.bl true) s1 := by
    have e : d_GRIDS = .tup [.str "square", .str "triangle"] := rfl
    rw [e]
    exact tup_eq (by decide +kernel) rfl
  unfold m_law
  simp -implicitDefEqProofs (disch := first | assumption | with_reducible (first | exact e_nc_int | exact e_nc_str | exact e_nc_tup | exact e_nc_lst | exact e_nc_bl | exact e_nc_non | exact e_nc_dic | exact e_nc_ins | exact e_right_int | exact e_right_str | exact e_right_tup | exact e_right_lst | exact e_right_non | exact e_right_dic | exact e_isL | exact e_isS | exact e_isT) | decide +kernel | with_reducible exact e_right_ins (by decide +kernel) | with_reducible exact mulB_l (by decide +kernel) | with_reducible exact mulB_r (by decide +kernel) | omega) only [Bool.not_true, Bool.not_false, evAll, evTwo, evThree, evFour, hk, rngE_eq (j := (k : Int)) (by omega) (by omega), Int.toNat_natCast, e1, g1, g2, geq_no, id_eq, hT]
  exact ⟨_, rfl⟩
variable {P : Program} {w : World} {K : PySem.W.Frag} {mg : Str → Option Value} {base : Heap} {A : Ad} {Df : Fd}
abbrev sp_law := spL
theorem okL_law (T : Txt K mg A Df) (nd : base.NoDigits) : Gl.FnG P w K mg base CX0 8 A.a_law Df.d_law ["_law_script"] (sp_law K) := fin_law (ok_law T nd) law_ok
open Gl
theorem all_mk {l : PySem.W.OpenLaw} {w : World} {K : PySem.W.Frag} {h : Heap} {mg : Str → Option Value} {fa : Addr} (X : K.In h) (G : h.Ns mainGlobals mg) (hfa : mg "law" = some (.ref fa))
    {od0 an0 : Option Addr} {sl0 : Array (Option Value)} {oc0 kV0 dc0 pm0 cd0 ct0 : Value} {f0 : Addr}
    {od1 an1 : Option Addr} {sl1 : Array (Option Value)} {oc1 kV1 dc1 pm1 cd1 ct1 : Value} {f1 : Addr}
    {od2 an2 : Option Addr} {sl2 : Array (Option Value)} {oc2 kV2 dc2 pm2 cd2 ct2 : Value} {f2 : Addr}
    {od3 an3 : Option Addr} {sl3 : Array (Option Value)} {oc3 kV3 dc3 pm3 cd3 ct3 : Value} {f3 : Addr}
    {od4 an4 : Option Addr} {sl4 : Array (Option Value)} {oc4 kV4 dc4 pm4 cd4 ct4 : Value} {f4 : Addr}
    {od5 an5 : Option Addr} {sl5 : Array (Option Value)} {oc5 kV5 dc5 pm5 cd5 ct5 : Value} {f5 : Addr}
    {od6 an6 : Option Addr} {sl6 : Array (Option Value)} {oc6 kV6 dc6 pm6 cd6 ct6 : Value} {f6 : Addr}
    {od7 an7 : Option Addr} {sl7 : Array (Option Value)} {oc7 kV7 dc7 pm7 cd7 ct7 : Value} {f7 : Addr}
    {od8 an8 : Option Addr} {sl8 : Array (Option Value)} {oc8 kV8 dc8 pm8 cd8 ct8 : Value} {f8 : Addr}
    {od9 an9 : Option Addr} {sl9 : Array (Option Value)} {oc9 kV9 dc9 pm9 cd9 ct9 : Value} {f9 : Addr}
    {od10 an10 : Option Addr} {sl10 : Array (Option Value)} {oc10 kV10 dc10 pm10 cd10 ct10 : Value} {f10 : Addr}
    {od11 an11 : Option Addr} {sl11 : Array (Option Value)} {oc11 kV11 dc11 pm11 cd11 ct11 : Value} {f11 : Addr}
    {od12 an12 : Option Addr} {sl12 : Array (Option Value)} {oc12 kV12 dc12 pm12 cd12 ct12 : Value} {f12 : Addr}
    {od13 an13 : Option Addr} {sl13 : Array (Option Value)} {oc13 kV13 dc13 pm13 cd13 ct13 : Value} {f13 : Addr}
    {od14 an14 : Option Addr} {sl14 : Array (Option Value)} {oc14 kV14 dc14 pm14 cd14 ct14 : Value} {f14 : Addr}
    {od15 an15 : Option Addr} {sl15 : Array (Option Value)} {oc15 kV15 dc15 pm15 cd15 ct15 : Value} {f15 : Addr}
    {od16 an16 : Option Addr} {sl16 : Array (Option Value)} {oc16 kV16 dc16 pm16 cd16 ct16 : Value} {f16 : Addr}
    {od17 an17 : Option Addr} {sl17 : Array (Option Value)} {oc17 kV17 dc17 pm17 cd17 ct17 : Value} {f17 : Addr}
    {od18 an18 : Option Addr} {sl18 : Array (Option Value)} {oc18 kV18 dc18 pm18 cd18 ct18 : Value} {f18 : Addr}
    {od19 an19 : Option Addr} {sl19 : Array (Option Value)} {oc19 kV19 dc19 pm19 cd19 ct19 : Value} {f19 : Addr}
    {od20 an20 : Option Addr} {sl20 : Array (Option Value)} {oc20 kV20 dc20 pm20 cd20 ct20 : Value} {f20 : Addr}
    {od21 an21 : Option Addr} {sl21 : Array (Option Value)} {oc21 kV21 dc21 pm21 cd21 ct21 : Value} {f21 : Addr}
    {od22 an22 : Option Addr} {sl22 : Array (Option Value)} {oc22 kV22 dc22 pm22 cd22 ct22 : Value} {f22 : Addr}
    {od23 an23 : Option Addr} {sl23 : Array (Option Value)} {oc23 kV23 dc23 pm23 cd23 ct23 : Value} {f23 : Addr}
    {od24 an24 : Option Addr} {sl24 : Array (Option Value)} {oc24 kV24 dc24 pm24 cd24 ct24 : Value} {f24 : Addr}
    {u_LIMIT : Value}
    {u_SQUARE : Value}
    {C_Grid : Addr}
    {p_Grid_own_name : Addr}
    {p_Grid_own_units : Addr}
    {q_Grid_name : Addr} {w_Grid_name : List Value}
    {q_Grid_half : Addr} {w_Grid_half : List Value}
    {q_Grid_units : Addr} {w_Grid_units : List Value}
    {u_GRIDS : Addr} {o_GRIDS : Option Addr} {n_GRIDS : Nat} {s_GRIDS : Array (Option Value)} {v_GRIDS : Array Value}
    {u_SQUARE_UNITS : Addr} {o_SQUARE_UNITS : Option Addr} {n_SQUARE_UNITS : Nat} {s_SQUARE_UNITS : Array (Option Value)} {v_SQUARE_UNITS : Array Value}
    {u_SQUARE_UNITS_0 : Addr} {o_SQUARE_UNITS_0 : Option Addr} {n_SQUARE_UNITS_0 : Nat} {s_SQUARE_UNITS_0 : Array (Option Value)} {v_SQUARE_UNITS_0 : Array Value}
    {u_SQUARE_UNITS_1 : Addr} {o_SQUARE_UNITS_1 : Option Addr} {n_SQUARE_UNITS_1 : Nat} {s_SQUARE_UNITS_1 : Array (Option Value)} {v_SQUARE_UNITS_1 : Array Value}
    {u_SQUARE_UNITS_2 : Addr} {o_SQUARE_UNITS_2 : Option Addr} {n_SQUARE_UNITS_2 : Nat} {s_SQUARE_UNITS_2 : Array (Option Value)} {v_SQUARE_UNITS_2 : Array Value}
    {u_SQUARE_UNITS_3 : Addr} {o_SQUARE_UNITS_3 : Option Addr} {n_SQUARE_UNITS_3 : Nat} {s_SQUARE_UNITS_3 : Array (Option Value)} {v_SQUARE_UNITS_3 : Array Value}
    {u_TRIANGLE_UNITS : Addr} {o_TRIANGLE_UNITS : Option Addr} {n_TRIANGLE_UNITS : Nat} {s_TRIANGLE_UNITS : Array (Option Value)} {v_TRIANGLE_UNITS : Array Value}
    {u_TRIANGLE_UNITS_0 : Addr} {o_TRIANGLE_UNITS_0 : Option Addr} {n_TRIANGLE_UNITS_0 : Nat} {s_TRIANGLE_UNITS_0 : Array (Option Value)} {v_TRIANGLE_UNITS_0 : Array Value}
    {u_TRIANGLE_UNITS_1 : Addr} {o_TRIANGLE_UNITS_1 : Option Addr} {n_TRIANGLE_UNITS_1 : Nat} {s_TRIANGLE_UNITS_1 : Array (Option Value)} {v_TRIANGLE_UNITS_1 : Array Value}
    {u_TRIANGLE_UNITS_2 : Addr} {o_TRIANGLE_UNITS_2 : Option Addr} {n_TRIANGLE_UNITS_2 : Nat} {s_TRIANGLE_UNITS_2 : Array (Option Value)} {v_TRIANGLE_UNITS_2 : Array Value}
    {u_TRIANGLE_UNITS_3 : Addr} {o_TRIANGLE_UNITS_3 : Option Addr} {n_TRIANGLE_UNITS_3 : Nat} {s_TRIANGLE_UNITS_3 : Array (Option Value)} {v_TRIANGLE_UNITS_3 : Array Value}
    {u_TRIANGLE_UNITS_4 : Addr} {o_TRIANGLE_UNITS_4 : Option Addr} {n_TRIANGLE_UNITS_4 : Nat} {s_TRIANGLE_UNITS_4 : Array (Option Value)} {v_TRIANGLE_UNITS_4 : Array Value}
    {u_TRIANGLE_UNITS_5 : Addr} {o_TRIANGLE_UNITS_5 : Option Addr} {n_TRIANGLE_UNITS_5 : Nat} {s_TRIANGLE_UNITS_5 : Array (Option Value)} {v_TRIANGLE_UNITS_5 : Array Value}
    (gC_Grid : PySem.W.nsIn K mainGlobals "Grid" = some (some (.ref C_Grid)))
    (s1_Grid : PySem.W.plainGet K C_Grid Str.empty = true)
    (s2_Grid : PySem.W.isClsIn K C_Grid = true)
    (s3_Grid : PySem.W.plainOver K C_Grid = true)
    (s4_Grid : PySem.W.findIn K (.ref C_Grid) "__setattr__" = some (some (.builtin "object.__setattr__")))
    (i1_Grid : PySem.W.findIn K (.ref C_Grid) "__class__" = some (some (.builtin "object.__class__")))
    (i2_Grid : PySem.W.specialIn K (.builtin "object.__class__") "__get__" = some (some (.builtin "getset_descriptor.__get__")))
    (i3_Grid : PySem.W.takesIn K (.builtin "object.__class__") = some true)
    (i4_Grid : PySem.W.mroIn K C_Grid (.type "object") = some true)
    (i5_Grid : PySem.W.kitOne K (.ref C_Grid) (.ref C_Grid) = some true)
    (j_Grid_NoneType : PySem.W.kitOne K (.type "NoneType") (.ref C_Grid) = some false)
    (j_Grid_bool : PySem.W.kitOne K (.type "bool") (.ref C_Grid) = some false)
    (j_Grid_int : PySem.W.kitOne K (.type "int") (.ref C_Grid) = some false)
    (j_Grid_str : PySem.W.kitOne K (.type "str") (.ref C_Grid) = some false)
    (j_Grid_list : PySem.W.kitOne K (.type "list") (.ref C_Grid) = some false)
    (j_Grid_tuple : PySem.W.kitOne K (.type "tuple") (.ref C_Grid) = some false)
    (j_Grid_dict : PySem.W.kitOne K (.type "dict") (.ref C_Grid) = some false)
    (jb_Grid_bool : PySem.W.kitOne K (.ref C_Grid) (.type "bool") = some false)
    (jb_Grid_int : PySem.W.kitOne K (.ref C_Grid) (.type "int") = some false)
    (jb_Grid_str : PySem.W.kitOne K (.ref C_Grid) (.type "str") = some false)
    (jb_Grid_list : PySem.W.kitOne K (.ref C_Grid) (.type "list") = some false)
    (jb_Grid_tuple : PySem.W.kitOne K (.ref C_Grid) (.type "tuple") = some false)
    (jb_Grid_dict : PySem.W.kitOne K (.ref C_Grid) (.type "dict") = some false)
    (jn_Grid : PySem.W.findIn K (.ref C_Grid) "__ne__" = some (some (.builtin "object.__ne__")))
    (t1_Grid_own_name : PySem.W.findIn K (.ref C_Grid) "own_name" = some (some (.ref p_Grid_own_name)))
    (t2_Grid_own_name : PySem.W.specialIn K (.ref p_Grid_own_name) "__get__" = some (some (.builtin "member_descriptor.__get__")))
    (t3_Grid_own_name : PySem.W.takesIn K (.ref p_Grid_own_name) = some true)
    (t4_Grid_own_name : PySem.W.typeIn K (.ref p_Grid_own_name) = some (.type "member_descriptor"))
    (t5_Grid_own_name : PySem.W.slotIn K p_Grid_own_name C_Grid = some 0)
    (t1_Grid_own_units : PySem.W.findIn K (.ref C_Grid) "own_units" = some (some (.ref p_Grid_own_units)))
    (t2_Grid_own_units : PySem.W.specialIn K (.ref p_Grid_own_units) "__get__" = some (some (.builtin "member_descriptor.__get__")))
    (t3_Grid_own_units : PySem.W.takesIn K (.ref p_Grid_own_units) = some true)
    (t4_Grid_own_units : PySem.W.typeIn K (.ref p_Grid_own_units) = some (.type "member_descriptor"))
    (t5_Grid_own_units : PySem.W.slotIn K p_Grid_own_units C_Grid = some 1)
    (m1_Grid : PySem.W.makesIn K C_Grid = true)
    (m2_Grid : PySem.W.keepIn K (.ref C_Grid) = true)
    (jo_Grid_Grid : PySem.W.kitOne K (.ref C_Grid) (.ref C_Grid) = some true)
    (jk_Grid_Grid : PySem.W.notFirst K C_Grid (.ref C_Grid) = true)
    (a0 : PySem.W.findIn K (.ref C_Grid) "__eq__" = some (some (.ref f0)))
    (i0 : PySem.W.isFn K (.ref f0) = true)
    (l0 : K.lookup f0 = some ⟨oc0, od0, .func (PySem.W.fnOf "__eq__" "Grid.__eq__" (defArgs s_Grid___eq__) (defBody s_Grid___eq__) (defScope s_Grid___eq__) .none kV0 dc0 pm0 an0 cd0 ct0), sl0⟩)
    (c0 : PySem.W.codeIn K cd0 "Grid.__eq__" = true)
    (k0 : PySem.W.keepIn K (.ref f0) = true)
    (a1 : PySem.W.findIn K (.ref C_Grid) "__init__" = some (some (.ref f1)))
    (i1 : PySem.W.isFn K (.ref f1) = true)
    (l1 : K.lookup f1 = some ⟨oc1, od1, .func (PySem.W.fnOf "__init__" "Grid.__init__" (defArgs s_Grid___init__) (defBody s_Grid___init__) (defScope s_Grid___init__) .none kV1 dc1 pm1 an1 cd1 ct1), sl1⟩)
    (c1 : PySem.W.codeIn K cd1 "Grid.__init__" = true)
    (k1 : PySem.W.keepIn K (.ref f1) = true)
    (a2 : PySem.W.nsIn K mainGlobals "_law_dice" = some (some (.ref f2)))
    (l2 : K.lookup f2 = some ⟨oc2, od2, .func (PySem.W.fnOf "_law_dice" "_law_dice" (defArgs s__law_dice) (defBody s__law_dice) (defScope s__law_dice) .none kV2 dc2 pm2 an2 cd2 ct2), sl2⟩)
    (c2 : PySem.W.codeIn K cd2 "_law_dice" = true)
    (k2 : PySem.W.keepIn K (.ref f2) = true)
    (a3 : PySem.W.findIn K (.ref C_Grid) "__iter__" = some (some (.ref f3)))
    (i3 : PySem.W.isFn K (.ref f3) = true)
    (l3 : K.lookup f3 = some ⟨oc3, od3, .func (PySem.W.fnOf "__iter__" "Grid.__iter__" (defArgs s_Grid___iter__) (defBody s_Grid___iter__) (defScope s_Grid___iter__) .none kV3 dc3 pm3 an3 cd3 ct3), sl3⟩)
    (c3 : PySem.W.codeIn K cd3 "Grid.__iter__" = true)
    (k3 : PySem.W.keepIn K (.ref f3) = true)
    (a4 : PySem.W.findIn K (.ref C_Grid) "__len__" = some (some (.ref f4)))
    (i4 : PySem.W.isFn K (.ref f4) = true)
    (l4 : K.lookup f4 = some ⟨oc4, od4, .func (PySem.W.fnOf "__len__" "Grid.__len__" (defArgs s_Grid___len__) (defBody s_Grid___len__) (defScope s_Grid___len__) .none kV4 dc4 pm4 an4 cd4 ct4), sl4⟩)
    (c4 : PySem.W.codeIn K cd4 "Grid.__len__" = true)
    (k4 : PySem.W.keepIn K (.ref f4) = true)
    (a5 : PySem.W.findIn K (.ref C_Grid) "__str__" = some (some (.ref f5)))
    (i5 : PySem.W.isFn K (.ref f5) = true)
    (l5 : K.lookup f5 = some ⟨oc5, od5, .func (PySem.W.fnOf "__str__" "Grid.__str__" (defArgs s_Grid___str__) (defBody s_Grid___str__) (defScope s_Grid___str__) .none kV5 dc5 pm5 an5 cd5 ct5), sl5⟩)
    (c5 : PySem.W.codeIn K cd5 "Grid.__str__" = true)
    (k5 : PySem.W.keepIn K (.ref f5) = true)
    (a6 : PySem.W.nsIn K mainGlobals "is_integer" = some (some (.ref f6)))
    (l6 : K.lookup f6 = some ⟨oc6, od6, .func (PySem.W.fnOf "is_integer" "is_integer" (defArgs s_is_integer) (defBody s_is_integer) (defScope s_is_integer) .none kV6 dc6 pm6 an6 cd6 ct6), sl6⟩)
    (c6 : PySem.W.codeIn K cd6 "is_integer" = true)
    (k6 : PySem.W.keepIn K (.ref f6) = true)
    (a7 : PySem.W.nsIn K mainGlobals "is_point" = some (some (.ref f7)))
    (l7 : K.lookup f7 = some ⟨oc7, od7, .func (PySem.W.fnOf "is_point" "is_point" (defArgs s_is_point) (defBody s_is_point) (defScope s_is_point) .none kV7 dc7 pm7 an7 cd7 ct7), sl7⟩)
    (c7 : PySem.W.codeIn K cd7 "is_point" = true)
    (k7 : PySem.W.keepIn K (.ref f7) = true)
    (a8 : PySem.W.nsIn K mainGlobals "require_point" = some (some (.ref f8)))
    (l8 : K.lookup f8 = some ⟨oc8, od8, .func (PySem.W.fnOf "require_point" "require_point" (defArgs s_require_point) (defBody s_require_point) (defScope s_require_point) .none kV8 dc8 pm8 an8 cd8 ct8), sl8⟩)
    (c8 : PySem.W.codeIn K cd8 "require_point" = true)
    (k8 : PySem.W.keepIn K (.ref f8) = true)
    (a9 : PySem.W.findIn K (.ref C_Grid) "direction_of" = some (some (.ref f9)))
    (i9 : PySem.W.isFn K (.ref f9) = true)
    (l9 : K.lookup f9 = some ⟨oc9, od9, .func (PySem.W.fnOf "direction_of" "Grid.direction_of" (defArgs s_Grid_direction_of) (defBody s_Grid_direction_of) (defScope s_Grid_direction_of) .none kV9 dc9 pm9 an9 cd9 ct9), sl9⟩)
    (c9 : PySem.W.codeIn K cd9 "Grid.direction_of" = true)
    (k9 : PySem.W.keepIn K (.ref f9) = true)
    (r1_Grid_half : PySem.W.findIn K (.ref C_Grid) "half" = some (some (.ref q_Grid_half)))
    (r2_Grid_half : PySem.W.specialIn K (.ref q_Grid_half) "__get__" = some (some (.builtin "property.__get__")))
    (r3_Grid_half : PySem.W.takesIn K (.ref q_Grid_half) = some true)
    (r4_Grid_half : PySem.W.recIn K q_Grid_half "property" = some (.ref f10 :: w_Grid_half))
    (l10 : K.lookup f10 = some ⟨oc10, od10, .func (PySem.W.fnOf "half" "Grid.half" (defArgs s_Grid_half) (defBody s_Grid_half) (defScope s_Grid_half) .none kV10 dc10 pm10 an10 cd10 ct10), sl10⟩)
    (c10 : PySem.W.codeIn K cd10 "Grid.half" = true)
    (k10 : PySem.W.keepIn K (.ref f10) = true)
    (r1_Grid_name : PySem.W.findIn K (.ref C_Grid) "name" = some (some (.ref q_Grid_name)))
    (r2_Grid_name : PySem.W.specialIn K (.ref q_Grid_name) "__get__" = some (some (.builtin "property.__get__")))
    (r3_Grid_name : PySem.W.takesIn K (.ref q_Grid_name) = some true)
    (r4_Grid_name : PySem.W.recIn K q_Grid_name "property" = some (.ref f11 :: w_Grid_name))
    (l11 : K.lookup f11 = some ⟨oc11, od11, .func (PySem.W.fnOf "name" "Grid.name" (defArgs s_Grid_name) (defBody s_Grid_name) (defScope s_Grid_name) .none kV11 dc11 pm11 an11 cd11 ct11), sl11⟩)
    (c11 : PySem.W.codeIn K cd11 "Grid.name" = true)
    (k11 : PySem.W.keepIn K (.ref f11) = true)
    (a12 : PySem.W.findIn K (.ref C_Grid) "modulo" = some (some (.ref f12)))
    (i12 : PySem.W.isFn K (.ref f12) = true)
    (l12 : K.lookup f12 = some ⟨oc12, od12, .func (PySem.W.fnOf "modulo" "Grid.modulo" (defArgs s_Grid_modulo) (defBody s_Grid_modulo) (defScope s_Grid_modulo) .none kV12 dc12 pm12 an12 cd12 ct12), sl12⟩)
    (c12 : PySem.W.codeIn K cd12 "Grid.modulo" = true)
    (k12 : PySem.W.keepIn K (.ref f12) = true)
    (a13 : PySem.W.nsIn K mainGlobals "require_integer" = some (some (.ref f13)))
    (l13 : K.lookup f13 = some ⟨oc13, od13, .func (PySem.W.fnOf "require_integer" "require_integer" (defArgs s_require_integer) (defBody s_require_integer) (defScope s_require_integer) .none kV13 dc13 pm13 an13 cd13 ct13), sl13⟩)
    (c13 : PySem.W.codeIn K cd13 "require_integer" = true)
    (k13 : PySem.W.keepIn K (.ref f13) = true)
    (a14 : PySem.W.findIn K (.ref C_Grid) "unit" = some (some (.ref f14)))
    (i14 : PySem.W.isFn K (.ref f14) = true)
    (l14 : K.lookup f14 = some ⟨oc14, od14, .func (PySem.W.fnOf "unit" "Grid.unit" (defArgs s_Grid_unit) (defBody s_Grid_unit) (defScope s_Grid_unit) .none kV14 dc14 pm14 an14 cd14 ct14), sl14⟩)
    (c14 : PySem.W.codeIn K cd14 "Grid.unit" = true)
    (k14 : PySem.W.keepIn K (.ref f14) = true)
    (r1_Grid_units : PySem.W.findIn K (.ref C_Grid) "units" = some (some (.ref q_Grid_units)))
    (r2_Grid_units : PySem.W.specialIn K (.ref q_Grid_units) "__get__" = some (some (.builtin "property.__get__")))
    (r3_Grid_units : PySem.W.takesIn K (.ref q_Grid_units) = some true)
    (r4_Grid_units : PySem.W.recIn K q_Grid_units "property" = some (.ref f15 :: w_Grid_units))
    (l15 : K.lookup f15 = some ⟨oc15, od15, .func (PySem.W.fnOf "units" "Grid.units" (defArgs s_Grid_units) (defBody s_Grid_units) (defScope s_Grid_units) .none kV15 dc15 pm15 an15 cd15 ct15), sl15⟩)
    (c15 : PySem.W.codeIn K cd15 "Grid.units" = true)
    (k15 : PySem.W.keepIn K (.ref f15) = true)
    (a16 : PySem.W.nsIn K mainGlobals "_law_around" = some (some (.ref f16)))
    (l16 : K.lookup f16 = some ⟨oc16, od16, .func (PySem.W.fnOf "_law_around" "_law_around" (defArgs s__law_around) (defBody s__law_around) (defScope s__law_around) .none kV16 dc16 pm16 an16 cd16 ct16), sl16⟩)
    (c16 : PySem.W.codeIn K cd16 "_law_around" = true)
    (k16 : PySem.W.keepIn K (.ref f16) = true)
    (a17 : PySem.W.nsIn K mainGlobals "_law_limit" = some (some (.ref f17)))
    (l17 : K.lookup f17 = some ⟨oc17, od17, .func (PySem.W.fnOf "_law_limit" "_law_limit" (defArgs s__law_limit) (defBody s__law_limit) (defScope s__law_limit) .none kV17 dc17 pm17 an17 cd17 ct17), sl17⟩)
    (c17 : PySem.W.codeIn K cd17 "_law_limit" = true)
    (k17 : PySem.W.keepIn K (.ref f17) = true)
    (a18 : PySem.W.nsIn K mainGlobals "_law_roll" = some (some (.ref f18)))
    (l18 : K.lookup f18 = some ⟨oc18, od18, .func (PySem.W.fnOf "_law_roll" "_law_roll" (defArgs s__law_roll) (defBody s__law_roll) (defScope s__law_roll) .none kV18 dc18 pm18 an18 cd18 ct18), sl18⟩)
    (c18 : PySem.W.codeIn K cd18 "_law_roll" = true)
    (k18 : PySem.W.keepIn K (.ref f18) = true)
    (a19 : PySem.W.nsIn K mainGlobals "_law_pick" = some (some (.ref f19)))
    (l19 : K.lookup f19 = some ⟨oc19, od19, .func (PySem.W.fnOf "_law_pick" "_law_pick" (defArgs s__law_pick) (defBody s__law_pick) (defScope s__law_pick) .none kV19 dc19 pm19 an19 cd19 ct19), sl19⟩)
    (c19 : PySem.W.codeIn K cd19 "_law_pick" = true)
    (k19 : PySem.W.keepIn K (.ref f19) = true)
    (a20 : PySem.W.nsIn K mainGlobals "_law_part" = some (some (.ref f20)))
    (l20 : K.lookup f20 = some ⟨oc20, od20, .func (PySem.W.fnOf "_law_part" "_law_part" (defArgs s__law_part) (defBody s__law_part) (defScope s__law_part) .none kV20 dc20 pm20 an20 cd20 ct20), sl20⟩)
    (c20 : PySem.W.codeIn K cd20 "_law_part" = true)
    (k20 : PySem.W.keepIn K (.ref f20) = true)
    (a21 : PySem.W.nsIn K mainGlobals "_law_place" = some (some (.ref f21)))
    (l21 : K.lookup f21 = some ⟨oc21, od21, .func (PySem.W.fnOf "_law_place" "_law_place" (defArgs s__law_place) (defBody s__law_place) (defScope s__law_place) .none kV21 dc21 pm21 an21 cd21 ct21), sl21⟩)
    (c21 : PySem.W.codeIn K cd21 "_law_place" = true)
    (k21 : PySem.W.keepIn K (.ref f21) = true)
    (a22 : PySem.W.nsIn K mainGlobals "_law_unit" = some (some (.ref f22)))
    (l22 : K.lookup f22 = some ⟨oc22, od22, .func (PySem.W.fnOf "_law_unit" "_law_unit" (defArgs s__law_unit) (defBody s__law_unit) (defScope s__law_unit) .none kV22 dc22 pm22 an22 cd22 ct22), sl22⟩)
    (c22 : PySem.W.codeIn K cd22 "_law_unit" = true)
    (k22 : PySem.W.keepIn K (.ref f22) = true)
    (a23 : PySem.W.nsIn K mainGlobals "_law_right" = some (some (.ref f23)))
    (l23 : K.lookup f23 = some ⟨oc23, od23, .func (PySem.W.fnOf "_law_right" "_law_right" (defArgs s__law_right) (defBody s__law_right) (defScope s__law_right) .none kV23 dc23 pm23 an23 cd23 ct23), sl23⟩)
    (c23 : PySem.W.codeIn K cd23 "_law_right" = true)
    (k23 : PySem.W.keepIn K (.ref f23) = true)
    (a24 : PySem.W.nsIn K mainGlobals "law" = some (some (.ref f24)))
    (l24 : K.lookup f24 = some ⟨oc24, od24, .func (PySem.W.fnOf "law" "law" (defArgs s_law) (defBody s_law) (defScope s_law) .none kV24 dc24 pm24 an24 cd24 ct24), sl24⟩)
    (c24 : PySem.W.codeIn K cd24 "law" = true)
    (k24 : PySem.W.keepIn K (.ref f24) = true)
    (z_abs : PySem.W.nsIn K mainGlobals "abs" = some none)
    (z_bool : PySem.W.nsIn K mainGlobals "bool" = some none)
    (z_int : PySem.W.nsIn K mainGlobals "int" = some none)
    (z_isinstance : PySem.W.nsIn K mainGlobals "isinstance" = some none)
    (z_iter : PySem.W.nsIn K mainGlobals "iter" = some none)
    (z_len : PySem.W.nsIn K mainGlobals "len" = some none)
    (z_list : PySem.W.nsIn K mainGlobals "list" = some none)
    (z_max : PySem.W.nsIn K mainGlobals "max" = some none)
    (z_min : PySem.W.nsIn K mainGlobals "min" = some none)
    (z_range : PySem.W.nsIn K mainGlobals "range" = some none)
    (z_repr : PySem.W.nsIn K mainGlobals "repr" = some none)
    (z_str : PySem.W.nsIn K mainGlobals "str" = some none)
    (z_tuple : PySem.W.nsIn K mainGlobals "tuple" = some none)
    (q_LIMIT : PySem.W.nsIn K mainGlobals "LIMIT" = some (some u_LIMIT))
    (r_LIMIT : RelV (.int ((10 ^ 50) ^ 8)) u_LIMIT)
    (q_SQUARE : PySem.W.nsIn K mainGlobals "SQUARE" = some (some u_SQUARE))
    (r_SQUARE : RelV (.str "square") u_SQUARE)
    (e_GRIDS : PySem.W.nsIn K mainGlobals "GRIDS" = some (some (.ref u_GRIDS)))
    (l_GRIDS : K.lookup u_GRIDS = some ⟨.type "tuple", o_GRIDS, .seq v_GRIDS n_GRIDS, s_GRIDS⟩)
    (v_GRIDS : v_GRIDS.size ≤ sizeLine ∧ Vals [.str "square", .str "triangle"] v_GRIDS.toList)
    (e_SQUARE_UNITS : PySem.W.nsIn K mainGlobals "SQUARE_UNITS" = some (some (.ref u_SQUARE_UNITS)))
    (l_SQUARE_UNITS : K.lookup u_SQUARE_UNITS = some ⟨.type "tuple", o_SQUARE_UNITS, .seq v_SQUARE_UNITS n_SQUARE_UNITS, s_SQUARE_UNITS⟩)
    (v_SQUARE_UNITS : v_SQUARE_UNITS.size ≤ sizeLine ∧ Vals [.ref u_SQUARE_UNITS_0, .ref u_SQUARE_UNITS_1, .ref u_SQUARE_UNITS_2, .ref u_SQUARE_UNITS_3] v_SQUARE_UNITS.toList)
    (l_SQUARE_UNITS_0 : K.lookup u_SQUARE_UNITS_0 = some ⟨.type "tuple", o_SQUARE_UNITS_0, .seq v_SQUARE_UNITS_0 n_SQUARE_UNITS_0, s_SQUARE_UNITS_0⟩)
    (v_SQUARE_UNITS_0 : v_SQUARE_UNITS_0.size ≤ sizeLine ∧ Vals [.int (1), .int (0)] v_SQUARE_UNITS_0.toList)
    (l_SQUARE_UNITS_1 : K.lookup u_SQUARE_UNITS_1 = some ⟨.type "tuple", o_SQUARE_UNITS_1, .seq v_SQUARE_UNITS_1 n_SQUARE_UNITS_1, s_SQUARE_UNITS_1⟩)
    (v_SQUARE_UNITS_1 : v_SQUARE_UNITS_1.size ≤ sizeLine ∧ Vals [.int (0), .int (1)] v_SQUARE_UNITS_1.toList)
    (l_SQUARE_UNITS_2 : K.lookup u_SQUARE_UNITS_2 = some ⟨.type "tuple", o_SQUARE_UNITS_2, .seq v_SQUARE_UNITS_2 n_SQUARE_UNITS_2, s_SQUARE_UNITS_2⟩)
    (v_SQUARE_UNITS_2 : v_SQUARE_UNITS_2.size ≤ sizeLine ∧ Vals [.int (-1), .int (0)] v_SQUARE_UNITS_2.toList)
    (l_SQUARE_UNITS_3 : K.lookup u_SQUARE_UNITS_3 = some ⟨.type "tuple", o_SQUARE_UNITS_3, .seq v_SQUARE_UNITS_3 n_SQUARE_UNITS_3, s_SQUARE_UNITS_3⟩)
    (v_SQUARE_UNITS_3 : v_SQUARE_UNITS_3.size ≤ sizeLine ∧ Vals [.int (0), .int (-1)] v_SQUARE_UNITS_3.toList)
    (on_SQUARE_UNITS : o_SQUARE_UNITS = none)
    (e_TRIANGLE_UNITS : PySem.W.nsIn K mainGlobals "TRIANGLE_UNITS" = some (some (.ref u_TRIANGLE_UNITS)))
    (l_TRIANGLE_UNITS : K.lookup u_TRIANGLE_UNITS = some ⟨.type "tuple", o_TRIANGLE_UNITS, .seq v_TRIANGLE_UNITS n_TRIANGLE_UNITS, s_TRIANGLE_UNITS⟩)
    (v_TRIANGLE_UNITS : v_TRIANGLE_UNITS.size ≤ sizeLine ∧ Vals [.ref u_TRIANGLE_UNITS_0, .ref u_TRIANGLE_UNITS_1, .ref u_TRIANGLE_UNITS_2, .ref u_TRIANGLE_UNITS_3, .ref u_TRIANGLE_UNITS_4, .ref u_TRIANGLE_UNITS_5] v_TRIANGLE_UNITS.toList)
    (l_TRIANGLE_UNITS_0 : K.lookup u_TRIANGLE_UNITS_0 = some ⟨.type "tuple", o_TRIANGLE_UNITS_0, .seq v_TRIANGLE_UNITS_0 n_TRIANGLE_UNITS_0, s_TRIANGLE_UNITS_0⟩)
    (v_TRIANGLE_UNITS_0 : v_TRIANGLE_UNITS_0.size ≤ sizeLine ∧ Vals [.int (1), .int (0)] v_TRIANGLE_UNITS_0.toList)
    (l_TRIANGLE_UNITS_1 : K.lookup u_TRIANGLE_UNITS_1 = some ⟨.type "tuple", o_TRIANGLE_UNITS_1, .seq v_TRIANGLE_UNITS_1 n_TRIANGLE_UNITS_1, s_TRIANGLE_UNITS_1⟩)
    (v_TRIANGLE_UNITS_1 : v_TRIANGLE_UNITS_1.size ≤ sizeLine ∧ Vals [.int (0), .int (1)] v_TRIANGLE_UNITS_1.toList)
    (l_TRIANGLE_UNITS_2 : K.lookup u_TRIANGLE_UNITS_2 = some ⟨.type "tuple", o_TRIANGLE_UNITS_2, .seq v_TRIANGLE_UNITS_2 n_TRIANGLE_UNITS_2, s_TRIANGLE_UNITS_2⟩)
    (v_TRIANGLE_UNITS_2 : v_TRIANGLE_UNITS_2.size ≤ sizeLine ∧ Vals [.int (-1), .int (1)] v_TRIANGLE_UNITS_2.toList)
    (l_TRIANGLE_UNITS_3 : K.lookup u_TRIANGLE_UNITS_3 = some ⟨.type "tuple", o_TRIANGLE_UNITS_3, .seq v_TRIANGLE_UNITS_3 n_TRIANGLE_UNITS_3, s_TRIANGLE_UNITS_3⟩)
    (v_TRIANGLE_UNITS_3 : v_TRIANGLE_UNITS_3.size ≤ sizeLine ∧ Vals [.int (-1), .int (0)] v_TRIANGLE_UNITS_3.toList)
    (l_TRIANGLE_UNITS_4 : K.lookup u_TRIANGLE_UNITS_4 = some ⟨.type "tuple", o_TRIANGLE_UNITS_4, .seq v_TRIANGLE_UNITS_4 n_TRIANGLE_UNITS_4, s_TRIANGLE_UNITS_4⟩)
    (v_TRIANGLE_UNITS_4 : v_TRIANGLE_UNITS_4.size ≤ sizeLine ∧ Vals [.int (0), .int (-1)] v_TRIANGLE_UNITS_4.toList)
    (l_TRIANGLE_UNITS_5 : K.lookup u_TRIANGLE_UNITS_5 = some ⟨.type "tuple", o_TRIANGLE_UNITS_5, .seq v_TRIANGLE_UNITS_5 n_TRIANGLE_UNITS_5, s_TRIANGLE_UNITS_5⟩)
    (v_TRIANGLE_UNITS_5 : v_TRIANGLE_UNITS_5.size ≤ sizeLine ∧ Vals [.int (1), .int (-1)] v_TRIANGLE_UNITS_5.toList)
    (on_TRIANGLE_UNITS : o_TRIANGLE_UNITS = none) :
    ∃ fd : FuncData, (∀ (s : Shared) (v : Value), BindsTo s fd ⟨[v], []⟩ [("_law_script", v)]) ∧ ∀ base : Heap, K.In base → base.Ns mainGlobals mg → base.NoDigits → FnG l.prog w K mg base CX0 8 fa fd ["_law_script"] (sp_law K) := by
  have e := hfa.symm.trans (PySem.W.mg_of X G a24)
  cases e
  have T : Txt K mg ⟨f0, f1, f2, f3, f4, f5, f6, f7, f8, f9, f10, f11, f12, f13, f14, f15, f16, f17, f18, f19, f20, f21, f22, f23, fa, C_Grid, p_Grid_own_name, p_Grid_own_units, q_Grid_name, q_Grid_half, q_Grid_units, u_GRIDS, u_SQUARE_UNITS, u_SQUARE_UNITS_0, u_SQUARE_UNITS_1, u_SQUARE_UNITS_2, u_SQUARE_UNITS_3, u_TRIANGLE_UNITS, u_TRIANGLE_UNITS_0, u_TRIANGLE_UNITS_1, u_TRIANGLE_UNITS_2, u_TRIANGLE_UNITS_3, u_TRIANGLE_UNITS_4, u_TRIANGLE_UNITS_5⟩ ⟨(PySem.W.fnOf "__eq__" "Grid.__eq__" (defArgs s_Grid___eq__) (defBody s_Grid___eq__) (defScope s_Grid___eq__) .none kV0 dc0 pm0 an0 cd0 ct0), (PySem.W.fnOf "__init__" "Grid.__init__" (defArgs s_Grid___init__) (defBody s_Grid___init__) (defScope s_Grid___init__) .none kV1 dc1 pm1 an1 cd1 ct1), (PySem.W.fnOf "_law_dice" "_law_dice" (defArgs s__law_dice) (defBody s__law_dice) (defScope s__law_dice) .none kV2 dc2 pm2 an2 cd2 ct2), (PySem.W.fnOf "__iter__" "Grid.__iter__" (defArgs s_Grid___iter__) (defBody s_Grid___iter__) (defScope s_Grid___iter__) .none kV3 dc3 pm3 an3 cd3 ct3), (PySem.W.fnOf "__len__" "Grid.__len__" (defArgs s_Grid___len__) (defBody s_Grid___len__) (defScope s_Grid___len__) .none kV4 dc4 pm4 an4 cd4 ct4), (PySem.W.fnOf "__str__" "Grid.__str__" (defArgs s_Grid___str__) (defBody s_Grid___str__) (defScope s_Grid___str__) .none kV5 dc5 pm5 an5 cd5 ct5), (PySem.W.fnOf "is_integer" "is_integer" (defArgs s_is_integer) (defBody s_is_integer) (defScope s_is_integer) .none kV6 dc6 pm6 an6 cd6 ct6), (PySem.W.fnOf "is_point" "is_point" (defArgs s_is_point) (defBody s_is_point) (defScope s_is_point) .none kV7 dc7 pm7 an7 cd7 ct7), (PySem.W.fnOf "require_point" "require_point" (defArgs s_require_point) (defBody s_require_point) (defScope s_require_point) .none kV8 dc8 pm8 an8 cd8 ct8), (PySem.W.fnOf "direction_of" "Grid.direction_of" (defArgs s_Grid_direction_of) (defBody s_Grid_direction_of) (defScope s_Grid_direction_of) .none kV9 dc9 pm9 an9 cd9 ct9), (PySem.W.fnOf "half" "Grid.half" (defArgs s_Grid_half) (defBody s_Grid_half) (defScope s_Grid_half) .none kV10 dc10 pm10 an10 cd10 ct10), (PySem.W.fnOf "name" "Grid.name" (defArgs s_Grid_name) (defBody s_Grid_name) (defScope s_Grid_name) .none kV11 dc11 pm11 an11 cd11 ct11), (PySem.W.fnOf "modulo" "Grid.modulo" (defArgs s_Grid_modulo) (defBody s_Grid_modulo) (defScope s_Grid_modulo) .none kV12 dc12 pm12 an12 cd12 ct12), (PySem.W.fnOf "require_integer" "require_integer" (defArgs s_require_integer) (defBody s_require_integer) (defScope s_require_integer) .none kV13 dc13 pm13 an13 cd13 ct13), (PySem.W.fnOf "unit" "Grid.unit" (defArgs s_Grid_unit) (defBody s_Grid_unit) (defScope s_Grid_unit) .none kV14 dc14 pm14 an14 cd14 ct14), (PySem.W.fnOf "units" "Grid.units" (defArgs s_Grid_units) (defBody s_Grid_units) (defScope s_Grid_units) .none kV15 dc15 pm15 an15 cd15 ct15), (PySem.W.fnOf "_law_around" "_law_around" (defArgs s__law_around) (defBody s__law_around) (defScope s__law_around) .none kV16 dc16 pm16 an16 cd16 ct16), (PySem.W.fnOf "_law_limit" "_law_limit" (defArgs s__law_limit) (defBody s__law_limit) (defScope s__law_limit) .none kV17 dc17 pm17 an17 cd17 ct17), (PySem.W.fnOf "_law_roll" "_law_roll" (defArgs s__law_roll) (defBody s__law_roll) (defScope s__law_roll) .none kV18 dc18 pm18 an18 cd18 ct18), (PySem.W.fnOf "_law_pick" "_law_pick" (defArgs s__law_pick) (defBody s__law_pick) (defScope s__law_pick) .none kV19 dc19 pm19 an19 cd19 ct19), (PySem.W.fnOf "_law_part" "_law_part" (defArgs s__law_part) (defBody s__law_part) (defScope s__law_part) .none kV20 dc20 pm20 an20 cd20 ct20), (PySem.W.fnOf "_law_place" "_law_place" (defArgs s__law_place) (defBody s__law_place) (defScope s__law_place) .none kV21 dc21 pm21 an21 cd21 ct21), (PySem.W.fnOf "_law_unit" "_law_unit" (defArgs s__law_unit) (defBody s__law_unit) (defScope s__law_unit) .none kV22 dc22 pm22 an22 cd22 ct22), (PySem.W.fnOf "_law_right" "_law_right" (defArgs s__law_right) (defBody s__law_right) (defScope s__law_right) .none kV23 dc23 pm23 an23 cd23 ct23), (PySem.W.fnOf "law" "law" (defArgs s_law) (defBody s_law) (defScope s_law) .none kV24 dc24 pm24 an24 cd24 ct24)⟩ := ⟨PySem.W.mg_none_of X G z_abs,
    PySem.W.mg_none_of X G z_bool,
    PySem.W.mg_none_of X G z_int,
    PySem.W.mg_none_of X G z_isinstance,
    PySem.W.mg_none_of X G z_iter,
    PySem.W.mg_none_of X G z_len,
    PySem.W.mg_none_of X G z_list,
    PySem.W.mg_none_of X G z_max,
    PySem.W.mg_none_of X G z_min,
    PySem.W.mg_none_of X G z_range,
    PySem.W.mg_none_of X G z_repr,
    PySem.W.mg_none_of X G z_str,
    PySem.W.mg_none_of X G z_tuple,
    ⟨u_LIMIT, PySem.W.mg_of X G q_LIMIT, r_LIMIT⟩,
    ⟨u_SQUARE, PySem.W.mg_of X G q_SQUARE, r_SQUARE⟩,
    ⟨_, PySem.W.mg_of X G e_GRIDS, rfl⟩,
    fun _ => Or.inr ⟨_, _, _, l_GRIDS, rfl, rfl, v_GRIDS.1, v_GRIDS.2⟩,
    ⟨_, PySem.W.mg_of X G e_SQUARE_UNITS, rfl⟩,
    fun _ => Or.inr ⟨_, _, _, l_SQUARE_UNITS, rfl, rfl, v_SQUARE_UNITS.1, v_SQUARE_UNITS.2⟩,
    fun _ => Or.inr ⟨_, _, _, l_SQUARE_UNITS_0, rfl, rfl, v_SQUARE_UNITS_0.1, v_SQUARE_UNITS_0.2⟩,
    fun _ => Or.inr ⟨_, _, _, l_SQUARE_UNITS_1, rfl, rfl, v_SQUARE_UNITS_1.1, v_SQUARE_UNITS_1.2⟩,
    fun _ => Or.inr ⟨_, _, _, l_SQUARE_UNITS_2, rfl, rfl, v_SQUARE_UNITS_2.1, v_SQUARE_UNITS_2.2⟩,
    fun _ => Or.inr ⟨_, _, _, l_SQUARE_UNITS_3, rfl, rfl, v_SQUARE_UNITS_3.1, v_SQUARE_UNITS_3.2⟩,
    ⟨_, l_SQUARE_UNITS, rfl, on_SQUARE_UNITS⟩,
    ⟨_, PySem.W.mg_of X G e_TRIANGLE_UNITS, rfl⟩,
    fun _ => Or.inr ⟨_, _, _, l_TRIANGLE_UNITS, rfl, rfl, v_TRIANGLE_UNITS.1, v_TRIANGLE_UNITS.2⟩,
    fun _ => Or.inr ⟨_, _, _, l_TRIANGLE_UNITS_0, rfl, rfl, v_TRIANGLE_UNITS_0.1, v_TRIANGLE_UNITS_0.2⟩,
    fun _ => Or.inr ⟨_, _, _, l_TRIANGLE_UNITS_1, rfl, rfl, v_TRIANGLE_UNITS_1.1, v_TRIANGLE_UNITS_1.2⟩,
    fun _ => Or.inr ⟨_, _, _, l_TRIANGLE_UNITS_2, rfl, rfl, v_TRIANGLE_UNITS_2.1, v_TRIANGLE_UNITS_2.2⟩,
    fun _ => Or.inr ⟨_, _, _, l_TRIANGLE_UNITS_3, rfl, rfl, v_TRIANGLE_UNITS_3.1, v_TRIANGLE_UNITS_3.2⟩,
    fun _ => Or.inr ⟨_, _, _, l_TRIANGLE_UNITS_4, rfl, rfl, v_TRIANGLE_UNITS_4.1, v_TRIANGLE_UNITS_4.2⟩,
    fun _ => Or.inr ⟨_, _, _, l_TRIANGLE_UNITS_5, rfl, rfl, v_TRIANGLE_UNITS_5.1, v_TRIANGLE_UNITS_5.2⟩,
    ⟨_, l_TRIANGLE_UNITS, rfl, on_TRIANGLE_UNITS⟩,
    fun_mk (st := s_Grid___eq__) l0 c0 k0,
    (fun_mk (st := s_Grid___eq__) l0 c0 k0).binds (ps := ["self", "value"]) fun _ _ _ _ _ _ us hl => match us, hl with | [_, _], _ => rfl,
    fun_mk (st := s_Grid___init__) l1 c1 k1,
    (fun_mk (st := s_Grid___init__) l1 c1 k1).binds (ps := ["self", "name"]) fun _ _ _ _ _ _ us hl => match us, hl with | [_, _], _ => rfl,
    PySem.W.mg_of X G a2,
    fun_mk (st := s__law_dice) l2 c2 k2,
    (fun_mk (st := s__law_dice) l2 c2 k2).binds (ps := ["_law_script", "_law_spot"]) fun _ _ _ _ _ _ us hl => match us, hl with | [_, _], _ => rfl,
    fun_mk (st := s_Grid___iter__) l3 c3 k3,
    (fun_mk (st := s_Grid___iter__) l3 c3 k3).binds (ps := ["self"]) fun _ _ _ _ _ _ us hl => match us, hl with | [_], _ => rfl,
    fun_mk (st := s_Grid___len__) l4 c4 k4,
    (fun_mk (st := s_Grid___len__) l4 c4 k4).binds (ps := ["self"]) fun _ _ _ _ _ _ us hl => match us, hl with | [_], _ => rfl,
    fun_mk (st := s_Grid___str__) l5 c5 k5,
    (fun_mk (st := s_Grid___str__) l5 c5 k5).binds (ps := ["self"]) fun _ _ _ _ _ _ us hl => match us, hl with | [_], _ => rfl,
    PySem.W.mg_of X G a6,
    fun_mk (st := s_is_integer) l6 c6 k6,
    (fun_mk (st := s_is_integer) l6 c6 k6).binds (ps := ["value"]) fun _ _ _ _ _ _ us hl => match us, hl with | [_], _ => rfl,
    PySem.W.mg_of X G a7,
    fun_mk (st := s_is_point) l7 c7 k7,
    (fun_mk (st := s_is_point) l7 c7 k7).binds (ps := ["value"]) fun _ _ _ _ _ _ us hl => match us, hl with | [_], _ => rfl,
    PySem.W.mg_of X G a8,
    fun_mk (st := s_require_point) l8 c8 k8,
    (fun_mk (st := s_require_point) l8 c8 k8).binds (ps := ["value"]) fun _ _ _ _ _ _ us hl => match us, hl with | [_], _ => rfl,
    fun_mk (st := s_Grid_direction_of) l9 c9 k9,
    (fun_mk (st := s_Grid_direction_of) l9 c9 k9).binds (ps := ["self", "point"]) fun _ _ _ _ _ _ us hl => match us, hl with | [_, _], _ => rfl,
    fun_mk (st := s_Grid_half) l10 c10 k10,
    (fun_mk (st := s_Grid_half) l10 c10 k10).binds (ps := ["self"]) fun _ _ _ _ _ _ us hl => match us, hl with | [_], _ => rfl,
    fun_mk (st := s_Grid_name) l11 c11 k11,
    (fun_mk (st := s_Grid_name) l11 c11 k11).binds (ps := ["self"]) fun _ _ _ _ _ _ us hl => match us, hl with | [_], _ => rfl,
    fun_mk (st := s_Grid_modulo) l12 c12 k12,
    (fun_mk (st := s_Grid_modulo) l12 c12 k12).binds (ps := ["self", "direction"]) fun _ _ _ _ _ _ us hl => match us, hl with | [_, _], _ => rfl,
    PySem.W.mg_of X G a13,
    fun_mk (st := s_require_integer) l13 c13 k13,
    (fun_mk (st := s_require_integer) l13 c13 k13).binds (ps := ["value"]) fun _ _ _ _ _ _ us hl => match us, hl with | [_], _ => rfl,
    fun_mk (st := s_Grid_unit) l14 c14 k14,
    (fun_mk (st := s_Grid_unit) l14 c14 k14).binds (ps := ["self", "direction"]) fun _ _ _ _ _ _ us hl => match us, hl with | [_, _], _ => rfl,
    fun_mk (st := s_Grid_units) l15 c15 k15,
    (fun_mk (st := s_Grid_units) l15 c15 k15).binds (ps := ["self"]) fun _ _ _ _ _ _ us hl => match us, hl with | [_], _ => rfl,
    PySem.W.mg_of X G a16,
    fun_mk (st := s__law_around) l16 c16 k16,
    (fun_mk (st := s__law_around) l16 c16 k16).binds (ps := ["_law_plain"]) fun _ _ _ _ _ _ us hl => match us, hl with | [_], _ => rfl,
    PySem.W.mg_of X G a17,
    fun_mk (st := s__law_limit) l17 c17 k17,
    (fun_mk (st := s__law_limit) l17 c17 k17).binds (ps := []) fun _ _ _ _ _ _ us hl => match us, hl with | [], _ => rfl,
    PySem.W.mg_of X G a18,
    fun_mk (st := s__law_roll) l18 c18 k18,
    (fun_mk (st := s__law_roll) l18 c18 k18).binds (ps := ["_law_dice_here", "_law_total"]) fun _ _ _ _ _ _ us hl => match us, hl with | [_, _], _ => rfl,
    PySem.W.mg_of X G a19,
    fun_mk (st := s__law_pick) l19 c19 k19,
    (fun_mk (st := s__law_pick) l19 c19 k19).binds (ps := ["_law_dice_here", "_law_items"]) fun _ _ _ _ _ _ us hl => match us, hl with | [_, _], _ => rfl,
    PySem.W.mg_of X G a20,
    fun_mk (st := s__law_part) l20 c20 k20,
    (fun_mk (st := s__law_part) l20 c20 k20).binds (ps := ["_law_dice_here"]) fun _ _ _ _ _ _ us hl => match us, hl with | [_], _ => rfl,
    PySem.W.mg_of X G a21,
    fun_mk (st := s__law_place) l21 c21 k21,
    (fun_mk (st := s__law_place) l21 c21 k21).binds (ps := ["_law_dice_here"]) fun _ _ _ _ _ _ us hl => match us, hl with | [_], _ => rfl,
    PySem.W.mg_of X G a22,
    fun_mk (st := s__law_unit) l22 c22 k22,
    (fun_mk (st := s__law_unit) l22 c22 k22).binds (ps := ["_law_plain", "_law_direction"]) fun _ _ _ _ _ _ us hl => match us, hl with | [_, _], _ => rfl,
    PySem.W.mg_of X G a23,
    fun_mk (st := s__law_right) l23 c23 k23,
    (fun_mk (st := s__law_right) l23 c23 k23).binds (ps := ["_law_dice_here", "_law_plain"]) fun _ _ _ _ _ _ us hl => match us, hl with | [_, _], _ => rfl,
    PySem.W.mg_of X G a24,
    fun_mk (st := s_law) l24 c24 k24,
    (fun_mk (st := s_law) l24 c24 k24).binds (ps := ["_law_script"]) fun _ _ _ _ _ _ us hl => match us, hl with | [_], _ => rfl,
    PySem.W.mg_of X G gC_Grid,
    ⟨s1_Grid, s2_Grid, s3_Grid, s4_Grid⟩,
    ⟨i1_Grid, i2_Grid, i3_Grid, i4_Grid⟩,
    i5_Grid,
    j_Grid_NoneType,
    j_Grid_bool,
    j_Grid_int,
    j_Grid_str,
    j_Grid_list,
    j_Grid_tuple,
    j_Grid_dict,
    jb_Grid_bool,
    jb_Grid_int,
    jb_Grid_str,
    jb_Grid_list,
    jb_Grid_tuple,
    jb_Grid_dict,
    jo_Grid_Grid,
    jk_Grid_Grid,
    jn_Grid,
    ⟨t1_Grid_own_name, t2_Grid_own_name, t3_Grid_own_name, t4_Grid_own_name, t5_Grid_own_name, by decide⟩,
    ⟨t1_Grid_own_units, t2_Grid_own_units, t3_Grid_own_units, t4_Grid_own_units, t5_Grid_own_units, by decide⟩,
    ⟨m1_Grid, a1, i1, m2_Grid⟩,
    ⟨a12, i12, k12⟩,
    ⟨a14, i14, k14⟩,
    ⟨a9, i9, k9⟩,
    ⟨a4, i4, k4⟩,
    ⟨a3, i3, k3⟩,
    ⟨a0, i0, k0⟩,
    ⟨a5, i5, k5⟩,
    r1_Grid_name,
    r2_Grid_name,
    r3_Grid_name,
    ⟨_, r4_Grid_name⟩,
    r1_Grid_half,
    r2_Grid_half,
    r3_Grid_half,
    ⟨_, r4_Grid_half⟩,
    r1_Grid_units,
    r2_Grid_units,
    r3_Grid_units,
    ⟨_, r4_Grid_units⟩⟩
  exact ⟨_, fun s v => .of_eq rfl, fun base _ _ nd => okL_law T nd⟩

end Law
open PySem PySem.W PyProof.Rows in
set_option maxRecDepth 100000 in
set_option maxHeartbeats 0 in
theorem PySem.Challenge.cw_grownlines_k03_grids_told_holds : PySem.Challenge.rw_grownlines_k03_grids_told.Holds := by
  w_on; o_law; k_head; (case hw => w_witness2)
  k_fill
  refine Gl.walkG (l := PySem.Challenge.rw_grownlines_k03_grids_told) (n := 63) (k := 8) (x := "_law_script") (sp := Law.sp_law) rfl (by decide) rfl ⟨rfl, by decide, by decide⟩ (fun w h Y => PySem.W.kIn_of Y) ?F (fun _ _ a ns hl _ hS => ⟨a, ns, rfl, hS, hl, fun _ => rfl⟩)
  case F =>
    intro w mg fa h KX G hmg
    refine' Law.all_mk KX G hmg ?gC_Grid ?s1_Grid ?s2_Grid ?s3_Grid ?s4_Grid ?i1_Grid ?i2_Grid ?i3_Grid ?i4_Grid ?i5_Grid ?j_Grid_NoneType ?j_Grid_bool ?j_Grid_int ?j_Grid_str ?j_Grid_list ?j_Grid_tuple ?j_Grid_dict ?jb_Grid_bool ?jb_Grid_int ?jb_Grid_str ?jb_Grid_list ?jb_Grid_tuple ?jb_Grid_dict ?jn_Grid ?t1_Grid_own_name ?t2_Grid_own_name ?t3_Grid_own_name ?t4_Grid_own_name ?t5_Grid_own_name ?t1_Grid_own_units ?t2_Grid_own_units ?t3_Grid_own_units ?t4_Grid_own_units ?t5_Grid_own_units ?m1_Grid ?m2_Grid ?jo_Grid_Grid ?jk_Grid_Grid ?a0 ?i0 ?l0 ?c0 ?k0 ?a1 ?i1 ?l1 ?c1 ?k1 ?a2 ?l2 ?c2 ?k2 ?a3 ?i3 ?l3 ?c3 ?k3 ?a4 ?i4 ?l4 ?c4 ?k4 ?a5 ?i5 ?l5 ?c5 ?k5 ?a6 ?l6 ?c6 ?k6 ?a7 ?l7 ?c7 ?k7 ?a8 ?l8 ?c8 ?k8 ?a9 ?i9 ?l9 ?c9 ?k9 ?r1_Grid_half ?r2_Grid_half ?r3_Grid_half ?r4_Grid_half ?l10 ?c10 ?k10 ?r1_Grid_name ?r2_Grid_name ?r3_Grid_name ?r4_Grid_name ?l11 ?c11 ?k11 ?a12 ?i12 ?l12 ?c12 ?k12 ?a13 ?l13 ?c13 ?k13 ?a14 ?i14 ?l14 ?c14 ?k14 ?r1_Grid_units ?r2_Grid_units ?r3_Grid_units ?r4_Grid_units ?l15 ?c15 ?k15 ?a16 ?l16 ?c16 ?k16 ?a17 ?l17 ?c17 ?k17 ?a18 ?l18 ?c18 ?k18 ?a19 ?l19 ?c19 ?k19 ?a20 ?l20 ?c20 ?k20 ?a21 ?l21 ?c21 ?k21 ?a22 ?l22 ?c22 ?k22 ?a23 ?l23 ?c23 ?k23 ?a24 ?l24 ?c24 ?k24 ?z_abs ?z_bool ?z_int ?z_isinstance ?z_iter ?z_len ?z_list ?z_max ?z_min ?z_range ?z_repr ?z_str ?z_tuple ?q_LIMIT ?r_LIMIT ?q_SQUARE ?r_SQUARE ?e_GRIDS ?l_GRIDS ?v_GRIDS ?e_SQUARE_UNITS ?l_SQUARE_UNITS ?v_SQUARE_UNITS ?l_SQUARE_UNITS_0 ?v_SQUARE_UNITS_0 ?l_SQUARE_UNITS_1 ?v_SQUARE_UNITS_1 ?l_SQUARE_UNITS_2 ?v_SQUARE_UNITS_2 ?l_SQUARE_UNITS_3 ?v_SQUARE_UNITS_3 ?on_SQUARE_UNITS ?e_TRIANGLE_UNITS ?l_TRIANGLE_UNITS ?v_TRIANGLE_UNITS ?l_TRIANGLE_UNITS_0 ?v_TRIANGLE_UNITS_0 ?l_TRIANGLE_UNITS_1 ?v_TRIANGLE_UNITS_1 ?l_TRIANGLE_UNITS_2 ?v_TRIANGLE_UNITS_2 ?l_TRIANGLE_UNITS_3 ?v_TRIANGLE_UNITS_3 ?l_TRIANGLE_UNITS_4 ?v_TRIANGLE_UNITS_4 ?l_TRIANGLE_UNITS_5 ?v_TRIANGLE_UNITS_5 ?on_TRIANGLE_UNITS
    (case gC_Grid => k_is)
    (case s1_Grid => k_is)
    (case s2_Grid => k_is)
    (case s3_Grid => k_is)
    (case s4_Grid => k_is)
    (case i1_Grid => k_is)
    (case i2_Grid => k_is)
    (case i3_Grid => k_is)
    (case i4_Grid => k_is)
    (case i5_Grid => kit_is)
    (case j_Grid_NoneType => kit_is)
    (case j_Grid_bool => kit_is)
    (case j_Grid_int => kit_is)
    (case j_Grid_str => kit_is)
    (case j_Grid_list => kit_is)
    (case j_Grid_tuple => kit_is)
    (case j_Grid_dict => kit_is)
    (case jb_Grid_bool => kit_is)
    (case jb_Grid_int => kit_is)
    (case jb_Grid_str => kit_is)
    (case jb_Grid_list => kit_is)
    (case jb_Grid_tuple => kit_is)
    (case jb_Grid_dict => kit_is)
    (case jn_Grid => k_is)
    (case t1_Grid_own_name => k_is)
    (case t2_Grid_own_name => k_is)
    (case t3_Grid_own_name => k_is)
    (case t4_Grid_own_name => k_is)
    (case t5_Grid_own_name => k_is)
    (case t1_Grid_own_units => k_is)
    (case t2_Grid_own_units => k_is)
    (case t3_Grid_own_units => k_is)
    (case t4_Grid_own_units => k_is)
    (case t5_Grid_own_units => k_is)
    (case m1_Grid => k_is)
    (case m2_Grid => k_is)
    (case jo_Grid_Grid => kit_is)
    (case jk_Grid_Grid => k_is)
    (case a0 => k_is)
    (case i0 => k_is)
    (case l0 => k_is)
    (case c0 => k_is)
    (case k0 => k_is)
    (case a1 => k_is)
    (case i1 => k_is)
    (case l1 => k_is)
    (case c1 => k_is)
    (case k1 => k_is)
    (case a2 => k_is)
    (case l2 => k_is)
    (case c2 => k_is)
    (case k2 => k_is)
    (case a3 => k_is)
    (case i3 => k_is)
    (case l3 => k_is)
    (case c3 => k_is)
    (case k3 => k_is)
    (case a4 => k_is)
    (case i4 => k_is)
    (case l4 => k_is)
    (case c4 => k_is)
    (case k4 => k_is)
    (case a5 => k_is)
    (case i5 => k_is)
    (case l5 => k_is)
    (case c5 => k_is)
    (case k5 => k_is)
    (case a6 => k_is)
    (case l6 => k_is)
    (case c6 => k_is)
    (case k6 => k_is)
    (case a7 => k_is)
    (case l7 => k_is)
    (case c7 => k_is)
    (case k7 => k_is)
    (case a8 => k_is)
    (case l8 => k_is)
    (case c8 => k_is)
    (case k8 => k_is)
    (case a9 => k_is)
    (case i9 => k_is)
    (case l9 => k_is)
    (case c9 => k_is)
    (case k9 => k_is)
    (case r1_Grid_half => k_is)
    (case r2_Grid_half => k_is)
    (case r3_Grid_half => k_is)
    (case r4_Grid_half => k_is)
    (case l10 => k_is)
    (case c10 => k_is)
    (case k10 => k_is)
    (case r1_Grid_name => k_is)
    (case r2_Grid_name => k_is)
    (case r3_Grid_name => k_is)
    (case r4_Grid_name => k_is)
    (case l11 => k_is)
    (case c11 => k_is)
    (case k11 => k_is)
    (case a12 => k_is)
    (case i12 => k_is)
    (case l12 => k_is)
    (case c12 => k_is)
    (case k12 => k_is)
    (case a13 => k_is)
    (case l13 => k_is)
    (case c13 => k_is)
    (case k13 => k_is)
    (case a14 => k_is)
    (case i14 => k_is)
    (case l14 => k_is)
    (case c14 => k_is)
    (case k14 => k_is)
    (case r1_Grid_units => k_is)
    (case r2_Grid_units => k_is)
    (case r3_Grid_units => k_is)
    (case r4_Grid_units => k_is)
    (case l15 => k_is)
    (case c15 => k_is)
    (case k15 => k_is)
    (case a16 => k_is)
    (case l16 => k_is)
    (case c16 => k_is)
    (case k16 => k_is)
    (case a17 => k_is)
    (case l17 => k_is)
    (case c17 => k_is)
    (case k17 => k_is)
    (case a18 => k_is)
    (case l18 => k_is)
    (case c18 => k_is)
    (case k18 => k_is)
    (case a19 => k_is)
    (case l19 => k_is)
    (case c19 => k_is)
    (case k19 => k_is)
    (case a20 => k_is)
    (case l20 => k_is)
    (case c20 => k_is)
    (case k20 => k_is)
    (case a21 => k_is)
    (case l21 => k_is)
    (case c21 => k_is)
    (case k21 => k_is)
    (case a22 => k_is)
    (case l22 => k_is)
    (case c22 => k_is)
    (case k22 => k_is)
    (case a23 => k_is)
    (case l23 => k_is)
    (case c23 => k_is)
    (case k23 => k_is)
    (case a24 => k_is)
    (case l24 => k_is)
    (case c24 => k_is)
    (case k24 => k_is)
    (case z_abs => k_is)
    (case z_bool => k_is)
    (case z_int => k_is)
    (case z_isinstance => k_is)
    (case z_iter => k_is)
    (case z_len => k_is)
    (case z_list => k_is)
    (case z_max => k_is)
    (case z_min => k_is)
    (case z_range => k_is)
    (case z_repr => k_is)
    (case z_str => k_is)
    (case z_tuple => k_is)
    (case q_LIMIT => k_is)
    (case r_LIMIT => first | exact ⟨_, rfl⟩ | rfl)
    (case q_SQUARE => k_is)
    (case r_SQUARE => first | exact ⟨_, rfl⟩ | rfl)
    (case e_GRIDS => k_is)
    (case l_GRIDS => k_is)
    (case v_GRIDS => exact ⟨by decide, by first | exact .nil | (repeat (first | exact .nil | refine .cons ?_ ?_ | exact ⟨_, rfl⟩ | exact rfl))⟩)
    (case e_SQUARE_UNITS => k_is)
    (case l_SQUARE_UNITS => k_is)
    (case v_SQUARE_UNITS => exact ⟨by decide, by first | exact .nil | (repeat (first | exact .nil | refine .cons ?_ ?_ | exact ⟨_, rfl⟩ | exact rfl))⟩)
    (case l_SQUARE_UNITS_0 => k_is)
    (case v_SQUARE_UNITS_0 => exact ⟨by decide, by first | exact .nil | (repeat (first | exact .nil | refine .cons ?_ ?_ | exact ⟨_, rfl⟩ | exact rfl))⟩)
    (case l_SQUARE_UNITS_1 => k_is)
    (case v_SQUARE_UNITS_1 => exact ⟨by decide, by first | exact .nil | (repeat (first | exact .nil | refine .cons ?_ ?_ | exact ⟨_, rfl⟩ | exact rfl))⟩)
    (case l_SQUARE_UNITS_2 => k_is)
    (case v_SQUARE_UNITS_2 => exact ⟨by decide, by first | exact .nil | (repeat (first | exact .nil | refine .cons ?_ ?_ | exact ⟨_, rfl⟩ | exact rfl))⟩)
    (case l_SQUARE_UNITS_3 => k_is)
    (case v_SQUARE_UNITS_3 => exact ⟨by decide, by first | exact .nil | (repeat (first | exact .nil | refine .cons ?_ ?_ | exact ⟨_, rfl⟩ | exact rfl))⟩)
    (case on_SQUARE_UNITS => exact rfl)
    (case e_TRIANGLE_UNITS => k_is)
    (case l_TRIANGLE_UNITS => k_is)
    (case v_TRIANGLE_UNITS => exact ⟨by decide, by first | exact .nil | (repeat (first | exact .nil | refine .cons ?_ ?_ | exact ⟨_, rfl⟩ | exact rfl))⟩)
    (case l_TRIANGLE_UNITS_0 => k_is)
    (case v_TRIANGLE_UNITS_0 => exact ⟨by decide, by first | exact .nil | (repeat (first | exact .nil | refine .cons ?_ ?_ | exact ⟨_, rfl⟩ | exact rfl))⟩)
    (case l_TRIANGLE_UNITS_1 => k_is)
    (case v_TRIANGLE_UNITS_1 => exact ⟨by decide, by first | exact .nil | (repeat (first | exact .nil | refine .cons ?_ ?_ | exact ⟨_, rfl⟩ | exact rfl))⟩)
    (case l_TRIANGLE_UNITS_2 => k_is)
    (case v_TRIANGLE_UNITS_2 => exact ⟨by decide, by first | exact .nil | (repeat (first | exact .nil | refine .cons ?_ ?_ | exact ⟨_, rfl⟩ | exact rfl))⟩)
    (case l_TRIANGLE_UNITS_3 => k_is)
    (case v_TRIANGLE_UNITS_3 => exact ⟨by decide, by first | exact .nil | (repeat (first | exact .nil | refine .cons ?_ ?_ | exact ⟨_, rfl⟩ | exact rfl))⟩)
    (case l_TRIANGLE_UNITS_4 => k_is)
    (case v_TRIANGLE_UNITS_4 => exact ⟨by decide, by first | exact .nil | (repeat (first | exact .nil | refine .cons ?_ ?_ | exact ⟨_, rfl⟩ | exact rfl))⟩)
    (case l_TRIANGLE_UNITS_5 => k_is)
    (case v_TRIANGLE_UNITS_5 => exact ⟨by decide, by first | exact .nil | (repeat (first | exact .nil | refine .cons ?_ ?_ | exact ⟨_, rfl⟩ | exact rfl))⟩)
    (case on_TRIANGLE_UNITS => exact rfl)

