import PyProof.Rows.All
import Wide.All
import OpenK.AllK
import Wide.FinOn
import HandS.ForMost
import HandS.Wide
import HandS.IsInst
import HandS.Style
import HandS.Walk
import HandS.Flow
import HandS.Steps
import PySem.Challenge.RW_grownlines_k02_whole_points
set_option Elab.async false
set_option maxRecDepth 100000
set_option maxHeartbeats 4000000
set_option linter.all false
/-! my own layer over the hand layer: guarded promises (repr), great numbers, repr of data, a stepper -/
namespace Gl
open PySem PySem.Spec PyProof.Rows L2

/-! ### promises where nothing is being shown (for repr) -/
structure FnG (P : Program) (w : World) (K : PySem.W.Frag) (mg : Str → Option Value) (base : Heap) (CX : CXT)
    (k : Nat) (f : Addr) (fd : FuncData) (ps : List Str) (sp : Sp) : Prop where
  len : ∀ vs H Q E, sp vs H Q E → vs.length = ps.length
  go : ∀ (A : Around) (outer : List Env) (s : Shared) (H : Hp) (args : Args) (us : List Value) (vs : List V)
    (Q : VK) (E : XK), A.guards = some [] → Room k A → Env0 P w K mg base A outer s H →
    BindsTo s fd args (ps.zip us) → Vals vs us → sp vs H Q E →
    codeAny (model P w) A (.call (.ref f) args) (CR CX outer P w H s Q E) s

section
variable {P : Program} {w : World} {K : PySem.W.Frag} {mg : Str → Option Value} {base : Heap}

theorem FnG.of {CX : CXT} {k : Nat} {f : Addr} {fd : FuncData} {ps : List Str} {sp : Sp}
    (F : FnOk P w K mg base CX k f fd ps sp) : FnG P w K mg base CX k f fd ps sp :=
  ⟨F.len, fun A outer s H args us vs Q E _ => F.run A outer s H args us vs Q E⟩

/-- the rule for a def, told that nothing is being shown around it -/
theorem okG {x qual : Str} {st : Stmt} {f : Addr} {fd : FuncData} {N ps : List Str} {k : Nat} {sp : Sp}
    (F : Fun K x qual st f fd) (S : FnScope N ps (defScope st))
    (len : ∀ vs H Q E, sp vs H Q E → vs.length = ps.length)
    (body : ∀ (cdv : Value) (A : Around) (outer : List Env) (s : Shared) (H : Hp) (vs : List V) (Q : VK) (E : XK),
      (A.deeper (envOfC qual (defScope st) s.heap.objs.size f cdv)).guards = some [] →
      Room k (A.deeper (envOfC qual (defScope st) s.heap.objs.size f cdv)) → sp vs H Q E →
      ∃ t, PSs (cxOf CX0 P w K mg base N qual (defScope st) f cdv A outer s H E).nox (defBody st) t ∧
        t { nx := fun _ H' => Q .non H', rt := Q } (start N vs) H) :
    FnG P w K mg base CX0 (k + 1) f fd ps sp := by
  obtain ⟨oc, od, kV, doc, pm, an, cdv, ct, osl, rfl, lk, hcd⟩ := F.ex
  refine ⟨len, ?_⟩
  intro A outer s H args us vs Q E hg hr e0 hb r hsp
  have hlen := len _ _ _ _ hsp
  have below : ∀ b o, base.get? b = some o → s.heap.get? b = some o := fun b o e => (e0.bs b o e).1
  have inK := e0.mod.kin.keeps below
  have nol := e0.mod.nolimit.keeps below
  have kinds : ∀ y ∈ ps.zip us, (defScope st).names.lookup y.1 = some .local ∨
      ((defScope st).names.lookup y.1 = some .cell ∧
        ((cellsFrom (s.heap.objs.size + 1) (defScope st).names []).lookup y.1).isSome = true) := by
    rintro ⟨n, v⟩ hy
    have hin := (List.of_mem_zip hy).1
    rcases S.par n hin with q | q
    · exact Or.inl q
    · exact Or.inr ⟨q, PySem.W.cellsFrom_some _ _ _ (Or.inl q)⟩
  refine codeAny_call_function hr.depth (inK _ _ lk) rfl S.co S.gen rfl
    (PySem.W.codeRec_of inK hcd) (hb _ _ _ _ ?_)
  refine wpAny_newFunctionEnv_cells S.kind kinds ?_
  intro env he s1 x
  subst he
  refine ⟨nol.keeps x.toInCall.keep, codeAny_func ?_⟩
  obtain ⟨t, ht, hq⟩ := body cdv A outer s H vs Q E hg (hr.deeper _) hsp
  have I := inv_start (CX := CX0) (P := P) (w := w) (K := K) (mg := mg) (base := base) (E := E) S hr.hd e0 hlen r x
  refine wpAny_mono (ht.nox.run [] s1 (start N vs) H _ I hq) ?_ (fun e s' hs => hs)
  intro fl s' hs
  cases fl with
  | ret u =>
    obtain ⟨v, σ', H', J, rv, q⟩ := hs
    exact ⟨v, H', J.os, J.bare, J.base, J.hok, rv, q⟩
  | next =>
    obtain ⟨σ', H', J, q⟩ := hs
    exact ⟨V.non, H', J.os, J.bare, J.base, J.hok, rfl, q⟩
  | brk => exact hs.elim fun _ z => z.elim fun _ z => z.2.elim
  | cont => exact hs.elim fun _ z => z.elim fun _ z => z.2.elim
end

section
variable {X : Cx} {CX : CXT} {k : Nat} {f : Addr} {fd : FuncData} {ps : List Str} {sp : Sp} {dvs : List V}
  {ds : List Value} {E : XK} {x : Str} {p pos : Pos} {e : Expr} {es : List Expr} {t : TA}

theorem runG {pins : List (Addr × Obj)} {σ : L2.St} {H : Hp} {s : Shared} {Q : VK} {us : List Value} {vs : List V}
    (F : FnG X.prog X.w X.K X.mg X.base CX k f fd ps sp) (hG : X.A.guards = some []) (hr : Room k X.A)
    (hb : Binds X.K fd ps ds) (hd : Vals dvs ds) (hx : Passes CX X E)
    (I : Inv X pins σ H s) (r : Vals vs us) (h : sp (vs ++ dvs) H Q E) :
    wpAny (model X.prog X.w) X.A (call (.ref f) us) (EP X pins σ Q) X.xe s := by
  have both : Vals (vs ++ dvs) (us ++ ds) := r.append hd
  have many : (us ++ ds).length = ps.length := both.length ▸ F.len _ _ _ _ h
  have run := F.go X.A X.stack s H ⟨us, []⟩ (us ++ ds) (vs ++ dvs) Q E hG hr I.env0 (hb s us I.kIn many) both h
  refine wpAny_call (codeAny_mono run ?_)
  intro r s' hq
  match r, hq with
  | .error e, hq => exact hx pins σ H s e s' I hq
  | .ok (.ret u), hq => exact I.after hq
  | .ok .next, hq => exact False.elim hq
  | .ok .brk, hq => exact False.elim hq
  | .ok .cont, hq => exact False.elim hq

theorem pe_callG (F : FnG X.prog X.w X.K X.mg X.base CX k f fd ps sp) (hG : X.A.guards = some []) (hr : Room k X.A)
    (hg : Gl X x) (hm : X.mg x = some (.ref f)) (hk : PySem.W.keepIn X.K (.ref f) = true)
    (hb : Binds X.K fd ps ds) (hd : Vals dvs ds) (hx : Passes CX X E) (ha : PA X (e :: es) t)
    (hdb : (x == ("__debug__" : Str)) = false := by decide)
    (he : starEach (e :: es) X.env = (false, eval e X.env) :: starEach es X.env := by rfl)
    (hpl : (backTo pos (starEach es X.env)).any (·.1) = false := by rfl) :
    PE X (.Call (.Name x p) (e :: es) [] pos) (tCall sp dvs E t) := by
  constructor
  intro pins s σ H Q I h
  have inner := thn (ha.run pos pins s σ H _ I h) (Q' := fun us s1 => X.K.In s1.heap ∧
    wpAny (model X.prog X.w) X.A (call (.ref f) us) (EP X pins σ Q) X.xe s1)
    fun us s1 ⟨vs, H1, I1, r, q⟩ => ⟨I1.kIn, runG F hG hr hb hd hx I1 r q⟩
  exact wpAny_Call_Name_kw (ld_glob I hg hm (PySem.W.callWith_K (h₀ := X.base) I.ok.mod.kin hk inner he hpl) hdb)

theorem pe_callG0 (F : FnG X.prog X.w X.K X.mg X.base CX k f fd ps sp) (hG : X.A.guards = some []) (hr : Room k X.A)
    (hg : Gl X x) (hm : X.mg x = some (.ref f)) (hk : PySem.W.keepIn X.K (.ref f) = true)
    (hb : Binds X.K fd ps ds) (hd : Vals dvs ds) (hx : Passes CX X E)
    (hdb : (x == ("__debug__" : Str)) = false := by decide) :
    PE X (.Call (.Name x p) [] [] pos) (tCall sp dvs E tNil) := by
  constructor
  intro pins s σ H Q I h
  have inner := runG (us := []) F hG hr hb hd hx I .nil h
  exact wpAny_Call_Name_kw (ld_glob I hg hm (PySem.W.callWith_K0 I.kIn hk inner) hdb)
end

/-! ### the law's call, guarded -/
theorem lawG {P : Program} {w : World} {K : PySem.W.Frag} {mg mb : Str → Option Value} {k : Nat} {fa a : Addr}
    {fd : FuncData} {x : Str} {sp : Sp} {s1 : Shared} {vs : List Value} {ns : List Int}
    (KX : K.In s1.heap) (hns : s1.heap.Ns mainGlobals mg) (hb : s1.heap.Ns builtinsNs mb)
    (hbb : ∀ x : Str, x ≠ "__name__" → mb x = bootBuiltins x) (hlim : s1.heap.NoLimit) (hg : s1.gens = #[])
    (ha : s1.heap.get? a = some { cls := .type "list", data := .seq vs.toArray }) (hi : IntsAre vs ns)
    (hl : ns.length ≤ sizeLine) (hr : Room k callerA)
    (F : ∀ base : Heap, K.In base → base.Ns mainGlobals mg → FnG P w K mg base CX0 k fa fd [x] sp)
    (hbind : ∀ (s : Shared) (u : Value), BindsTo s fd ⟨[u], []⟩ [(x, u)])
    (hsp : ∀ H : Hp, Only H → SqL K H a (ns.map V.int) → sp [.ref a] H (fun v _ => v = .bl true) fun _ _ _ => False) :
    codeAny (model P w) callerA (.call (.ref fa) ⟨[.ref a], []⟩)
      (fun r s' => r = .ok (.ret (.bool true)) ∧ OldK s1.heap s'.heap ∧ s'.os = s1.os ∧ AllBare s'.gens) s1 := by
  have lenV := hi.length
  have core : ∀ H : Hp, Only H → SqL K H a (ns.map V.int) → HOk P w H s1.heap →
      (∀ b, H b ≠ none → b = a ∧ K.lookup a = none) →
      codeAny (model P w) callerA (.call (.ref fa) ⟨[.ref a], []⟩)
        (fun r s' => r = .ok (.ret (.bool true)) ∧ OldK s1.heap s'.heap ∧ s'.os = s1.os ∧ AllBare s'.gens) s1 := by
    intro H hO hS hok hA
    have free : ∀ {b : Addr} {o : Obj} {es : Array DictEntry} {ep : Nat},
        s1.heap.get? b = some o → o.data = .dict es ep → H b = none := by
      intro b o es ep e d
      by_cases q : H b = none
      · exact q
      · obtain ⟨rfl, _⟩ := hA b q
        rw [ha] at e
        cases e
        cases d
    have nsB : ∀ {b : Addr} {m : Str → Option Value}, s1.heap.Ns b m → (hidT s1.heap H).Ns b m := by
      rintro b m ⟨o, es, ep, e, d, r⟩
      exact ⟨o, es, ep, hidT_get e (free e d), d, r⟩
    have inB : K.In (hidT s1.heap H) := by
      intro b o e
      refine hidT_get (KX b o e) ?_
      by_cases q : H b = none
      · exact q
      · obtain ⟨rfl, z⟩ := hA b q
        rw [z] at e
        cases e
    obtain ⟨mc, l1, l2⟩ := hlim
    have hM : Mod K mg (hidT s1.heap H) := ⟨inB, nsB hns, ⟨mb, nsB hb, hbb⟩, ⟨mc, nsB l1, l2⟩⟩
    have e0 : Env0 P w K mg (hidT s1.heap H) callerA [] s1 H :=
      ⟨rfl, hM, fun b o e => of_hidT e, Nat.le_of_eq (hidT_size _ _), trivial,
        fun b z => absurd (show b ∈ ([] : List Addr) from z) (by simp), hok, .of_eq hg⟩
    have run := (F _ inB (nsB hns)).go callerA [] s1 H ⟨[.ref a], []⟩ [.ref a] [.ref a] _ _ rfl hr e0
      (hbind s1 (.ref a)) (.cons rfl .nil) (hsp H hO hS)
    refine codeAny_mono run ?_
    intro r s' h
    match r, h with
    | .error e, h => exact False.elim h
    | .ok .next, h => exact False.elim h
    | .ok .brk, h => exact False.elim h
    | .ok .cont, h => exact False.elim h
    | .ok (.ret u), h =>
      obtain ⟨v, H', os, bare, un, hok', r', q⟩ := h
      have q' : v = .bl true := q
      subst q'
      obtain rfl : u = Value.bool true := r'
      refine ⟨rfl, OldK.of_keep ?_, os, bare⟩
      intro b o e
      rcases hO b with z | ⟨ob, xs, z⟩
      · exact un.keep b o e z (fun y => absurd (show b ∈ ([] : List Addr) from y) (by simp)) (by simp)
      · have g1 := (hok b _ z).1
        have g2 := (hok' b _ (un.frzs b ob _ z)).1
        rw [e] at g1
        cases g1
        exact g2
  have rv := vals_ints hi
  by_cases hk : K.lookup a = none
  · refine core (fun b => if b = a then some (.frz { cls := .type "list", data := .seq vs.toArray }
        (.lst (ns.map V.int))) else none) ?_ (.inl (.inr ⟨_, if_pos rfl⟩)) ?_ ?_
    · intro b
      by_cases hb : b = a
      · exact Or.inr ⟨_, _, if_pos hb⟩
      · exact Or.inl (if_neg hb)
    · intro b u z
      by_cases hb : b = a
      · have z' := (if_pos hb).symm.trans z
        cases z'
        subst hb
        exact ⟨ha, (List.length_map (as := ns) V.int).symm ▸ hl, vs, _, rv, ha⟩
      · have z' := (if_neg hb).symm.trans z
        cases z'
    · intro b z
      by_cases hb : b = a
      · exact ⟨hb, hk⟩
      · exact absurd (if_neg hb) z
  · obtain ⟨o, ho⟩ := Option.ne_none_iff_exists'.mp hk
    have e := KX a o ho
    rw [ha] at e
    cases e
    have sz : vs.toArray.size ≤ sizeLine := by
      rw [List.size_toArray, lenV]
      exact hl
    exact core (fun _ => none) (fun _ => Or.inl rfl)
      (Or.inr ⟨_, vs.toArray, _, ho, rfl, rfl, rfl, sz, by simpa using rv⟩)
      (fun b u z => nomatch (show (none : Option HO) = some u from z)) (fun b z => absurd rfl z)

theorem walkG {l : PySem.W.OpenLaw} {n k : Nat} {q : Program} {loose : List Str}
    {XP : (Str → Option Value) → Heap → Prop} {YP : World → Heap → Prop} {d : DefRec} {K : Params → PySem.W.Frag}
    {sp : PySem.W.Frag → Sp} {x : Str}
    (hn : l.most = some n) (hn2 : n ≤ sizeLine) (hdf : d.params.defaults = []) (hr : Room k callerA)
    (hY : ∀ (w : World) (h : Heap), YP w h → (K w.params).In h)
    (F : ∀ (w : World) (mg : Str → Option Value) (fa : Addr) (h : Heap), (K w.params).In h → h.Ns mainGlobals mg →
      mg d.name = some (.ref fa) → ∃ fd : FuncData, (∀ (s : Shared) (u : Value), BindsTo s fd ⟨[u], []⟩ [(x, u)]) ∧
        ∀ base : Heap, (K w.params).In base → base.Ns mainGlobals mg →
          FnG l.prog w (K w.params) mg base CX0 k fa fd [x] (sp (K w.params)))
    (hsp : ∀ (K : PySem.W.Frag) (H : Hp) (a : Addr) (ns : List Int), ns.length ≤ n → Only H →
      SqL K H a (ns.map V.int) → sp K [.ref a] H (fun v _ => v = .bl true) fun _ _ _ => False) :
    PySem.W.WalkO q loose XP YP l.row.toRowW d [] (fun f vs => PySem.call f vs) := by
  refine Att.attach_call hn hdf ?_
  intro w s0 s1 mg mb fa o pm cd doc a vs ns G Y ho hd hcd hmg hobj hints hlen hg
  have KX := hY w _ Y
  obtain ⟨fd, hb, hF⟩ := F w mg fa _ KX G.T.g hmg
  exact lawG KX G.T.g G.T.b G.T.builtins G.T.nolimit hg hobj hints (Nat.le_trans hlen hn2) hr hF hb
    (fun H hO hS => hsp (K w.params) H a ns hlen hO hS)

/-! ### numbers -/
section
variable {X : Cx}
theorem pe_globV {x : Str} {v : V} {pos : Pos} (hg : Gl X x) (hm : ∃ u, X.mg x = some u ∧ RelV v u)
    (hd : (x == ("__debug__" : Str)) = false := by decide) : PE X (.Name x pos) (tC v) := by
  obtain ⟨u, h, r⟩ := hm
  exact pe_glob hg h r hd
def CMulA (i j : Int) : Prop := CMul i j ∨ CMulW i j
theorem cmulL {i j : Int} (h1 : -(2 ^ 64) < i) (h2 : i < 2 ^ 64) : CMulA i j := Or.inl (Or.inl ⟨h1, h2⟩)
theorem cmulR {i j : Int} (h1 : -(2 ^ 64) < j) (h2 : j < 2 ^ 64) : CMulA i j := Or.inl (Or.inr ⟨h1, h2⟩)
theorem op_mulA : OpR X (binaryOp .Mult) (rI CMulA fun i j => .int (i * j)) :=
  opI fun _ _ _ _ _ _ _ hc q => mul_int q (hc.elim CMul.ok CMulW.ok)
def B9 : Int := 2 ^ 8000
theorem small_B9 {j : Int} (h : j ≤ 10 ^ 60) : j < B9 := Int.lt_of_le_of_lt h (by unfold B9; decide +kernel)
def CDivA (_ j : Int) : Prop := 0 < j ∧ j < B9
theorem cdiv {i j : Int} (h : 0 < j) (h2 : j ≤ 10 ^ 60) : CDivA i j := ⟨h, small_B9 h2⟩
theorem log_B9 {j : Int} (h1 : 0 < j) (h2 : j < B9) : j.natAbs.log2 < 9000 := by
  have h3 : j.natAbs < 2 ^ 8000 := by
    have e : ((j.natAbs : Nat) : Int) < ((2 ^ 8000 : Nat) : Int) := by
      rw [Int.natAbs_of_nonneg (Int.le_of_lt h1)]
      exact h2
    exact Int.ofNat_lt.mp e
  exact Nat.lt_of_lt_of_le (PySem.Flt.log2_lt_of (by decide) h3) (by decide)
theorem op_fdivA : OpR X (binaryOp .FloorDiv) (rI CDivA fun i j => .int (i / j)) :=
  opI fun i j _ _ _ _ _ hc q => by
    have h1 : (0 : Int) < j := hc.1
    have e := Int.fdiv_eq_ediv_of_nonneg i (Int.le_of_lt h1)
    refine floordiv_int (by omega) ?_ (.inl (PyProof.noPylong_of_log2 (log_B9 h1 hc.2)))
    rw [e]
    exact q
def CPowA (i j : Int) : Prop := 0 ≤ j ∧ (Builtin.Int.intBits i : Int) * j ≤ 2 ^ 27
theorem op_powA : OpR X (binaryOp .Pow) (rI CPowA fun i j => .int (i ^ j.toNat)) :=
  opI fun _ _ _ _ _ _ _ hc q => pow_int hc.1 hc.2 q
end

/-! ### built-ins by names of their own -/
def rLen (K : PySem.W.Frag) : List V → Hp → VK → Prop := fun xs H Q => ∃ x n, xs = [x] ∧ LenV K x H n ∧ Q (.int (n : Nat)) H
theorem call_lenA {X : Cx} : CallR X (.builtin "len") (rLen X.K) := call_len
/-! ### repr of data -/
def rReprD (K : PySem.W.Frag) : List V → Hp → VK → Prop := fun xs H Q => ∃ x d, xs = [x] ∧ Dp K H x d ∧
  d.showable = true ∧ d.hasDict = false ∧ d.depth ≤ 30 ∧ d.shown.length ≤ sizeLine ∧ Q (.str d.shown) H
theorem call_reprD {X : Cx} {k : Nat} (hr : Room k X.A) (hG : X.A.guards = some []) :
    CallR X (.builtin "repr") (rReprD X.K) := by
  intro pins s σ H xs us Q I r h
  obtain ⟨x, d, rfl, hd, hs, hnd, hdep, hsz, q⟩ := h
  obtain ⟨u, rfl, r1⟩ := vals1 r
  obtain ⟨as, rd⟩ := Dp.reads I d x u hd r1
  cases hd with
  | non => cases r1; exact P.repr_of_none ⟨.str _, H, I.tok _, ⟨_, rfl⟩, q⟩
  | bl b => cases r1; exact P.repr_of_bool ⟨.str _, H, I.tok _, ⟨_, rfl⟩, q⟩
  | int i =>
    obtain ⟨t, rfl⟩ := r1
    exact P.repr_of_int (of_decide_eq_true hs) ⟨.str _, H, I.tok _, ⟨_, rfl⟩, q⟩
  | str z =>
    obtain ⟨t, rfl⟩ := r1
    exact P.repr_of_str ⟨.str _, H, I.tok _, ⟨_, rfl⟩, q⟩ hsz
  | lst h1 h2 =>
    cases r1
    exact repr_of_reads' rd hs (PyData.noDict_hsm hnd) hG (by have := hr.units; omega) (fun _ _ e => e)
      (fun h' u tk hk => ⟨.str _, H, I.kept hk, ⟨_, rfl⟩, q⟩) hsz
  | tup h1 h2 =>
    cases r1
    exact repr_of_reads' rd hs (PyData.noDict_hsm hnd) hG (by have := hr.units; omega) (fun _ _ e => e)
      (fun h' u tk hk => ⟨.str _, H, I.kept hk, ⟨_, rfl⟩, q⟩) hsz
end Gl

set_option Elab.async false
set_option maxRecDepth 100000
set_option maxHeartbeats 4000000
set_option linter.all false
/-! the stepper's lemmas: one a reading -/
namespace Gl
open PySem PySem.Spec L2
section
variable {σ : L2.St} {H H' : Hp} {Q : VK} {QT : Bool → Hp → Prop} {QA : List V → Hp → Prop} {v x y z : V} {te ta tb tc : TE} {tt tu : TT} {aa ar : TA}
  {t u : TS} {g : TG} {gs : TGs} {nx : L2.St → Hp → Prop} {rt : VK} {bk ct : L2.St → Hp → Prop} {i j : Nat} {r r' : R2} {K : PySem.W.Frag} {a d : Addr} {xs : List V} {b : Bool} {m n : Int}
theorem at_0 {x : V} {xs : List V} : atI (x :: xs) 0 = some x := atI_nat (j := 0) rfl
theorem at_1 {x y : V} {xs : List V} : atI (x :: y :: xs) 1 = some y := atI_nat (j := 1) rfl
theorem at_2 {x y z : V} {xs : List V} : atI (x :: y :: z :: xs) 2 = some z := atI_nat (j := 2) rfl
theorem at_3 {x y z w : V} {xs : List V} : atI (x :: y :: z :: w :: xs) 3 = some w := atI_nat (j := 3) rfl
theorem ix_0 {n : Nat} : ixN (n + 1) 0 = some 0 := by unfold ixN; rw [if_pos (by omega), if_pos (by omega)]; rfl
theorem ix_1 {n : Nat} : ixN (n + 2) 1 = some 1 := by unfold ixN; rw [if_pos (by omega), if_pos (by omega)]; rfl
theorem ix_2 {n : Nat} : ixN (n + 3) 2 = some 2 := by unfold ixN; rw [if_pos (by omega), if_pos (by omega)]; rfl
/-- statements -/
theorem r_seq (h : t ⟨u ⟨nx, rt, bk, ct⟩, rt, bk, ct⟩ σ H) : tSeq t u ⟨nx, rt, bk, ct⟩ σ H := h
theorem r_next (h : nx σ H) : tNext ⟨nx, rt, bk, ct⟩ σ H := h
theorem r_brk (h : bk σ H) : tBreak ⟨nx, rt, bk, ct⟩ σ H := h
theorem r_cont (h : ct σ H) : tCont ⟨nx, rt, bk, ct⟩ σ H := h
theorem r_asg (h : te σ H fun x H1 => g x σ H1 nx) : tAsg te g ⟨nx, rt, bk, ct⟩ σ H := h
theorem r_ret (h : te σ H rt) : tRet te ⟨nx, rt, bk, ct⟩ σ H := h
theorem r_retN (h : rt .non H) : tRetN ⟨nx, rt, bk, ct⟩ σ H := h
theorem r_drop (h : te σ H fun _ H1 => nx σ H1) : tDrop te ⟨nx, rt, bk, ct⟩ σ H := h
theorem r_if (h : tt σ H fun b H1 => if b = true then t ⟨nx, rt, bk, ct⟩ σ H1 else u ⟨nx, rt, bk, ct⟩ σ H1) : tIfS tt t u ⟨nx, rt, bk, ct⟩ σ H := h
theorem r_par (h : aa σ H fun vs H1 => ∃ v w, vs = [v, w] ∧ nx ((σ.set i (some v)).set j (some w)) H1) : tPar i j aa ⟨nx, rt, bk, ct⟩ σ H := h
/-- targets -/
theorem r_gname {k : L2.St → Hp → Prop} (h : k (σ.set i (some v)) H) : gName i v σ H k := h
theorem r_gnil {k : L2.St → Hp → Prop} (h : k σ H) : gNil [] σ H k := ⟨rfl, h⟩
theorem r_gcons {k : L2.St → Hp → Prop} (h : g v σ H fun σ' H' => gs xs σ' H' k) : gCons g gs (v :: xs) σ H k := ⟨v, xs, rfl, h⟩
theorem r_gtup {k : L2.St → Hp → Prop} (hs : SqT K H a xs) (hl : xs.length = i) (h : gs xs σ H k) : gTup K i gs (.ref a) σ H k := ⟨a, xs, rfl, hs, hl, h⟩
theorem r_gsub {k : L2.St → Hp → Prop} {ts : TSet} (h : ta σ H fun o H1 => tb σ H1 fun i H2 => ts o i v H2 fun H3 => k σ H3) : gSub ta tb ts v σ H k := h
theorem r_setL {k : Hp → Prop} (hp : H a = some (.lst xs)) (hj : ixN xs.length m = some j) (h : k (upd H a (.lst (xs.set j v)))) : rSetL (.ref a) (.int m) v H k :=
  ⟨a, xs, m, j, rfl, rfl, hp, hj, h⟩
/-- expressions -/
theorem r_var (e : σ[i]? = some (some v)) (h : Q v H) : tVar i σ H Q := ⟨v, e, h⟩
theorem r_c (h : Q v H) : tC v σ H Q := h
theorem r_op (h : ta σ H fun x H1 => tb σ H1 fun y H2 => r x y H2 Q) : tOp r ta tb σ H Q := h
theorem r_un {ru : V → Hp → VK → Prop} (h : ta σ H fun x H1 => ru x H1 Q) : tUn ru ta σ H Q := h
theorem r_i0 {f : Int → Int → V} (h : Q (f m n) H) : rI0 f (.int m) (.int n) H Q := ⟨m, n, rfl, rfl, h⟩
theorem r_i {f : Int → Int → V} {C : Int → Int → Prop} (hc : C m n) (h : Q (f m n) H) : rI C f (.int m) (.int n) H Q := ⟨m, n, rfl, rfl, hc, h⟩
theorem r_u {f : Int → V} (h : Q (f m) H) : rU f (.int m) H Q := ⟨m, rfl, h⟩
theorem r_eq (hs : scal x y = true) (h : Q (.bl (decide (x = y))) H) : rEq x y H Q := ⟨hs, h⟩
theorem r_ne (hs : scal x y = true) (h : Q (.bl (!decide (x = y))) H) : rNe x y H Q := ⟨hs, h⟩
theorem r_ixL (hs : SqL K H a xs) (hi : atI xs m = some v) (h : Q v H) : rIxL K (.ref a) (.int m) H Q := ⟨a, xs, m, v, rfl, rfl, hs, hi, h⟩
theorem r_ixT (hs : SqT K H a xs) (hi : atI xs m = some v) (h : Q v H) : rIxT K (.ref a) (.int m) H Q := ⟨a, xs, m, v, rfl, rfl, hs, hi, h⟩
theorem r_chain (h : ta σ H fun x H1 => tb σ H1 fun y H2 => r x y H2 fun z H3 => ∃ k, z = .bl k ∧ (if k = true then tc σ H3 fun w' H4 => r' y w' H4 Q else Q (.bl false) H3)) :
    tChain r r' ta tb tc σ H Q := h
theorem r_andV (h : ta σ H fun x H1 => ∃ c, x = .bl c ∧ if c = true then tb σ H1 Q else Q (.bl false) H1) : tAndV ta tb σ H Q := h
theorem r_orV (h : ta σ H fun x H1 => ∃ c, x = .bl c ∧ if c = true then Q (.bl true) H1 else tb σ H1 Q) : tOrV ta tb σ H Q := h
theorem r_notV (h : ta σ H fun x H1 => ∃ c, x = .bl c ∧ Q (.bl (!c)) H1) : tNotV ta σ H Q := h
theorem r_ifE (h : tt σ H fun c H1 => if c = true then ta σ H1 Q else tb σ H1 Q) : tIf tt ta tb σ H Q := h
abbrev newT (xs : List V) (H : Hp) (Q : VK) : Prop := xs.length ≤ sizeLine ∧ ∀ p, H p = none → Q (.ref p) (upd H p (.tup xs))
abbrev newL (xs : List V) (H : Hp) (Q : VK) : Prop := xs.length ≤ sizeLine ∧ ∀ p, H p = none → Q (.ref p) (upd H p (.lst xs))
theorem r_tup (h : aa σ H fun xs H1 => newT xs H1 Q) : tTup aa σ H Q := h
theorem r_lst (h : aa σ H fun xs H1 => newL xs H1 Q) : tLst aa σ H Q := h
theorem newS {p : Addr} {o : HO} (h : H p = none) : Same H (upd H p o) := fun c o' e => (upd_ne (ne_of_none e h)).trans e
/-- a new object: all that was stands, and it stands -/
theorem r_newT (hl : xs.length ≤ sizeLine) (h : ∀ p H', H p = none → Same H H' → H' p = some (.tup xs) → Q (.ref p) H') : newT xs H Q := ⟨hl, fun p hp => h p _ hp (newS hp) upd_same⟩
theorem r_newL (hl : xs.length ≤ sizeLine) (h : ∀ p H', H p = none → Same H H' → H' p = some (.lst xs) → Q (.ref p) H') : newL xs H Q := ⟨hl, fun p hp => h p _ hp (newS hp) upd_same⟩
theorem r_disp1 {k : Key} (hk : kV k = x) (h : ∀ p H', H p = none → Same H H' → H' p = some (.dK (mergeK [] [(k, v)])) → Q (.ref p) H') : tDisp [(tC x, tC v)] σ H Q :=
  fun p hp => ⟨upd_same, [(k, v)], by rw [← hk]; rfl, (by show 1 ≤ 15; decide), by rw [upd_upd]; exact h p _ hp (newS hp) upd_same⟩
theorem r_dnew (h : ∀ p H', H p = none → Same H H' → H' p = some (.dK []) → Q (.ref p) H') : tDNewK σ H Q := fun p hp => h p _ hp (newS hp) upd_same
theorem pairs_c : ∀ (kvs : List (Key × V)) {R : List (V × V) → Hp → Prop}, R (kvs.map fun kv => (kV kv.1, kv.2)) H → tPairs (kvs.map fun kv => (tC (kV kv.1), tC kv.2)) σ H R
  | [], _, h => h
  | kv :: r, R, h => pairs_c r (R := fun xs H' => R ((kV kv.1, kv.2) :: xs) H') h
theorem r_dispC {trs : List (TE × TE)} (kvs : List (Key × V)) (e : trs = kvs.map fun kv => (tC (kV kv.1), tC kv.2)) (hl : kvs.length ≤ 15)
    (h : ∀ p H', H p = none → Same H H' → H' p = some (.dK (mergeK [] kvs)) → Q (.ref p) H') : tDisp trs σ H Q := by
  subst e
  intro p hp
  refine pairs_c kvs ⟨upd_same, kvs, rfl, hl, ?_⟩
  rw [upd_upd]
  exact h p _ hp (newS hp) upd_same
theorem r_isB {b c : Bool} (h : Q (.bl (decide (b = c))) H) : rIsB (.bl b) (.bl c) H Q := ⟨b, c, rfl, rfl, h⟩
theorem r_notB {b c : Bool} (h : Q (.bl (!decide (b = c))) H) : rNotB (.bl b) (.bl c) H Q := ⟨b, c, rfl, rfl, h⟩
/-- values without the rest -/
theorem v_and {c b : Bool} (ha : Val ta σ H (.bl c)) (hb : c = true → Val tb σ H (.bl b)) (h : Q (.bl (c && b)) H) : tAndV ta tb σ H Q := by
  refine ha _ ⟨c, rfl, ?_⟩
  cases c with
  | true => exact iteT (hb rfl _ h)
  | false => exact iteF h
theorem v_or {c b : Bool} (ha : Val ta σ H (.bl c)) (hb : c = false → Val tb σ H (.bl b)) (h : Q (.bl (c || b)) H) : tOrV ta tb σ H Q := by
  refine ha _ ⟨c, rfl, ?_⟩
  cases c with
  | true => exact iteT h
  | false => exact iteF (hb rfl _ h)
theorem t_or {c b : Bool} (ha : Ans tt σ H c) (hb : c = false → Ans tu σ H b) (h : QT (c || b) H) : tOr tt tu σ H QT := by
  refine ha _ ?_
  cases c with
  | true => exact iteT h
  | false => exact iteF (hb rfl _ h)
theorem t_and {c b : Bool} (ha : Ans tt σ H c) (hb : c = true → Ans tu σ H b) (h : QT (c && b) H) : tAnd tt tu σ H QT := by
  refine ha _ ?_
  cases c with
  | true => exact iteT (hb rfl _ h)
  | false => exact iteF h
theorem v_if {c : Bool} (ht : Ans tt σ H c) (ha : c = true → Val ta σ H v) (hb : c = false → Val tb σ H v) (h : Q v H) : tIf tt ta tb σ H Q := by
  refine ht _ ?_
  cases c with
  | true => exact iteT (ha rfl _ h)
  | false => exact iteF (hb rfl _ h)
/-- == and != of data -/
theorem r_eqDT {e : PyData} (h1 : Dp K H x e) (h2 : Dp K H y e) (hs : SeqAt.shaped e = true) (h : Q (.bl true) H) : rEqD K x y H Q := by
  have hc : e.canLay0 = true := by
    unfold SeqAt.shaped at hs
    rw [Bool.and_eq_true] at hs
    exact hs.1
  refine ⟨e, e, h1, h2, hs, hs, ?_⟩
  rw [SeqAt.eqv_refl e hc]
  exact h
theorem r_neDF {e : PyData} (h1 : Dp K H x e) (h2 : Dp K H y e) (hs : SeqAt.shaped e = true) (h : Q (.bl false) H) : rNeD K x y H Q := by
  have hc : e.canLay0 = true := by
    unfold SeqAt.shaped at hs
    rw [Bool.and_eq_true] at hs
    exact hs.1
  refine ⟨e, e, h1, h2, hs, hs, ?_⟩
  rw [SeqAt.eqv_refl e hc]
  exact h
/-- repr of data -/
theorem r_repr (e : PyData) (hd : Dp K H x e) (hs : e.showable = true) (hn : e.hasDict = false) (hp : e.depth ≤ 30) (hl : e.shown.length ≤ sizeLine) (h : Q (.str e.shown) H) : rReprD K [x] H Q :=
  ⟨x, e, rfl, hd, hs, hn, hp, hl, h⟩
theorem r_cb {rc : List V → Hp → VK → Prop} (h : aa σ H fun vs H1 => rc vs H1 Q) : tCB rc aa σ H Q := h
theorem r_call {sp : Sp} {dvs : List V} {E : XK} (h : aa σ H fun vs H1 => sp (vs ++ dvs) H1 Q E) : tCall sp dvs E aa σ H Q := h
theorem r_bm {T : String} {rm : V → List V → Hp → VK → Prop} (h : te σ H fun x H1 => tyV K T x H1 ∧ aa σ H1 fun xs H2 => rm x xs H2 Q) : tBM K T rm te aa σ H Q := h
theorem r_bm0 {T : String} {rm : V → List V → Hp → VK → Prop} (h : te σ H fun x H1 => tyV K T x H1 ∧ rm x [] H1 Q) : tBM0 K T rm te σ H Q := h
theorem r_nil (h : QA [] H) : tNil σ H QA := h
theorem r_cons (h : te σ H fun x H1 => aa σ H1 fun xs H2 => QA (x :: xs) H2) : tCons te aa σ H QA := h
/-- tests -/
theorem r_test (h : te σ H fun x H' => ∃ k, x = .bl k ∧ QT k H') : tTest te σ H QT := h
theorem r_B (h : te σ H fun x H' => ∃ k, x = .bl k ∧ QT k H') : tB te σ H QT := h
theorem r_and (h : tt σ H fun c H1 => if c = true then tu σ H1 QT else QT false H1) : tAnd tt tu σ H QT := h
theorem r_or (h : tt σ H fun c H1 => if c = true then QT true H1 else tu σ H1 QT) : tOr tt tu σ H QT := h
theorem r_not (h : tt σ H fun c H1 => QT (!c) H1) : tNot tt σ H QT := h
/-- len -/
theorem r_lenL (hs : SqL K H a xs) (h : Q (.int xs.length) H) : rLen K [V.ref a] H Q := ⟨_, _, rfl, .inl ⟨xs, hs, rfl⟩, h⟩
theorem r_lenT (hs : SqT K H a xs) (h : Q (.int xs.length) H) : rLen K [V.ref a] H Q := ⟨_, _, rfl, .inr ⟨xs, hs, rfl⟩, h⟩
theorem r_lenS {s : Str} (hs : s.length ≤ sizeLine) (h : Q (.int s.length) H) : rLen K [V.str s] H Q := ⟨_, _, rfl, ⟨hs, rfl⟩, h⟩
theorem r_yes (h : QT true H) : tYes σ H QT := h
theorem r_wipe {vs : List Nat} {p : Prop} {σ' : L2.St} (e : wipe σ' vs = wipe σ vs) (h : p) : wipe σ' vs = wipe σ vs ∧ p := ⟨e, h⟩
/-- answers -/
theorem e_i {p : Int → Prop} (h : p m) : ∃ j, [V.int m] = [.int j] ∧ p j := ⟨m, rfl, h⟩
theorem e_b {p : Bool → Prop} (h : p b) : ∃ j, [V.bl b] = [.bl j] ∧ p j := ⟨b, rfl, h⟩
theorem e_s {p : Str → Prop} {s : Str} (h : p s) : ∃ j, [V.str s] = [.str j] ∧ p j := ⟨s, rfl, h⟩
theorem e_ii {p : Int → Int → Prop} (h : p m n) : ∃ i j, [V.int m, V.int n] = [.int i, .int j] ∧ p i j := ⟨m, n, rfl, h⟩
theorem e_vv {p : V → V → Prop} (h : p x y) : ∃ i j, [x, y] = [i, j] ∧ p i j := ⟨x, y, rfl, h⟩
theorem e_vvv {p : V → V → V → Prop} (h : p x y z) : ∃ i j l, [x, y, z] = [i, j, l] ∧ p i j l := ⟨x, y, z, rfl, h⟩
theorem e_ss {p : Str → Str → Prop} {s s' : Str} (h : p s s') : ∃ i j, V.str s = .str i ∧ V.str s' = .str j ∧ p i j := ⟨s, s', rfl, rfl, h⟩
theorem e_cs {p : Nat → Str → Prop} {c : Nat} {s' : Str} (h : p c s') : ∃ c' j, V.str ⟨#[c]⟩ = .str ⟨#[c']⟩ ∧ V.str s' = .str j ∧ p c' j := ⟨c, s', rfl, rfl, h⟩
theorem e_or1 {p q : Prop} (h : p) : p ∨ q := Or.inl h
theorem e_oi {p : Int → Prop} {q : Prop} (h : p m) : (∃ j, [V.int m] = [.int j] ∧ p j) ∨ q := Or.inl ⟨m, rfl, h⟩
theorem e_ob {p : Bool → Prop} {q : Prop} (h : p b) : q ∨ ∃ j, [V.bl b] = [.bl j] ∧ p j := Or.inr ⟨b, rfl, h⟩
theorem r_bl {p : Bool → Prop} (h : p b) : ∃ k, V.bl b = .bl k ∧ p k := ⟨b, rfl, h⟩
end
/-! ### kinds of values -/
inductive Knd (K : PySem.W.Frag) (H : Hp) : V → String → Prop
  | non : Knd K H .non "NoneType"
  | bl (b : Bool) : Knd K H (.bl b) "bool"
  | int (i : Int) : Knd K H (.int i) "int"
  | str (x : Str) : Knd K H (.str x) "str"
  | lst {a : Addr} {xs : List V} (e : SqL K H a xs) : Knd K H (.ref a) "list"
  | tup {a : Addr} {xs : List V} (e : SqT K H a xs) : Knd K H (.ref a) "tuple"
  | dK {a : Addr} {kvs : List (Key × V)} (e : H a = some (.dK kvs)) : Knd K H (.ref a) "dict"
theorem Knd.ty {K : PySem.W.Frag} {H : Hp} {v : V} {n : String} (h : Knd K H v n) : TyX K H v (.type n) := by
  cases h with
  | non => exact .base .non
  | bl b => exact .base (.bl b)
  | int i => exact .base (.int i)
  | str x => exact .base (.str x)
  | lst e =>
    rcases e with (e | ⟨o, e⟩) | ⟨o, its, n, e, c, _⟩
    · exact .base (.lst e)
    · exact .base (.frz e)
    · exact .kList e c
  | tup e =>
    rcases e with (e | ⟨o, e⟩) | ⟨o, its, n, e, c, _⟩
    · exact .base (.tup e)
    · exact .fTuple e
    · exact .kTuple e c
  | dK e => exact .base (.dK e)
theorem rdS {H H' : Hp} {a : Addr} {u : HO} (s : Same H H') (h : Rd H a u) : Rd H' a u := by
  rcases h with h | ⟨o, h⟩
  · exact Or.inl (s _ _ h)
  · exact Or.inr ⟨o, s _ _ h⟩
theorem sqTS {K : PySem.W.Frag} {H H' : Hp} {a : Addr} {xs : List V} (s : Same H H') (h : SqT K H a xs) : SqT K H' a xs := h.elim (fun h => Or.inl (rdS s h)) Or.inr
theorem sqLS {K : PySem.W.Frag} {H H' : Hp} {a : Addr} {xs : List V} (s : Same H H') (h : SqL K H a xs) : SqL K H' a xs := h.elim (fun h => Or.inl (rdS s h)) Or.inr
theorem Knd.same {K : PySem.W.Frag} {H H' : Hp} {v : V} {n : String} (s : Same H H') (h : Knd K H v n) : Knd K H' v n := by
  cases h with
  | non => exact .non
  | bl b => exact .bl b
  | int i => exact .int i
  | str x => exact .str x
  | lst e => exact .lst (sqLS s e)
  | tup e => exact .tup (sqTS s e)
  | dK e => exact .dK (s _ _ e)
def kinds : List String := ["NoneType", "bool", "int", "str", "list", "tuple", "dict"]
def asked : List String := ["bool", "int", "str", "list", "tuple", "dict"]
def isKind (n c : String) : Bool := n == c || (n == "bool" && c == "int")
theorem kit_all : ∀ n ∈ kinds, ∀ c ∈ asked, kitB n c = some (isKind n c) := by decide +kernel
theorem Knd.mem {K : PySem.W.Frag} {H : Hp} {v : V} {n : String} (h : Knd K H v n) : n ∈ kinds := by cases h <;> decide
theorem r_isiB {K : PySem.W.Frag} {H : Hp} {v : V} {n c : String} {Q : VK} {b : Bool} (hk : Knd K H v n) (hc : c ∈ asked) (hb : isKind n c = b) (h : Q (.bl b) H) : rIsi K [v, .ty c] H Q :=
  ⟨v, .ty c, .type n, .type c, b, rfl, .ty c, hk.ty, kit_ty (hb ▸ kit_all n hk.mem c hc), h⟩
theorem r_isiT {K : PySem.W.Frag} {H : Hp} {v : V} {n c : String} {Q : VK} (hk : Knd K H v n) (hc : c ∈ asked) (hb : isKind n c = true) (h : Q (.bl true) H) : rIsi K [v, .ty c] H Q := r_isiB hk hc hb h
theorem r_isiF {K : PySem.W.Frag} {H : Hp} {v : V} {n c : String} {Q : VK} (hk : Knd K H v n) (hc : c ∈ asked) (hb : isKind n c = false) (h : Q (.bl false) H) : rIsi K [v, .ty c] H Q := r_isiB hk hc hb h
def partK (x : V) (H : Hp) (Q : Option Int → Hp → Prop) : Prop := ∃ i, x = .int i ∧ Q (some i) H
/-- methods of lists -/
theorem r_tyL {K : PySem.W.Frag} {H : Hp} {a : Addr} {xs : List V} {p : Prop} (hs : SqL K H a xs) (h : p) : tyV K "list" (.ref a) H ∧ p := ⟨.inl ⟨rfl, xs, hs⟩, h⟩
theorem r_app {H : Hp} {a : Addr} {xs : List V} {v : V} {Q : VK} (hl : H a = some (.lst xs)) (hz : xs.length < sizeLine) (h : Q .non (upd H a (.lst (xs ++ [v])))) : rAppend (.ref a) [v] H Q := ⟨a, xs, v, rfl, rfl, hl, hz, h⟩
theorem r_popAt {H : Hp} {a : Addr} {xs : List V} {i : Int} {Q : VK} (hl : H a = some (.lst xs)) (h0 : 0 ≤ i) (hi : i < xs.length) (hm : xs.length ≤ 1000000) (h : ∀ y k, xs[k]? = some y → Q y (upd H a (.lst (xs.eraseIdx k)))) : rPopAt (.ref a) [.int i] H Q := by
  have hk : i.toNat < xs.length := by omega
  refine ⟨a, xs, i, i.toNat, xs[i.toNat], rfl, rfl, hl, by omega, by omega, ?_, by simp [hk], h _ _ (by simp [hk])⟩
  show (if (decide (0 ≤ (if i < 0 then i + (xs.length : Int) else i)) && decide ((if i < 0 then i + (xs.length : Int) else i) < (xs.length : Int))) = true then some (if i < 0 then i + (xs.length : Int) else i).toNat else none) = _
  rw [if_neg (by omega : ¬ i < 0), decide_eq_true h0, decide_eq_true hi]
  rfl
theorem r_start {N : List Str} {vs : List V} {σ : L2.St} {t : TS} {D : Ends} {H : Hp} (e : start N vs = σ) (h : t D σ H) : t D (start N vs) H := e ▸ h
/-- lists put together, repeated -/
theorem r_cat {H : Hp} {a b : Addr} {xs ys : List V} {Q : VK} (h1 : H a = some (.lst xs)) (h2 : H b = some (.lst ys)) (hz : xs.length + ys.length ≤ sizeLine) (h : ∀ p H', H p = none → Same H H' → H' p = some (.lst (xs ++ ys)) → Q (.ref p) H') : rCat (.ref a) (.ref b) H Q :=
  ⟨a, b, xs, ys, rfl, rfl, h1, h2, hz, fun p hp => h p _ hp (fun c o' e => (upd_ne (ne_of_none e hp)).trans e) upd_same⟩
theorem r_rep {H : Hp} {a : Addr} {xs : List V} {k : Int} {Q : VK} (h1 : H a = some (.lst xs)) (h2 : 0 ≤ k) (h3 : k ≤ 1000) (h4 : xs.length ≤ 1000) (h : ∀ p H', H p = none → Same H H' → H' p = some (.lst (List.replicate k.toNat xs).flatten) → Q (.ref p) H') : rRep (.ref a) (.int k) H Q := by
  have hz : xs.length * k.toNat ≤ 1000 * 1000 := Nat.mul_le_mul h4 (by omega)
  exact ⟨a, k, xs, rfl, rfl, h1, by omega, by omega, Nat.le_trans hz (by decide), fun p hp => h p _ hp (fun c o' e => (upd_ne (ne_of_none e hp)).trans e) upd_same⟩
section
variable {K : PySem.W.Frag} {H : Hp} {σ : L2.St} {Q : VK} {a : Addr} {xs : List V} {te : TE} {lo hi : Option Int} {to tu : TO} {QO : Option Int → Hp → Prop}
theorem r_sl {r : V → Option Int → Option Int → Hp → VK → Prop} (h : te σ H fun x H1 => to σ H1 fun l H2 => tu σ H2 fun u H3 => r x l u H3 Q) : tSl r te to tu σ H Q := h
theorem r_noPart (h : QO none H) : tNoPart σ H QO := h
theorem r_part (h : te σ H fun x H1 => partK x H1 QO) : tPart te σ H QO := h
theorem r_partK {i : Int} (h : QO (some i) H) : partK (.int i) H QO := ⟨i, rfl, h⟩
theorem r_slL (hs : SqL K H a xs) (h : ∀ p H', H p = none → Same H H' → H' p = some (.lst (cutV xs lo hi)) → Q (.ref p) H') : rSlL K (.ref a) lo hi H Q :=
  ⟨a, xs, rfl, hs, fun p hp => h p _ hp (fun c o' e => (upd_ne (ne_of_none e hp)).trans e) upd_same⟩
theorem cut_to (xs : List V) (n : Nat) : cutV xs none (some (n : Int)) = xs.take n := by
  unfold cutV
  rw [HT.sIx_nat, HT.sIx_none, List.drop_zero, Nat.sub_zero]
  by_cases h : n ≤ xs.length
  · rw [Nat.min_eq_left h]
  · rw [Nat.min_eq_right (by omega), List.take_length, List.take_of_length_le (by omega)]
theorem cut_from (xs : List V) (n : Nat) : cutV xs (some (n : Int)) none = xs.drop n := by
  unfold cutV
  rw [HT.sIx_nat, HT.sIx_none]
  by_cases h : n ≤ xs.length
  · rw [Nat.min_eq_left h, List.take_of_length_le (by rw [List.length_drop]; omega)]
  · rw [Nat.min_eq_right (by omega), Nat.sub_self, List.take_zero, List.drop_of_length_le (by omega)]
end
theorem iteNF {A B : Prop} (h : A) : if (!false) = true then A else B := iteT h
theorem iteNT {A B : Prop} (h : B) : if (!true) = true then A else B := iteF h
theorem r_it2 {c : Bool} {A B : Prop} (h1 : c = true → A) (h2 : c = false → B) : if c = true then A else B := by
  cases c with
  | true => exact iteT (h1 rfl)
  | false => exact iteF (h2 rfl)
/-! ### loops -/
/-- what is asked of a loop once its walked thing stands -/
def forK (J : It) (g : TG) (tb : TS) (D : Ends) (σ : L2.St) (H : Hp) : Prop := tFor (fun _ H R => R J H) g tb D σ H
def lcK (J : It) (g : TG) (tt : TT) (te : TE) (vs : List Nat) (Q : VK) (σ : L2.St) (H : Hp) : Prop := tLc (fun _ H R => R J H) g tt te vs σ H Q
section
variable {σ : L2.St} {H : Hp} {Q : VK} {wi : TI} {g : TG} {tb : TS} {D : Ends} {J : It} {R : It → Hp → Prop} {ta : TA} {te tl : TE} {tt : TT} {vs : List Nat} {K : PySem.W.Frag} {a : Addr} {xs : List V}
  {nx : L2.St → Hp → Prop} {rt : VK} {bk ct : L2.St → Hp → Prop} {n : Nat} {G : Hp → Prop} {Y : Nat → Hp → V → Hp → Prop}
theorem r_for (h : wi σ H fun J H1 => forK J g tb D σ H1) : tFor wi g tb D σ H := h
theorem r_lc (h : wi σ H fun J H1 => lcK J g tt te vs Q σ H1) : tLc wi g tt te vs σ H Q := h
def rng1K (vs : List V) (H : Hp) (R : It → Hp → Prop) : Prop := ∃ j : Int, vs = [.int j] ∧ -(2 ^ 62) ≤ j ∧ j < 2 ^ 62 ∧ R (Itr 0 j.toNat) H
def rng2K (vs : List V) (H : Hp) (R : It → Hp → Prop) : Prop := ∃ i j : Int, vs = [.int i, .int j] ∧ (-(2 ^ 62) ≤ i ∧ i < 2 ^ 62 ∧ -(2 ^ 62) ≤ j ∧ j < 2 ^ 62) ∧ R (Itr i (j - i).toNat) H
theorem r_rng1 (h : ta σ H fun vs H1 => rng1K vs H1 R) : iRng1 ta σ H R := h
theorem r_rng2 (h : ta σ H fun vs H1 => rng2K vs H1 R) : iRng2 ta σ H R := h
theorem r_rng1k {j : Int} (h1 : -(2 ^ 62) ≤ j) (h2 : j < 2 ^ 62) (h : R (Itr 0 j.toNat) H) : rng1K [.int j] H R := ⟨j, rfl, h1, h2, h⟩
theorem r_rng2k {i j : Int} (h1 : -(2 ^ 62) ≤ i) (h2 : i < 2 ^ 62) (h3 : -(2 ^ 62) ≤ j) (h4 : j < 2 ^ 62) (h : R (Itr i (j - i).toNat) H) : rng2K [.int i, .int j] H R := ⟨i, j, rfl, ⟨h1, h2, h3, h4⟩, h⟩
def iterLK (K : PySem.W.Frag) (x : V) (H : Hp) (R : It → Hp → Prop) : Prop := ∃ a, x = .ref a ∧ (∃ xs, SqL K H a xs) ∧ R (Itl K a) H
def iterTK (K : PySem.W.Frag) (x : V) (H : Hp) (R : It → Hp → Prop) : Prop := ∃ a, x = .ref a ∧ (∃ xs, SqT K H a xs) ∧ R (Itt K a) H
theorem r_iList (h : tl σ H fun x H1 => iterLK K x H1 R) : iList K tl σ H R := h
theorem r_iTup (h : tl σ H fun x H1 => iterTK K x H1 R) : iTup K tl σ H R := h
theorem r_iLk (hs : SqL K H a xs) (h : R (Itl K a) H) : iterLK K (.ref a) H R := ⟨a, rfl, ⟨xs, hs⟩, h⟩
theorem r_iTk (hs : SqT K H a xs) (h : R (Itt K a) H) : iterTK K (.ref a) H R := ⟨a, rfl, ⟨xs, hs⟩, h⟩
def iterSK (x : V) (H : Hp) (R : It → Hp → Prop) : Prop := ∃ z, x = .str z ∧ R (Its z) H
theorem r_iStr (h : tl σ H fun x H1 => iterSK x H1 R) : iStr tl σ H R := h
theorem r_iSk {z : Str} (h : R (Its z) H) : iterSK (.str z) H R := ⟨z, rfl, h⟩
theorem fk_it (w : Walk J n G Y) (Pv : Nat → L2.St → Hp → Prop) (h0 : Pv 0 σ H) (hG : ∀ i σ H, i ≤ n → Pv i σ H → G H)
    (hs : ∀ i x σ H H', i < n → Pv i σ H → Y i H x H' → g x σ H' fun σ2 H2 => tb ⟨Pv (i + 1), rt, nx, Pv (i + 1)⟩ σ2 H2) (hd : ∀ σ H, Pv n σ H → nx σ H) :
    forK J g tb ⟨nx, rt, bk, ct⟩ σ H := for_it w Pv h0 hG hs hd
theorem fk_rng {lo : Int} (Pv : Nat → L2.St → Hp → Prop) (h0 : Pv 0 σ H)
    (hs : ∀ i σ H, i < n → Pv i σ H → g (.int (lo + (i : Nat))) σ H fun σ2 H2 => tb ⟨Pv (i + 1), rt, nx, Pv (i + 1)⟩ σ2 H2) (hd : ∀ σ H, Pv n σ H → nx σ H) :
    forK (Itr lo n) g tb ⟨nx, rt, bk, ct⟩ σ H := fk_it walk_range Pv h0 (fun _ _ _ _ _ => trivial) (fun i x σ H H' hi p y => by
      obtain ⟨rfl, rfl⟩ := y
      exact hs i σ _ hi p) hd
theorem fk_list (Pv : Nat → L2.St → Hp → Prop) (h0 : Pv 0 σ H) (hl : ∀ i σ H, i ≤ xs.length → Pv i σ H → SqL K H a xs)
    (hs : ∀ i x σ H, xs[i]? = some x → Pv i σ H → g x σ H fun σ2 H2 => tb ⟨Pv (i + 1), rt, nx, Pv (i + 1)⟩ σ2 H2) (hd : ∀ σ H, Pv xs.length σ H → nx σ H) :
    forK (Itl K a) g tb ⟨nx, rt, bk, ct⟩ σ H := for_list Pv h0 hl hs hd
theorem fk_tup (Pv : Nat → L2.St → Hp → Prop) (h0 : Pv 0 σ H) (hl : ∀ i σ H, i ≤ xs.length → Pv i σ H → SqT K H a xs)
    (hs : ∀ i x σ H, xs[i]? = some x → Pv i σ H → g x σ H fun σ2 H2 => tb ⟨Pv (i + 1), rt, nx, Pv (i + 1)⟩ σ2 H2) (hd : ∀ σ H, Pv xs.length σ H → nx σ H) :
    forK (Itt K a) g tb ⟨nx, rt, bk, ct⟩ σ H := for_tup Pv h0 hl hs hd
def enumK (K : PySem.W.Frag) (vs : List V) (H : Hp) (R : It → Hp → Prop) : Prop := ∃ a xs, vs = [.ref a] ∧ SqL K H a xs ∧ R (Ite K a) H
theorem r_enum (h : ta σ H fun vs H1 => enumK K vs H1 R) : iEnum K ta σ H R := h
theorem r_enk (hs : SqL K H a xs) (h : R (Ite K a) H) : enumK K [.ref a] H R := ⟨a, xs, rfl, hs, h⟩
theorem fk_enum (Pv : Nat → L2.St → Hp → Prop) (h0 : Pv 0 σ H) (hl : ∀ i σ H, i ≤ xs.length → Pv i σ H → SqL K H a xs)
    (hs : ∀ i x σ H T H', xs[i]? = some x → Pv i σ H → H T = none → Same H H' → H' T = some (.tup [.int (i : Nat), x]) → g (.ref T) σ H' fun σ2 H2 => tb ⟨Pv (i + 1), rt, nx, Pv (i + 1)⟩ σ2 H2) (hd : ∀ σ H, Pv xs.length σ H → nx σ H) :
    forK (Ite K a) g tb ⟨nx, rt, bk, ct⟩ σ H := fk_it (walk_enum (xs := xs)) Pv h0 hl (fun i x σ H H' hi p y => by
      obtain ⟨T, x1, x2, rfl, hT, rfl, e1, e2⟩ := y
      cases e1
      exact hs i x2 σ H T _ e2 p hT (fun c o' e => (upd_ne (ne_of_none e hT)).trans e) upd_same) hd
/-- a comprehension: what is made so far stands at D -/
theorem lk_it (w : Walk J n G Y) (Pv : Addr → Nat → Hp → Prop) (h0 : ∀ D, H D = none → Pv D 0 (upd H D (.lst []))) (hG : ∀ D i H, i ≤ n → Pv D i H → G H)
    (hs : ∀ D i x H1 H', H D = none → i < n → Pv D i H1 → Y i H1 x H' → g x (wipe σ vs) H' fun σ2 H2 => wipe σ2 vs = wipe σ vs ∧ tt σ2 H2 fun b H3 =>
      if b = true then te σ2 H3 fun y H4 => ∃ acc, H4 D = some (.lst acc) ∧ acc.length < sizeLine ∧ Pv D (i + 1) (upd H4 D (.lst (acc ++ [y]))) else Pv D (i + 1) H3)
    (hd : ∀ D H1, H D = none → Pv D n H1 → Q (.ref D) H1) : lcK J g tt te vs Q σ H :=
  fun D hD => lc_it w (Pv D) (h0 D hD) (hG D) (fun i x H1 H' hi p y => hs D i x H1 H' hD hi p y) (fun H1 p => hd D H1 hD p)
end
theorem sameMut {H H1 : Hp} {p : Addr} {o : HO} (a : Same H H1) (h : H p = none) : Same H (upd H1 p o) := fun c u e => (upd_ne (ne_of_none e h)).trans (a c u e)
section
variable {K : PySem.W.Frag} {H : Hp} {σ : L2.St} {Q : VK} {a : Addr} {te : TE} {vs : List Nat}
/-- [e for x in xs], e without a trace: the list of its values -/
theorem lk_mapL {xs : List V} {j : Nat} (f : V → V) (hs : SqL K H a xs) (hl : xs.length ≤ 100000) (hw : ∀ x, wipe ((wipe σ vs).set j (some x)) vs = wipe σ vs)
    (he : ∀ x ∈ xs, ∀ H', Same H H' → Val te ((wipe σ vs).set j (some x)) H' (f x))
    (h : ∀ D H', H D = none → Same H H' → H' D = some (.lst (xs.map f)) → Q (.ref D) H') : lcK (Itl K a) (gName j) tYes te vs Q σ H := by
  refine lk_it (walk_list (xs := xs)) (fun D i H' => Same H H' ∧ H' D = some (.lst ((xs.take i).map f))) (fun D hD => ⟨fun c u e => (upd_ne (ne_of_none e hD)).trans e, upd_same⟩) (fun D i H' _ p => ?_) ?_ ?_
  · exact sqLS p.1 hs
  · rintro D i x H1 H2 hD hi ⟨sm, eD⟩ ⟨rfl, hx⟩
    refine ⟨hw x, r_yes (iteT ?_)⟩
    refine he x (List.mem_of_getElem? hx) _ sm _ ⟨_, eD, ?_, sameMut sm hD, ?_⟩
    · rw [List.length_map, List.length_take]
      exact Nat.lt_of_le_of_lt (Nat.le_trans (Nat.min_le_right _ _) hl) (by decide)
    · rw [upd_same, List.take_add_one, hx, List.map_append]
      rfl
  · rintro D H1 hD ⟨sm, eD⟩
    rw [List.take_length] at eD
    exact h D H1 hD sm eD
end
theorem Same.new {H : Hp} {p : Addr} {o : HO} (h : H p = none) : Same H (upd H p o) := fun c o' e => by
  rw [upd_ne (ne_of_none e h)]
  exact e
end Gl

set_option Elab.async false
set_option maxRecDepth 100000
set_option maxHeartbeats 4000000
set_option linter.all false
namespace Law
open PySem L2 Gl
def topS (i : Nat) : Stmt := PySem.Challenge.pw_grownlines_k02_whole_points.main.body.getD i (.Pass ⟨0, 0, 0, 0⟩)
abbrev s_is_integer : Stmt := topS 2
theorem sc_is_integer : FnScope ["value"] ["value"] (defScope s_is_integer) := ⟨rfl, rfl, rfl, by decide +kernel, rfl, by decide +kernel, by decide +kernel⟩
abbrev s_is_count : Stmt := topS 3
theorem sc_is_count : FnScope ["value"] ["value"] (defScope s_is_count) := ⟨rfl, rfl, rfl, by decide +kernel, rfl, by decide +kernel, by decide +kernel⟩
abbrev s_is_point : Stmt := topS 4
theorem sc_is_point : FnScope ["value"] ["value"] (defScope s_is_point) := ⟨rfl, rfl, rfl, by decide +kernel, rfl, by decide +kernel, by decide +kernel⟩
abbrev s__law_dice : Stmt := topS 6
theorem sc__law_dice : FnScope ["_law_script", "_law_spot", "_law_cell", "_law_left"] ["_law_script", "_law_spot"] (defScope s__law_dice) := ⟨rfl, rfl, rfl, by decide +kernel, rfl, by decide +kernel, by decide +kernel⟩
abbrev s__law_roll : Stmt := topS 7
theorem sc__law_roll : FnScope ["_law_dice_here", "_law_total", "_law_found", "_law_one", "_law_two"] ["_law_dice_here", "_law_total"] (defScope s__law_roll) := ⟨rfl, rfl, rfl, by decide +kernel, rfl, by decide +kernel, by decide +kernel⟩
abbrev s__law_pick : Stmt := topS 8
theorem sc__law_pick : FnScope ["_law_dice_here", "_law_items"] ["_law_dice_here", "_law_items"] (defScope s__law_pick) := ⟨rfl, rfl, rfl, by decide +kernel, rfl, by decide +kernel, by decide +kernel⟩
abbrev s__law_mixed : Stmt := topS 9
theorem sc__law_mixed : FnScope ["_law_dice_here", "_law_items", "_law_left", "_law_found", "_law_turn"] ["_law_dice_here", "_law_items"] (defScope s__law_mixed) := ⟨rfl, rfl, rfl, by decide +kernel, rfl, by decide +kernel, by decide +kernel⟩
abbrev s__law_limit : Stmt := topS 10
theorem sc__law_limit : FnScope [] [] (defScope s__law_limit) := ⟨rfl, rfl, rfl, by decide +kernel, rfl, by decide +kernel, by decide +kernel⟩
abbrev s__law_part : Stmt := topS 11
theorem sc__law_part : FnScope ["_law_dice_here", "_law_great", "_law_some", "_law_part_here"] ["_law_dice_here"] (defScope s__law_part) := ⟨rfl, rfl, rfl, by decide +kernel, rfl, by decide +kernel, by decide +kernel⟩
abbrev s_law : Stmt := topS 12
theorem sc_law : FnScope ["_law_script", "_law_spot", "_law_dice_here", "_law_odd", "_law_parts", "_law_at", "_law_one", "_law_to", "_law_other", "_law_due", "_law_told", "_law_turn", "_law_part_here"] ["_law_script"] (defScope s_law) := ⟨rfl, rfl, rfl, by decide +kernel, rfl, by decide +kernel, by decide +kernel⟩
def LIM : Int := 10 ^ 400
structure Ad where
  a_is_integer : Addr
  a_is_count : Addr
  a_is_point : Addr
  a__law_dice : Addr
  a__law_roll : Addr
  a__law_pick : Addr
  a__law_mixed : Addr
  a__law_limit : Addr
  a__law_part : Addr
  a_law : Addr
structure Fd where
  d_is_integer : FuncData
  d_is_count : FuncData
  d_is_point : FuncData
  d__law_dice : FuncData
  d__law_roll : FuncData
  d__law_pick : FuncData
  d__law_mixed : FuncData
  d__law_limit : FuncData
  d__law_part : FuncData
  d_law : FuncData
structure Txt (K : PySem.W.Frag) (mg : Str → Option Value) (A : Ad) (D : Fd) : Prop where
  z_isinstance : mg "isinstance" = none
  z_int : mg "int" = none
  z_bool : mg "bool" = none
  z_tuple : mg "tuple" = none
  z_len : mg "len" = none
  z_abs : mg "abs" = none
  z_max : mg "max" = none
  z_min : mg "min" = none
  z_range : mg "range" = none
  z_repr : mg "repr" = none
  z_list : mg "list" = none
  z_enumerate : mg "enumerate" = none
  c_LIMIT : ∃ u, mg "LIMIT" = some u ∧ RelV (.int LIM) u
  g_is_integer : mg "is_integer" = some (.ref A.a_is_integer)
  F_is_integer : Fun K "is_integer" "is_integer" s_is_integer A.a_is_integer D.d_is_integer
  b_is_integer : Binds K D.d_is_integer ["value"] []
  g_is_count : mg "is_count" = some (.ref A.a_is_count)
  F_is_count : Fun K "is_count" "is_count" s_is_count A.a_is_count D.d_is_count
  b_is_count : Binds K D.d_is_count ["value"] []
  g_is_point : mg "is_point" = some (.ref A.a_is_point)
  F_is_point : Fun K "is_point" "is_point" s_is_point A.a_is_point D.d_is_point
  b_is_point : Binds K D.d_is_point ["value"] []
  g__law_dice : mg "_law_dice" = some (.ref A.a__law_dice)
  F__law_dice : Fun K "_law_dice" "_law_dice" s__law_dice A.a__law_dice D.d__law_dice
  b__law_dice : Binds K D.d__law_dice ["_law_script", "_law_spot"] []
  g__law_roll : mg "_law_roll" = some (.ref A.a__law_roll)
  F__law_roll : Fun K "_law_roll" "_law_roll" s__law_roll A.a__law_roll D.d__law_roll
  b__law_roll : Binds K D.d__law_roll ["_law_dice_here", "_law_total"] []
  g__law_pick : mg "_law_pick" = some (.ref A.a__law_pick)
  F__law_pick : Fun K "_law_pick" "_law_pick" s__law_pick A.a__law_pick D.d__law_pick
  b__law_pick : Binds K D.d__law_pick ["_law_dice_here", "_law_items"] []
  g__law_mixed : mg "_law_mixed" = some (.ref A.a__law_mixed)
  F__law_mixed : Fun K "_law_mixed" "_law_mixed" s__law_mixed A.a__law_mixed D.d__law_mixed
  b__law_mixed : Binds K D.d__law_mixed ["_law_dice_here", "_law_items"] []
  g__law_limit : mg "_law_limit" = some (.ref A.a__law_limit)
  F__law_limit : Fun K "_law_limit" "_law_limit" s__law_limit A.a__law_limit D.d__law_limit
  b__law_limit : Binds K D.d__law_limit [] []
  g__law_part : mg "_law_part" = some (.ref A.a__law_part)
  F__law_part : Fun K "_law_part" "_law_part" s__law_part A.a__law_part D.d__law_part
  b__law_part : Binds K D.d__law_part ["_law_dice_here"] []
  g_law : mg "law" = some (.ref A.a_law)
  F_law : Fun K "law" "law" s_law A.a_law D.d_law
  b_law : Binds K D.d_law ["_law_script"] []
local macro_rules | `(tactic| walk_at "lk") => `(tactic| first
  | exact upd_same
  | assumption
  | exact (upd_ne (by walk_at "ne")).trans (by walk_at "lk"))
local macro_rules | `(tactic| walk_at "ne") => `(tactic| first
  | assumption
  | exact Ne.symm (by assumption)
  | exact ne_of_none (by assumption) (by assumption)
  | exact (ne_of_none (by assumption) (by assumption)).symm)
local macro_rules | `(tactic| walk_at "sq") => `(tactic| first
  | assumption
  | exact SqL.of (by walk_at "lk")
  | exact SqT.of (by walk_at "lk"))
local macro_rules | `(tactic| walk_at "at") => `(tactic| first
  | exact at_0
  | exact at_1
  | exact at_2
  | exact at_3
  | exact ix_0
  | exact ix_1
  | exact ix_2
  | exact rfl
  | assumption)
local macro_rules | `(tactic| walk_at "len") => `(tactic| first
  | (simp only [List.length_cons, List.length_nil]; decide)
  | (refine Nat.le_trans (?_ : _ ≤ 1000) (by decide); first | assumption | omega | (simp; omega)))
local macro_rules | `(tactic| walk_at "lenlt") => `(tactic| first
  | (refine Nat.lt_of_le_of_lt (?_ : _ ≤ 100000) (by decide); first | assumption | omega | (simp only [List.length_cons, List.length_nil, List.length_append]; omega) | (simp; omega)))
local macro_rules | `(tactic| walk_at "kd") => `(tactic| first
  | assumption
  | exact Knd.non
  | exact Knd.bl _
  | exact Knd.int _
  | exact Knd.str _
  | exact Knd.tup (by walk_at "sq")
  | exact Knd.lst (by walk_at "sq")
  | exact Knd.dK (by walk_at "lk"))
local macro_rules | `(tactic| walk_at "om") => `(tactic| first | omega | decide | decide +kernel)
local macro_rules | `(tactic| walk_at "side") => `(tactic| first
  | assumption
  | (with_reducible refine Gl.cdiv ?_ ?_ <;> first | omega | decide +kernel)
  | (with_reducible refine Gl.cmulL ?_ ?_ <;> first | omega | decide +kernel)
  | (with_reducible refine Gl.cmulR ?_ ?_ <;> first | omega | decide +kernel)
  | (refine Nat.le_trans (?_ : _ ≤ 1000) (by decide); first | assumption | omega | (simp only [List.length_cons, List.length_nil]; omega))
  | (show (0 : Int) < _; omega)
  | (show (0 : Int) < _; decide +kernel)
  | (exact Or.inr (by unfold CMulW; decide +kernel))
  | (exact ⟨by decide, by decide +kernel⟩))
local macro_rules | `(tactic| walk_at "r1") => `(tactic| first
  | ((with_reducible refine' Gl.r_var ?hv ?_); (case hv => exact rfl))
  | (with_reducible refine Gl.r_c ?_)
  | (with_reducible refine Gl.r_op ?_)
  | (with_reducible refine Gl.r_i0 ?_)
  | ((with_reducible refine Gl.r_i ?hc ?_); (case hc => walk_at "side"))
  | (with_reducible refine Gl.r_cons ?_)
  | (with_reducible refine Gl.r_nil ?_)
  | (with_reducible refine Gl.r_call ?_)
  | (with_reducible refine Gl.r_cb ?_)
  | (with_reducible refine Gl.r_seq ?_)
  | (with_reducible refine Gl.r_asg ?_)
  | (with_reducible refine Gl.r_gname ?_)
  | (with_reducible refine Gl.r_ret ?_)
  | (with_reducible refine Gl.r_if ?_)
  | (with_reducible refine Gl.r_test ?_)
  | (with_reducible refine Gl.r_bl ?_)
  | (with_reducible refine Gl.r_B ?_)
  | ((with_reducible refine Gl.r_eq ?hc ?_); (case hc => exact rfl))
  | ((with_reducible refine Gl.r_ne ?hc ?_); (case hc => exact rfl))
  | ((with_reducible refine' Gl.r_ixL ?hs ?hi ?_); (case hs => walk_at "sq"); (case hi => walk_at "at"))
  | ((with_reducible refine' Gl.r_ixT ?hs ?hi ?_); (case hs => walk_at "sq"); (case hi => walk_at "at"))
  | (with_reducible refine Gl.r_un ?_)
  | (with_reducible refine Gl.r_u ?_)
  | (with_reducible refine Gl.r_notV ?_)
  | (with_reducible refine Gl.r_ifE ?_)
  | (with_reducible refine Gl.r_chain ?_)
  | (with_reducible refine Gl.r_and ?_)
  | (with_reducible refine Gl.r_or ?_)
  | (with_reducible refine Gl.r_not ?_)
  | (with_reducible refine Gl.r_par ?_)
  | (with_reducible refine Gl.r_next ?_)
  | (with_reducible refine Gl.r_brk ?_)
  | (with_reducible refine Gl.r_cont ?_)
  | (with_reducible refine Gl.r_drop ?_)
  | (with_reducible refine Gl.r_retN ?_)
  | (with_reducible refine Gl.r_gsub ?_)
  | ((with_reducible refine' Gl.r_setL ?hs ?hi ?_); (case hs => walk_at "lk"); (case hi => walk_at "at"))
  | (with_reducible refine Gl.r_gnil ?_)
  | (with_reducible refine Gl.r_gcons ?_)
  | ((with_reducible refine' Gl.r_gtup ?hs ?hi ?_); (case hs => walk_at "sq"); (case hi => walk_at "at"))
  | (with_reducible refine Gl.r_tup ?_)
  | (with_reducible refine Gl.r_lst ?_)
  | (with_reducible refine Gl.r_bm ?_)
  | (with_reducible refine Gl.r_bm0 ?_)
  | (with_reducible refine Gl.r_yes ?_)
  | ((with_reducible refine Gl.r_wipe ?hs ?_); (case hs => exact rfl))
  | ((with_reducible refine' Gl.r_tyL ?hs ?_); (case hs => walk_at "sq"))
  | ((with_reducible refine' Gl.r_app ?hs ?hi ?_); (case hs => walk_at "lk"); (case hi => walk_at "lenlt"))
  | (with_reducible refine Gl.r_isB ?_)
  | (with_reducible refine Gl.r_notB ?_)
  | (with_reducible refine Gl.r_sl ?_)
  | (with_reducible refine Gl.r_noPart ?_)
  | (with_reducible refine Gl.r_part ?_)
  | (with_reducible refine Gl.r_partK ?_)
  | (with_reducible refine Gl.r_enum ?_)
  | ((with_reducible refine' Gl.r_enk ?hs ?_); (case hs => walk_at "sq"))
  | (with_reducible refine Gl.r_for ?_)
  | (with_reducible refine Gl.r_lc ?_)
  | (with_reducible refine Gl.r_rng1 ?_)
  | ((with_reducible refine Gl.r_rng1k ?hs ?hi ?_); (case hs => walk_at "om"); (case hi => walk_at "om"))
  | (with_reducible refine Gl.r_rng2 ?_)
  | ((with_reducible refine Gl.r_rng2k ?hs ?hi ?hs2 ?hi2 ?_); (case hs => walk_at "om"); (case hi => walk_at "om"); (case hs2 => walk_at "om"); (case hi2 => walk_at "om"))
  | (with_reducible refine Gl.r_iList ?_)
  | (with_reducible refine Gl.r_iTup ?_)
  | (with_reducible refine Gl.r_iStr ?_)
  | (with_reducible refine Gl.r_iSk ?_)
  | ((with_reducible refine' Gl.r_iLk ?hs ?_); (case hs => walk_at "sq"))
  | ((with_reducible refine' Gl.r_iTk ?hs ?_); (case hs => walk_at "sq"))
  | ((with_reducible refine' Gl.r_lenL ?hs ?_); (case hs => walk_at "sq"))
  | ((with_reducible refine' Gl.r_lenT ?hs ?_); (case hs => walk_at "sq"))
  | ((with_reducible refine' Gl.r_lenS ?hs ?_); (case hs => walk_at "side"))
  | ((with_reducible refine' Gl.r_isiT ?hs ?hi ?hj ?_); (case hs => walk_at "kd"); (case hi => decide); (case hj => decide))
  | ((with_reducible refine' Gl.r_isiF ?hs ?hi ?hj ?_); (case hs => walk_at "kd"); (case hi => decide); (case hj => decide))
  | (with_reducible refine iteT ?_)
  | (with_reducible refine iteF ?_)
  | (with_reducible refine Gl.iteNF ?_)
  | (with_reducible refine Gl.iteNT ?_)
  | (with_reducible refine Gl.e_oi ?_)
  | (with_reducible refine Gl.e_ob ?_)
  | (with_reducible refine Gl.e_i ?_)
  | (with_reducible refine Gl.e_b ?_)
  | (with_reducible refine Gl.e_s ?_)
  | (with_reducible refine Gl.e_ii ?_)
  | (with_reducible refine Gl.e_vv ?_)
  | (with_reducible refine Gl.e_vvv ?_)
  | (with_reducible refine Gl.e_cs ?_)
  | (with_reducible refine Gl.e_ss ?_))
local macro_rules | `(tactic| walk_at "r") => `(tactic| repeat (walk_at "r1"))
local macro_rules | `(tactic| walk_at "ra") => `(tactic| repeat (first
  | (walk_at "r1")
  | (with_reducible refine Gl.r_andV ?_)
  | (with_reducible refine Gl.r_orV ?_)))
local macro_rules | `(tactic| walk_at "dp") => `(tactic| first
  | exact Dp.non
  | exact Dp.bl _
  | exact Dp.int _
  | exact Dp.str _
  | assumption
  | exact Dp.lst (by walk_at "sq") (by walk_at "dpa")
  | exact Dp.tup (by walk_at "sq") (by walk_at "dpa"))
local macro_rules | `(tactic| walk_at "dpa") => `(tactic| first
  | exact DpAll.nil
  | assumption
  | exact DpAll.cons (by walk_at "dp") (by walk_at "dpa"))

/-! ### dice -/
def DiceAt (H : Hp) (d : Addr) : Prop := ∃ l s c : Int, H d = some (.lst [.int l, .int s, .int c])
structure Went (d : Addr) (H H' : Hp) : Prop where
  dice : DiceAt H' d
  keep : ∀ b o, b ≠ d → H b = some o → H' b = some o
theorem Went.trans {d : Addr} {H H1 H2 : Hp} (a : Went d H H1) (b : Went d H1 H2) : Went d H H2 :=
  ⟨b.dice, fun c o n e => b.keep c o n (a.keep c o n e)⟩
theorem Went.refl {d : Addr} {H : Hp} (h : DiceAt H d) : Went d H H := ⟨h, fun _ _ _ e => e⟩
theorem Went.new {d p : Addr} {H H1 : Hp} {o : HO} (a : Went d H H1) (h : H1 p = none) : Went d H (upd H1 p o) := by
  obtain ⟨l, s, c, e⟩ := a.dice
  refine ⟨⟨l, s, c, ?_⟩, fun b u n q => ?_⟩
  · rw [upd_ne (ne_of_none e h)]; exact e
  · have z := a.keep b u n q
    rw [upd_ne (ne_of_none z h)]; exact z
theorem Went.mut {d p : Addr} {H H1 : Hp} {o : HO} (a : Went d H H1) (h : H p = none) (n : p ≠ d) : Went d H (upd H1 p o) := by
  obtain ⟨l, s, c, e⟩ := a.dice
  exact ⟨⟨l, s, c, (upd_ne n.symm).trans e⟩, fun b u nb q => (upd_ne (ne_of_none q h)).trans (a.keep b u nb q)⟩
theorem Went.same {d : Addr} {H H1 H2 : Hp} (a : Went d H H1) (b : Same H1 H2) : Went d H H2 :=
  ⟨let ⟨l, s, c, e⟩ := a.dice; ⟨l, s, c, b _ _ e⟩, fun c o n e => b _ _ (a.keep c o n e)⟩
theorem DiceAt.same {d : Addr} {H H1 : Hp} (a : DiceAt H d) (b : Same H H1) : DiceAt H1 d := let ⟨l, s, c, e⟩ := a; ⟨l, s, c, b _ _ e⟩
theorem DiceAt.ne {d p : Addr} {H : Hp} (a : DiceAt H d) (h : H p = none) : p ≠ d := by
  obtain ⟨_, _, _, e⟩ := a
  exact (ne_of_none e h).symm
theorem Went.sqL {K : PySem.W.Frag} {d a : Addr} {H H1 : Hp} {xs : List V} (w : Went d H H1) (n : a ≠ d) (h : SqL K H a xs) : SqL K H1 a xs := by
  rcases h with (h | ⟨o, h⟩) | h
  · exact .inl (.inl (w.keep _ _ n h))
  · exact .inl (.inr ⟨o, w.keep _ _ n h⟩)
  · exact .inr h
/-- all that H knows stands; the dice at d, which H does not know, stand -/
structure Bs (H : Hp) (d : Addr) (H' : Hp) : Prop where
  same : Same H H'
  free : H d = none
  dice : DiceAt H' d
theorem Bs.went {H H1 H2 : Hp} {d : Addr} (a : Bs H d H1) (b : Went d H1 H2) : Bs H d H2 :=
  ⟨fun c o e => b.keep c o (ne_of_none e a.free) (a.same c o e), a.free, b.dice⟩
theorem Bs.ne {H H1 : Hp} {d p : Addr} (a : Bs H d H1) (h : H1 p = none) : p ≠ d := a.dice.ne h
theorem Bs.more {H H1 H2 : Hp} {d : Addr} (a : Bs H d H1) (b : Same H1 H2) : Bs H d H2 := ⟨a.same.trans b, a.free, a.dice.same b⟩
theorem Bs.mut {H H1 : Hp} {d p : Addr} {o : HO} (a : Bs H d H1) (h : H p = none) (n : p ≠ d) : Bs H d (upd H1 p o) :=
  ⟨fun c u e => (upd_ne (ne_of_none e h)).trans (a.same c u e), a.free, let ⟨l, s, c, e⟩ := a.dice; ⟨l, s, c, (upd_ne n.symm).trans e⟩⟩

def isI : V → Bool
  | .int i => decide (-LIM < i) && decide (i < LIM)
  | _ => false
def isC : V → Bool
  | .int i => isI (.int i) && decide (0 ≤ i)
  | _ => false

def sp_is_integer (K : PySem.W.Frag) : Sp := fun vs H Q _ => ∃ (v : V) (n : String), vs = [v] ∧ Knd K H v n ∧ Q (.bl (isI v)) H
section
variable {P : Program} {w : World} {K : PySem.W.Frag} {mg : Str → Option Value} {base : Heap} {A : Ad} {D : Fd}
theorem ok_is_integer (T : Txt K mg A D) : FnOk P w K mg base CX0 1 A.a_is_integer D.d_is_integer ["value"] (sp_is_integer K) := by
  refine T.F_is_integer.ok sc_is_integer (fun vs H Q E h => ?_) (fun cdv Ar outer s H vs Q E hr h => ?_)
  · obtain ⟨v, n, rfl, _⟩ := h
    rfl
  · obtain ⟨v, n, rfl, hk, k⟩ := h
    refine ⟨_,
      (pss_one (ps_ret (pe_and (pe_callB call_isi (by rfl) T.z_isinstance (by decide +kernel) (pa_cons (pv 0) (pa_cons (pe_bltn (v := .ty "int") (by rfl) T.z_int (by decide +kernel) rfl) pa_nil))) (pe_and (pe_not (pe_callB call_isi (by rfl) T.z_isinstance (by decide +kernel) (pa_cons (pv 0) (pa_cons (pe_bltn (v := .ty "bool") (by rfl) T.z_bool (by decide +kernel) rfl) pa_nil)))) (pe_one (pe_chain op_lt op_lt (pe_un un_neg (pe_globV (by rfl) T.c_LIMIT)) (pv 0) (pe_globV (by rfl) T.c_LIMIT))))))), ?_⟩
    cases hk <;> walk_at "ra" <;> try exact k
    rename_i i
    refine r_it2 (fun h => ?_) (fun h => ?_)
    · walk_at "ra"
      have e : isI (.int i) = decide (i < LIM) := by
        show (decide (-LIM < i) && decide (i < LIM)) = _
        rw [h]; rfl
      exact e ▸ k
    · have e : isI (.int i) = false := by
        show (decide (-LIM < i) && decide (i < LIM)) = _
        rw [h]; rfl
      exact e ▸ k
end

def sp_is_count (K : PySem.W.Frag) : Sp := fun vs H Q _ => ∃ (v : V) (n : String), vs = [v] ∧ Knd K H v n ∧ Q (.bl (isC v)) H
section
variable {P : Program} {w : World} {K : PySem.W.Frag} {mg : Str → Option Value} {base : Heap} {A : Ad} {D : Fd}
theorem ok_is_count (T : Txt K mg A D) : FnOk P w K mg base CX0 2 A.a_is_count D.d_is_count ["value"] (sp_is_count K) := by
  have G_is_integer := ok_is_integer (P := P) (w := w) (base := base) T
  refine T.F_is_count.ok sc_is_count (fun vs H Q E h => ?_) (fun cdv Ar outer s H vs Q E hr h => ?_)
  · obtain ⟨v, n, rfl, _⟩ := h
    rfl
  · obtain ⟨v, n, rfl, hk, k⟩ := h
    refine ⟨_,
      (pss_one (ps_ret (pe_and (pe_call G_is_integer (hr.mono (by decide)) (by rfl) T.g_is_integer T.F_is_integer.kp T.b_is_integer .nil pass0 (pa_cons (pv 0) pa_nil)) (pe_one (pe_cmpR op_ge (pv 0) pe_int (nomark _)))))), ?_⟩
    walk_at "ra"
    refine ⟨v, n, rfl, hk, ?_⟩
    walk_at "ra"
    refine r_it2 (fun h => ?_) (fun h => ?_)
    · cases hk <;> try cases h
      walk_at "ra"
      rename_i i
      have e : isC (.int i) = decide (0 ≤ i) := by
        show (isI (.int i) && decide (0 ≤ i)) = _
        rw [h]; rfl
      exact e ▸ k
    · cases hk <;> try exact k
      rename_i i
      have e : isC (.int i) = false := by
        show (isI (.int i) && decide (0 ≤ i)) = _
        rw [h]; rfl
      exact e ▸ k
end

def isPt : List V → Bool
  | [x, y] => isI x && isI y
  | _ => false
def sp_is_point (K : PySem.W.Frag) : Sp := fun vs H Q _ =>
  (∃ (a : Addr) (xs : List V), vs = [.ref a] ∧ SqT K H a xs ∧ xs.length ≤ 1000 ∧ (∀ x ∈ xs, ∃ n, Knd K H x n) ∧ Q (.bl (isPt xs)) H) ∨
  (∃ (v : V) (n : String), vs = [v] ∧ Knd K H v n ∧ n ≠ "tuple" ∧ Q (.bl false) H)
section
variable {P : Program} {w : World} {K : PySem.W.Frag} {mg : Str → Option Value} {base : Heap} {A : Ad} {D : Fd}
theorem ok_is_point (T : Txt K mg A D) : FnOk P w K mg base CX0 2 A.a_is_point D.d_is_point ["value"] (sp_is_point K) := by
  have G_is_integer := ok_is_integer (P := P) (w := w) (base := base) T
  refine T.F_is_point.ok sc_is_point (fun vs H Q E h => ?_) (fun cdv Ar outer s H vs Q E hr h => ?_)
  · rcases h with ⟨a, xs, rfl, _⟩ | ⟨v, n, rfl, _⟩ <;> rfl
  · rcases h with ⟨a, xs, rfl, hs, hm, hk, k⟩ | ⟨v, n, rfl, hk, hn, k⟩
    · refine ⟨_,
        (pss_one (ps_ret (pe_and (pe_callB call_isi (by rfl) T.z_isinstance (by decide +kernel) (pa_cons (pv 0) (pa_cons (pe_bltn (v := .ty "tuple") (by rfl) T.z_tuple (by decide +kernel) rfl) pa_nil))) (pe_and (pe_cmpR op_eq (pe_callB call_lenA (by rfl) T.z_len (by decide +kernel) (pa_cons (pv 0) pa_nil)) pe_int (nomark _)) (pe_and (pe_call G_is_integer (hr.mono (by decide)) (by rfl) T.g_is_integer T.F_is_integer.kp T.b_is_integer .nil pass0 (pa_cons (pe_ix ix_tup (pv 0) pe_int (fun _ _ => rfl)) pa_nil)) (pe_one (pe_call G_is_integer (hr.mono (by decide)) (by rfl) T.g_is_integer T.F_is_integer.kp T.b_is_integer .nil pass0 (pa_cons (pe_ix ix_tup (pv 0) pe_int (fun _ _ => rfl)) pa_nil)))))))), ?_⟩
      walk_at "ra"
      match xs, hs, hm, hk, k with
      | [], hs, hm, hk, k => exact r_it2 (fun h => absurd h (by decide)) (fun _ => k)
      | [x], hs, hm, hk, k => exact r_it2 (fun h => absurd (V.int.inj (of_decide_eq_true h)) (by show ¬ (1 : Int) = 2; decide)) (fun _ => k)
      | x :: y :: z :: r, hs, hm, hk, k =>
        refine r_it2 (fun h => absurd (V.int.inj (of_decide_eq_true h)) ?_) (fun _ => k)
        simp only [List.length_cons]
        omega
      | [x, y], hs, hm, hk, k =>
        obtain ⟨n1, k1⟩ := hk x (by simp)
        obtain ⟨n2, k2⟩ := hk y (by simp)
        refine r_it2 (fun _ => ?_) (fun h => absurd rfl (of_decide_eq_false h))
        walk_at "ra"
        refine ⟨x, n1, rfl, k1, ?_⟩
        walk_at "ra"
        refine r_it2 (fun h => ?_) (fun h => ?_)
        · walk_at "ra"
          refine ⟨y, n2, rfl, k2, ?_⟩
          have e : isPt [x, y] = isI y := by
            show (isI x && isI y) = _
            rw [h]; rfl
          exact e ▸ k
        · have e : isPt [x, y] = false := by
            show (isI x && isI y) = _
            rw [h]; rfl
          exact e ▸ k
    · refine ⟨_,
        (pss_one (ps_ret (pe_and (pe_callB call_isi (by rfl) T.z_isinstance (by decide +kernel) (pa_cons (pv 0) (pa_cons (pe_bltn (v := .ty "tuple") (by rfl) T.z_tuple (by decide +kernel) rfl) pa_nil))) (pe_and (pe_cmpR op_eq (pe_callB call_lenA (by rfl) T.z_len (by decide +kernel) (pa_cons (pv 0) pa_nil)) pe_int (nomark _)) (pe_and (pe_call G_is_integer (hr.mono (by decide)) (by rfl) T.g_is_integer T.F_is_integer.kp T.b_is_integer .nil pass0 (pa_cons (pe_ix ix_tup (pv 0) pe_int (fun _ _ => rfl)) pa_nil)) (pe_one (pe_call G_is_integer (hr.mono (by decide)) (by rfl) T.g_is_integer T.F_is_integer.kp T.b_is_integer .nil pass0 (pa_cons (pe_ix ix_tup (pv 0) pe_int (fun _ _ => rfl)) pa_nil)))))))), ?_⟩
      cases hk <;> first | exact absurd rfl hn | (walk_at "ra"; exact k)
end

def sp__law_roll : Sp := fun vs H Q _ => ∃ (d : Addr) (t : Int), vs = [.ref d, .int t] ∧ DiceAt H d ∧ 0 < t ∧ t ≤ 10 ^ 60 ∧
  ∀ (r : Int) (H' : Hp), 0 ≤ r → r < t → Went d H H' → Q (.int r) H'
section
variable {P : Program} {w : World} {K : PySem.W.Frag} {mg : Str → Option Value} {base : Heap} {A : Ad} {D : Fd}
theorem ok__law_roll (T : Txt K mg A D) : FnOk P w K mg base CX0 1 A.a__law_roll D.d__law_roll ["_law_dice_here", "_law_total"] sp__law_roll := by
  refine T.F__law_roll.ok sc__law_roll (fun vs H Q E h => ?_) (fun cdv Ar outer s H vs Q E hr h => ?_)
  · obtain ⟨d, t, rfl, _⟩ := h
    rfl
  · obtain ⟨d, t, rfl, ⟨l, s, c, hd⟩, h0, h1, k⟩ := h
    refine ⟨_,
      (pss_cons (ps_if (pt_cmpR op_gt (pe_ix ix_list (pv 0) pe_int (fun _ _ => rfl)) pe_int (nomark _))
        (pss_cons (ps_set (i := 2) sc__law_roll.nd rfl (.inl rfl) (pe_op op_mod (pe_callTy call_int1 (by rfl) T.z_int (by decide +kernel) (pa_cons (pe_ix ix_list (pv 0) pe_int (fun _ _ => rfl)) pa_nil)) (pv 1)))
        (pss_cons (ps_asg (pe_op op_fdivA (pe_ix ix_list (pv 0) pe_int (fun _ _ => rfl)) (pv 1)) (pg_sub (pv 0) pe_int set_list))
        (pss_one (ps_ret (pv 2)))))
        pss_nil)
        (pss_cons (ps_asg (pe_op op_add (pe_ix ix_list (pv 0) pe_int (fun _ _ => rfl)) pe_int) (pg_sub (pv 0) pe_int set_list))
        (pss_cons (ps_set (i := 3) sc__law_roll.nd rfl (.inl rfl) (pe_op op_mod (pe_callTy call_int1 (by rfl) T.z_int (by decide +kernel) (pa_cons (pe_op op_add (pe_ix ix_list (pv 0) pe_int (fun _ _ => rfl)) (pe_op op_mulA pe_int (pe_ix ix_list (pv 0) pe_int (fun _ _ => rfl)))) pa_nil)) pe_int))
        (pss_cons (ps_set (i := 4) sc__law_roll.nd rfl (.inl rfl) (pe_op op_add (pe_op op_mulA (pe_op op_mod (pe_callTy call_int1 (by rfl) T.z_int (by decide +kernel) (pa_cons (pe_op op_add (pe_op op_mulA (pv 3) (pv 3)) (pe_op op_mulA pe_int (pe_ix ix_list (pv 0) pe_int (fun _ _ => rfl)))) pa_nil)) pe_int) pe_int) (pv 3)))
        (pss_one (ps_ret (pe_op op_mod (pe_callTy call_int1 (by rfl) T.z_int (by decide +kernel) (pa_cons (pe_op op_fdivA (pv 4) pe_int) pa_nil)) (pv 1)))))))), ?_⟩
    walk_at "r"
    refine ite2 (fun h => ?_) (fun h => ?_)
    · walk_at "r"
      exact k _ _ (Int.emod_nonneg _ (by omega)) (Int.emod_lt_of_pos _ h0) ⟨⟨_, _, _, upd_same⟩, fun b o n e => (upd_ne n).trans e⟩
    · walk_at "r"
      exact k _ _ (Int.emod_nonneg _ (by omega)) (Int.emod_lt_of_pos _ h0) ⟨⟨_, _, _, upd_same⟩, fun b o n e => (upd_ne n).trans e⟩
end

def sp__law_pick : Sp := fun vs H Q _ => ∃ (d q : Addr) (xs : List V), vs = [.ref d, .ref q] ∧ DiceAt H d ∧ q ≠ d ∧ H q = some (.lst xs) ∧ 0 < xs.length ∧ xs.length ≤ 1000 ∧
  ∀ (v : V) (H' : Hp), v ∈ xs → Went d H H' → Q v H'
section
variable {P : Program} {w : World} {K : PySem.W.Frag} {mg : Str → Option Value} {base : Heap} {A : Ad} {D : Fd}
theorem ok__law_pick (T : Txt K mg A D) : FnOk P w K mg base CX0 2 A.a__law_pick D.d__law_pick ["_law_dice_here", "_law_items"] sp__law_pick := by
  have G__law_roll := ok__law_roll (P := P) (w := w) (base := base) T
  refine T.F__law_pick.ok sc__law_pick (fun vs H Q E h => ?_) (fun cdv Ar outer s H vs Q E hr h => ?_)
  · obtain ⟨d, q, xs, rfl, _⟩ := h
    rfl
  · obtain ⟨d, q, xs, rfl, hd, hn, hq, h0, h1, k⟩ := h
    refine ⟨_,
      (pss_one (ps_ret (pe_ix ix_list (pv 1) (pe_call G__law_roll (hr.mono (by decide)) (by rfl) T.g__law_roll T.F__law_roll.kp T.b__law_roll .nil pass0 (pa_cons (pv 0) (pa_cons (pe_callB call_lenA (by rfl) T.z_len (by decide +kernel) (pa_cons (pv 1) pa_nil)) pa_nil))) (fun _ _ => rfl)))), ?_⟩
    walk_at "r"
    refine ⟨d, _, rfl, hd, by omega, by omega, fun r H' r0 r1 hw => ?_⟩
    have hq' := hw.keep _ _ hn hq
    have hr' : r.toNat < xs.length := by omega
    have ha : atI xs r = some xs[r.toNat] := by
      have e := atI_nat (xs := xs) (j := r.toNat) (v := xs[r.toNat]) (by simp [hr'])
      rw [Int.toNat_of_nonneg r0] at e
      exact e
    walk_at "r"
    exact k _ _ (List.getElem_mem _) hw
end

def sp__law_limit : Sp := fun vs H Q _ => vs = [] ∧ Q (.int LIM) H
section
variable {P : Program} {w : World} {K : PySem.W.Frag} {mg : Str → Option Value} {base : Heap} {A : Ad} {D : Fd}
theorem ok__law_limit (T : Txt K mg A D) : FnOk P w K mg base CX0 1 A.a__law_limit D.d__law_limit [] sp__law_limit := by
  refine T.F__law_limit.ok sc__law_limit (fun vs H Q E h => ?_) (fun cdv Ar outer s H vs Q E hr h => ?_)
  · obtain ⟨rfl, _⟩ := h
    rfl
  · obtain ⟨rfl, k⟩ := h
    refine ⟨_,
      (pss_one (ps_ret (pe_op op_powA (pe_op op_powA pe_int pe_int) pe_int))), ?_⟩
    walk_at "r"
    exact (show (10 ^ Int.toNat 50) ^ Int.toNat 8 = LIM by unfold LIM; decide +kernel) ▸ k
end

def sp__law_dice (K : PySem.W.Frag) : Sp := fun vs H Q _ => ∃ (a : Addr) (ns : List Int) (k : Nat), vs = [.ref a, .int k] ∧ SqL K H a (ns.map V.int) ∧
  ∀ (p : Addr) (l s c : Int), H p = none → Q (.ref p) (upd H p (.lst [.int l, .int s, .int c]))
section
variable {P : Program} {w : World} {K : PySem.W.Frag} {mg : Str → Option Value} {base : Heap} {A : Ad} {D : Fd}
theorem ok__law_dice (T : Txt K mg A D) : FnOk P w K mg base CX0 1 A.a__law_dice D.d__law_dice ["_law_script", "_law_spot"] (sp__law_dice K) := by
  refine T.F__law_dice.ok sc__law_dice (fun vs H Q E h => ?_) (fun cdv Ar outer s H vs Q E hr h => ?_)
  · obtain ⟨a, ns, m, rfl, _⟩ := h
    rfl
  · obtain ⟨a, ns, m, rfl, hS, k⟩ := h
    refine ⟨_,
      (pss_cons (ps_set (i := 2) sc__law_dice.nd rfl (.inl rfl) (pe_ifExp (pt_cmpR op_lt (pv 1) (pe_callB call_lenA (by rfl) T.z_len (by decide +kernel) (pa_cons (pv 0) pa_nil)) (nomark _)) (pe_callTy call_int1 (by rfl) T.z_int (by decide +kernel) (pa_cons (pe_ix ix_list (pv 0) (pv 1) (fun _ _ => rfl)) pa_nil)) (pe_op op_add (pe_op op_mulA pe_int (pv 1)) pe_int)))
        (pss_cons (ps_set (i := 3) sc__law_dice.nd rfl (.inl rfl) (pe_op op_mod (pe_callB (call_max2 rfl) (by rfl) T.z_max (by decide +kernel) (pa_cons pe_int (pa_cons (pe_op op_sub (pe_callB call_abs (by rfl) T.z_abs (by decide +kernel) (pa_cons (pv 2) pa_nil)) (pe_op op_powA pe_int pe_int)) pa_nil))) (pe_op op_mulA (pe_op op_powA pe_int pe_int) (pe_op op_powA pe_int pe_int))))
        (pss_one (ps_ret (pe_lst (pa_cons (pv 3) (pa_cons (pe_op op_add (pe_op op_add (pe_op op_add (pe_op op_mulA (pe_op op_mod (pe_callB call_abs (by rfl) T.z_abs (by decide +kernel) (pa_cons (pv 2) pa_nil)) pe_int) pe_int) (pe_op op_mulA pe_int (pv 1))) (pe_op op_mulA pe_int (pe_callTy call_int1 (by rfl) T.z_int (by decide +kernel) (pa_cons (pe_cmpR op_lt (pv 2) pe_int (nomark _)) pa_nil)))) pe_int) (pa_cons pe_int pa_nil)))))))), ?_⟩
    walk_at "r"
    refine ite2 (fun h => ?_) (fun h => ?_)
    · have hm : m < ns.length := by
        have z := of_decide_eq_true h
        rw [List.length_map] at z
        omega
      have ha : atI (ns.map V.int) (m : Int) = some (.int ns[m]) := atI_nat (by simp [hm])
      walk_at "r"
      exact ⟨by walk_at "len", fun p hp => k p _ _ _ hp⟩
    · walk_at "r"
      exact ⟨by walk_at "len", fun p hp => k p _ _ _ hp⟩
end

def sp__law_part : Sp := fun vs H Q _ => ∃ (d : Addr), vs = [.ref d] ∧ DiceAt H d ∧ ∀ (n : Int) (H' : Hp), isI (.int n) = true → Went d H H' → Q (.int n) H'
theorem isI_of {n : Int} (h1 : -LIM < n) (h2 : n < LIM) : isI (.int n) = true := by
  show (decide (-LIM < n) && decide (n < LIM)) = true
  rw [decide_eq_true h1, decide_eq_true h2]; rfl
theorem of_isI {n : Int} (h : isI (.int n) = true) : -LIM < n ∧ n < LIM := by
  have h' : (decide (-LIM < n) && decide (n < LIM)) = true := h
  rw [Bool.and_eq_true] at h'
  exact ⟨of_decide_eq_true h'.1, of_decide_eq_true h'.2⟩
theorem lim_big : (10 : Int) ^ 60 < LIM := by unfold LIM; decide +kernel
section
variable {P : Program} {w : World} {K : PySem.W.Frag} {mg : Str → Option Value} {base : Heap} {A : Ad} {D : Fd}
theorem ok__law_part (T : Txt K mg A D) : FnOk P w K mg base CX0 3 A.a__law_part D.d__law_part ["_law_dice_here"] sp__law_part := by
  have G__law_roll := ok__law_roll (P := P) (w := w) (base := base) T
  have G__law_pick := ok__law_pick (P := P) (w := w) (base := base) T
  have G__law_limit := ok__law_limit (P := P) (w := w) (base := base) T
  refine T.F__law_part.ok sc__law_part (fun vs H Q E h => ?_) (fun cdv Ar outer s H vs Q E hr h => ?_)
  · obtain ⟨d, rfl, _⟩ := h
    rfl
  · obtain ⟨d, rfl, hd, k⟩ := h
    have lb := lim_big
    refine ⟨_,
      (pss_cons (ps_set (i := 1) sc__law_part.nd rfl (.inl rfl) (pe_op op_sub (pe_op op_sub (pe_call0 G__law_limit (hr.mono (by decide)) (by rfl) T.g__law_limit T.F__law_limit.kp T.b__law_limit .nil pass0) pe_int) (pe_call G__law_roll (hr.mono (by decide)) (by rfl) T.g__law_roll T.F__law_roll.kp T.b__law_roll .nil pass0 (pa_cons (pv 0) (pa_cons (pe_op op_powA pe_int pe_int) pa_nil)))))
        (pss_cons (ps_set (i := 2) sc__law_part.nd rfl (.inl rfl) (pe_lst (pa_cons (pe_call G__law_roll (hr.mono (by decide)) (by rfl) T.g__law_roll T.F__law_roll.kp T.b__law_roll .nil pass0 (pa_cons (pv 0) (pa_cons pe_int pa_nil))) (pa_cons (pe_call G__law_roll (hr.mono (by decide)) (by rfl) T.g__law_roll T.F__law_roll.kp T.b__law_roll .nil pass0 (pa_cons (pv 0) (pa_cons pe_int pa_nil))) (pa_cons (pe_call G__law_roll (hr.mono (by decide)) (by rfl) T.g__law_roll T.F__law_roll.kp T.b__law_roll .nil pass0 (pa_cons (pv 0) (pa_cons (pe_op op_powA pe_int pe_int) pa_nil))) (pa_cons (pv 1) pa_nil))))))
        (pss_cons (ps_set (i := 3) sc__law_part.nd rfl (.inl rfl) (pe_ix ix_list (pv 2) (pe_call G__law_pick (hr.mono (by decide)) (by rfl) T.g__law_pick T.F__law_pick.kp T.b__law_pick .nil pass0 (pa_cons (pv 0) (pa_cons (pe_lst (pa_cons pe_int (pa_cons pe_int (pa_cons pe_int (pa_cons pe_int (pa_cons pe_int (pa_cons pe_int (pa_cons pe_int pa_nil)))))))) pa_nil))) (fun _ _ => rfl)))
        (pss_one (ps_ret (pe_ifExp (pt_cmpR op_eq (pe_call G__law_roll (hr.mono (by decide)) (by rfl) T.g__law_roll T.F__law_roll.kp T.b__law_roll .nil pass0 (pa_cons (pv 0) (pa_cons pe_int pa_nil))) pe_int (nomark _)) (pe_op op_sub pe_int (pv 3)) (pv 3))))))), ?_⟩
    walk_at "r"
    refine ⟨rfl, ?_⟩
    walk_at "r"
    refine ⟨d, _, rfl, hd, by decide, by decide, fun r1 H1 a1 b1 w1 => ?_⟩
    walk_at "r"
    refine ⟨d, _, rfl, w1.dice, by decide, by decide, fun r2 H2 a2 b2 w2 => ?_⟩
    walk_at "r"
    refine ⟨d, _, rfl, w2.dice, by decide, by decide, fun r3 H3 a3 b3 w3 => ?_⟩
    walk_at "r"
    refine ⟨d, _, rfl, w3.dice, by decide, by decide, fun r4 H4 a4 b4 w4 => ?_⟩
    walk_at "r"
    have b1' : r1 < 10 ^ 20 := b1
    have b4' : r4 < 10 ^ 30 := b4
    have W4 := ((w1.trans w2).trans w3).trans w4
    refine r_newL (by walk_at "len") fun p5 H5 n5 s5 e5 => ?_
    walk_at "r"
    refine r_newL (by walk_at "len") fun p6 H6 n6 s6 e6 => ?_
    walk_at "r"
    have W6 := (W4.same s5).same s6
    have nd6 := (W4.same s5).dice.ne n6
    have nd5 := W4.dice.ne n5
    refine ⟨d, p6, _, rfl, W6.dice, nd6, e6, by simp, by simp, fun v H7 hv w7 => ?_⟩
    have e7 := w7.keep _ _ nd5 (s6 _ _ e5)
    have W7 := W6.trans w7
    have main : ∀ i : Int, isI (.int i) = true → Q (.int i) H7 → True := fun _ _ _ => trivial
    have fin : ∀ (i : Int), (-LIM < i ∧ i < LIM) → ∃ b : Bool, b = isI (.int i) ∧ b = true := fun i h => ⟨_, rfl, isI_of h.1 h.2⟩
    obtain ⟨j, i, rfl, hj, hi⟩ : ∃ (j i : Int), v = .int j ∧ atI [V.int r2, V.int r3, V.int r4, V.int (LIM - 1 - r1)] j = some (.int i) ∧ (-LIM < i ∧ i < LIM) ∧ (-LIM < -i ∧ -i < LIM) := by
      simp only [List.mem_cons, List.not_mem_nil, or_false] at hv
      rcases hv with h | h | h | h | h | h | h <;> subst h
      · exact ⟨_, _, rfl, at_0, by omega⟩
      · exact ⟨_, _, rfl, at_0, by omega⟩
      · exact ⟨_, _, rfl, at_0, by omega⟩
      · exact ⟨_, _, rfl, at_1, by omega⟩
      · exact ⟨_, _, rfl, at_1, by omega⟩
      · exact ⟨_, _, rfl, at_2, by omega⟩
      · exact ⟨_, _, rfl, at_3, by omega⟩
    walk_at "r"
    refine ⟨d, _, rfl, w7.dice, by decide, by decide, fun r8 H8 a8 b8 w8 => ?_⟩
    walk_at "r"
    refine r_it2 (fun h => ?_) (fun h => ?_)
    · walk_at "r"
      refine k _ _ (isI_of ?_ ?_) (W7.trans w8)
      · omega
      · omega
    · walk_at "r"
      exact k _ _ (isI_of hi.1.1 hi.1.2) (W7.trans w8)
end

def sp__law_mixed : Sp := fun vs H Q _ => ∃ (d q : Addr) (xs : List V), vs = [.ref d, .ref q] ∧ DiceAt H d ∧ q ≠ d ∧ H q = some (.lst xs) ∧ xs.length ≤ 1000 ∧
  ∀ (p : Addr) (ys : List V) (H' : Hp), H p = none → H' p = some (.lst ys) → ys.length = xs.length → (∀ y ∈ ys, y ∈ xs) → Went d H H' → Q (.ref p) H'
section
variable {P : Program} {w : World} {K : PySem.W.Frag} {mg : Str → Option Value} {base : Heap} {A : Ad} {D : Fd}
theorem ok__law_mixed (T : Txt K mg A D) : FnOk P w K mg base CX0 2 A.a__law_mixed D.d__law_mixed ["_law_dice_here", "_law_items"] sp__law_mixed := by
  have G__law_roll := ok__law_roll (P := P) (w := w) (base := base) T
  refine T.F__law_mixed.ok sc__law_mixed (fun vs H Q E h => ?_) (fun cdv Ar outer s H vs Q E hr h => ?_)
  · obtain ⟨d, q, xs, rfl, _⟩ := h
    rfl
  · obtain ⟨d, q, xs, rfl, hd, hn, hq, hm, k⟩ := h
    refine ⟨_,
      (pss_cons (ps_par (i := 2) (j := 3) (by rfl) sc__law_mixed.nd rfl rfl (by decide) rfl rfl (pa_cons (pe_callTy call_list_of (by rfl) T.z_list (by decide +kernel) (pa_cons (pv 1) pa_nil)) (pa_cons (pe_lst pa_nil) pa_nil)) (by rfl))
        (pss_cons (ps_for PassesOwn.never rfl (pi_range1 (by rfl) T.z_range (pa_cons (pe_callB call_lenA (by rfl) T.z_len (by decide +kernel) (pa_cons (pv 1) pa_nil)) pa_nil)) (pg_name (i := 4) sc__law_mixed.nd rfl (.inl rfl))
        (pss_one (ps_expr (pe_bm PySem.F.plainAttrs_list PySem.F.slot_list_append PySem.F.type_list_append mt_append (pv 3) (pa_cons (pe_bm PySem.F.plainAttrs_list PySem.F.slot_list_pop PySem.F.type_list_pop mt_popAt (pv 2) (pa_cons (pe_call G__law_roll (hr.mono (by decide)) (by rfl) T.g__law_roll T.F__law_roll.kp T.b__law_roll .nil pass0 (pa_cons (pv 0) (pa_cons (pe_callB call_lenA (by rfl) T.z_len (by decide +kernel) (pa_cons (pv 2) pa_nil)) pa_nil))) pa_nil)) pa_nil)))))
        (pss_one (ps_ret (pv 3))))), ?_⟩
    walk_at "r"
    refine ⟨q, xs, rfl, .inl (SqL.of hq), fun L nL => ?_⟩
    have sL : Same H (upd H L (.lst xs)) := newS nL
    have eL : (upd H L (.lst xs)) L = some (.lst xs) := upd_same
    generalize upd H L (.lst xs) = H1 at sL eL
    walk_at "r"
    refine r_newL (by walk_at "len") fun F H2 nF sF eF => ?_
    have W2 := ((Went.refl hd).same sL).same sF
    have eL2 := sF _ _ eL
    have hq2 := sF _ _ (sL _ _ hq)
    have ndL := hd.ne nL
    have nF' := sL.free nF
    have ndF := hd.ne nF'
    have nLF : L ≠ F := ne_of_none eL nF
    walk_at "r"
    refine fk_rng (fun i σ H' => ∃ x4 left found, σ = [some (.ref d), some (.ref q), some (.ref L), some (.ref F), x4] ∧ H' L = some (.lst left) ∧ H' F = some (.lst found) ∧ left.length + i = xs.length ∧ found.length = i ∧ (∀ y ∈ left, y ∈ xs) ∧ (∀ y ∈ found, y ∈ xs) ∧ Went d H H')
      ⟨_, _, _, rfl, eL2, eF, rfl, rfl, fun y h => h, (fun y h => by cases h), W2⟩ ?_ ?_
    · rintro i σ H3 hi ⟨x4, left, found, rfl, e1, e2, l1, l2, m1, m2, W3⟩
      have hi' : i < xs.length := by omega
      walk_at "r"
      refine ⟨d, _, rfl, W3.dice, by omega, by omega, fun r H4 r0 r1 w4 => ?_⟩
      have e1' := w4.keep _ _ ndL e1
      have e2' := w4.keep _ _ ndF e2
      walk_at "r"
      refine r_popAt e1' r0 r1 (by omega) fun y kk hy => ?_
      have hk := (List.getElem?_eq_some_iff.mp hy).1
      have e2'' : (upd H4 L (.lst (left.eraseIdx kk))) F = some (.lst found) := (upd_ne nLF.symm).trans e2'
      walk_at "r"
      refine ⟨_, _, _, rfl, (upd_ne nLF).trans upd_same, upd_same, ?_, ?_, fun z hz => ?_, fun z hz => ?_, ?_⟩
      · rw [List.length_eraseIdx_of_lt hk]
        omega
      · rw [List.length_append, l2]
        rfl
      · exact m1 z (List.mem_of_mem_eraseIdx hz)
      · rcases List.mem_append.mp hz with h | h
        · exact m2 z h
        · rw [List.mem_singleton.mp h]
          exact m1 y (List.mem_of_getElem? hy)
      · exact ((W3.trans w4).mut nL ndL).mut nF' ndF
    · rintro σ H3 ⟨x4, left, found, rfl, e1, e2, l1, l2, m1, m2, W3⟩
      walk_at "r"
      exact k F found H3 nF' e2 l2 m2 W3
end

end Law

set_option Elab.async false
set_option maxRecDepth 100000
set_option maxHeartbeats 4000000
set_option linter.all false
namespace Law
open PySem L2 Gl
local macro_rules | `(tactic| walk_at "lk") => `(tactic| first
  | exact upd_same
  | assumption
  | exact (upd_ne (by walk_at "ne")).trans (by walk_at "lk"))
local macro_rules | `(tactic| walk_at "ne") => `(tactic| first
  | assumption
  | exact Ne.symm (by assumption)
  | exact ne_of_none (by assumption) (by assumption)
  | exact (ne_of_none (by assumption) (by assumption)).symm)
local macro_rules | `(tactic| walk_at "sq") => `(tactic| first
  | assumption
  | exact SqL.of (by walk_at "lk")
  | exact SqT.of (by walk_at "lk"))
local macro_rules | `(tactic| walk_at "at") => `(tactic| first
  | exact at_0
  | exact at_1
  | exact at_2
  | exact at_3
  | exact ix_0
  | exact ix_1
  | exact ix_2
  | exact rfl
  | assumption)
local macro_rules | `(tactic| walk_at "len") => `(tactic| first
  | (simp only [List.length_cons, List.length_nil]; decide)
  | (refine Nat.le_trans (?_ : _ ≤ 1000) (by decide); first | assumption | omega | (simp; omega)))
local macro_rules | `(tactic| walk_at "lenlt") => `(tactic| first
  | (refine Nat.lt_of_le_of_lt (?_ : _ ≤ 100000) (by decide); first | assumption | omega | (simp only [List.length_cons, List.length_nil, List.length_append]; omega) | (simp; omega)))
local macro_rules | `(tactic| walk_at "kd") => `(tactic| first
  | assumption
  | exact Knd.non
  | exact Knd.bl _
  | exact Knd.int _
  | exact Knd.str _
  | exact Knd.tup (by walk_at "sq")
  | exact Knd.lst (by walk_at "sq")
  | exact Knd.dK (by walk_at "lk"))
local macro_rules | `(tactic| walk_at "om") => `(tactic| first | omega | decide | decide +kernel)
local macro_rules | `(tactic| walk_at "side") => `(tactic| first
  | assumption
  | (with_reducible refine Gl.cdiv ?_ ?_ <;> first | omega | decide +kernel)
  | (with_reducible refine Gl.cmulL ?_ ?_ <;> first | omega | decide +kernel)
  | (with_reducible refine Gl.cmulR ?_ ?_ <;> first | omega | decide +kernel)
  | (refine Nat.le_trans (?_ : _ ≤ 1000) (by decide); first | assumption | omega | (simp only [List.length_cons, List.length_nil]; omega))
  | (show (0 : Int) < _; omega)
  | (show (0 : Int) < _; decide +kernel)
  | (exact Or.inr (by unfold CMulW; decide +kernel))
  | (exact ⟨by decide, by decide +kernel⟩))
local macro_rules | `(tactic| walk_at "r1") => `(tactic| first
  | ((with_reducible refine' Gl.r_var ?hv ?_); (case hv => exact rfl))
  | (with_reducible refine Gl.r_c ?_)
  | (with_reducible refine Gl.r_op ?_)
  | (with_reducible refine Gl.r_i0 ?_)
  | ((with_reducible refine Gl.r_i ?hc ?_); (case hc => walk_at "side"))
  | (with_reducible refine Gl.r_cons ?_)
  | (with_reducible refine Gl.r_nil ?_)
  | (with_reducible refine Gl.r_call ?_)
  | (with_reducible refine Gl.r_cb ?_)
  | (with_reducible refine Gl.r_seq ?_)
  | (with_reducible refine Gl.r_asg ?_)
  | (with_reducible refine Gl.r_gname ?_)
  | (with_reducible refine Gl.r_ret ?_)
  | (with_reducible refine Gl.r_if ?_)
  | (with_reducible refine Gl.r_test ?_)
  | (with_reducible refine Gl.r_bl ?_)
  | (with_reducible refine Gl.r_B ?_)
  | ((with_reducible refine Gl.r_eq ?hc ?_); (case hc => exact rfl))
  | ((with_reducible refine Gl.r_ne ?hc ?_); (case hc => exact rfl))
  | ((with_reducible refine' Gl.r_ixL ?hs ?hi ?_); (case hs => walk_at "sq"); (case hi => walk_at "at"))
  | ((with_reducible refine' Gl.r_ixT ?hs ?hi ?_); (case hs => walk_at "sq"); (case hi => walk_at "at"))
  | (with_reducible refine Gl.r_un ?_)
  | (with_reducible refine Gl.r_u ?_)
  | (with_reducible refine Gl.r_notV ?_)
  | (with_reducible refine Gl.r_ifE ?_)
  | (with_reducible refine Gl.r_chain ?_)
  | (with_reducible refine Gl.r_and ?_)
  | (with_reducible refine Gl.r_or ?_)
  | (with_reducible refine Gl.r_not ?_)
  | (with_reducible refine Gl.r_par ?_)
  | (with_reducible refine Gl.r_next ?_)
  | (with_reducible refine Gl.r_brk ?_)
  | (with_reducible refine Gl.r_cont ?_)
  | (with_reducible refine Gl.r_drop ?_)
  | (with_reducible refine Gl.r_retN ?_)
  | (with_reducible refine Gl.r_gsub ?_)
  | ((with_reducible refine' Gl.r_setL ?hs ?hi ?_); (case hs => walk_at "lk"); (case hi => walk_at "at"))
  | (with_reducible refine Gl.r_gnil ?_)
  | (with_reducible refine Gl.r_gcons ?_)
  | ((with_reducible refine' Gl.r_gtup ?hs ?hi ?_); (case hs => walk_at "sq"); (case hi => walk_at "at"))
  | (with_reducible refine Gl.r_tup ?_)
  | (with_reducible refine Gl.r_lst ?_)
  | (with_reducible refine Gl.r_bm ?_)
  | (with_reducible refine Gl.r_bm0 ?_)
  | (with_reducible refine Gl.r_yes ?_)
  | ((with_reducible refine Gl.r_wipe ?hs ?_); (case hs => exact rfl))
  | ((with_reducible refine' Gl.r_tyL ?hs ?_); (case hs => walk_at "sq"))
  | ((with_reducible refine' Gl.r_app ?hs ?hi ?_); (case hs => walk_at "lk"); (case hi => walk_at "lenlt"))
  | (with_reducible refine Gl.r_isB ?_)
  | (with_reducible refine Gl.r_notB ?_)
  | (with_reducible refine Gl.r_sl ?_)
  | (with_reducible refine Gl.r_noPart ?_)
  | (with_reducible refine Gl.r_part ?_)
  | (with_reducible refine Gl.r_partK ?_)
  | (with_reducible refine Gl.r_enum ?_)
  | ((with_reducible refine' Gl.r_enk ?hs ?_); (case hs => walk_at "sq"))
  | (with_reducible refine Gl.r_for ?_)
  | (with_reducible refine Gl.r_lc ?_)
  | (with_reducible refine Gl.r_rng1 ?_)
  | ((with_reducible refine Gl.r_rng1k ?hs ?hi ?_); (case hs => walk_at "om"); (case hi => walk_at "om"))
  | (with_reducible refine Gl.r_rng2 ?_)
  | ((with_reducible refine Gl.r_rng2k ?hs ?hi ?hs2 ?hi2 ?_); (case hs => walk_at "om"); (case hi => walk_at "om"); (case hs2 => walk_at "om"); (case hi2 => walk_at "om"))
  | (with_reducible refine Gl.r_iList ?_)
  | (with_reducible refine Gl.r_iTup ?_)
  | (with_reducible refine Gl.r_iStr ?_)
  | (with_reducible refine Gl.r_iSk ?_)
  | ((with_reducible refine' Gl.r_iLk ?hs ?_); (case hs => walk_at "sq"))
  | ((with_reducible refine' Gl.r_iTk ?hs ?_); (case hs => walk_at "sq"))
  | ((with_reducible refine' Gl.r_lenL ?hs ?_); (case hs => walk_at "sq"))
  | ((with_reducible refine' Gl.r_lenT ?hs ?_); (case hs => walk_at "sq"))
  | ((with_reducible refine' Gl.r_lenS ?hs ?_); (case hs => walk_at "side"))
  | ((with_reducible refine' Gl.r_isiT ?hs ?hi ?hj ?_); (case hs => walk_at "kd"); (case hi => decide); (case hj => decide))
  | ((with_reducible refine' Gl.r_isiF ?hs ?hi ?hj ?_); (case hs => walk_at "kd"); (case hi => decide); (case hj => decide))
  | (with_reducible refine iteT ?_)
  | (with_reducible refine iteF ?_)
  | (with_reducible refine Gl.iteNF ?_)
  | (with_reducible refine Gl.iteNT ?_)
  | (with_reducible refine Gl.e_oi ?_)
  | (with_reducible refine Gl.e_ob ?_)
  | (with_reducible refine Gl.e_i ?_)
  | (with_reducible refine Gl.e_b ?_)
  | (with_reducible refine Gl.e_s ?_)
  | (with_reducible refine Gl.e_ii ?_)
  | (with_reducible refine Gl.e_vv ?_)
  | (with_reducible refine Gl.e_vvv ?_)
  | (with_reducible refine Gl.e_cs ?_)
  | (with_reducible refine Gl.e_ss ?_))
local macro_rules | `(tactic| walk_at "r") => `(tactic| repeat (walk_at "r1"))
local macro_rules | `(tactic| walk_at "ra") => `(tactic| repeat (first
  | (walk_at "r1")
  | (with_reducible refine Gl.r_andV ?_)
  | (with_reducible refine Gl.r_orV ?_)))
local macro_rules | `(tactic| walk_at "dp") => `(tactic| first
  | exact Dp.non
  | exact Dp.bl _
  | exact Dp.int _
  | exact Dp.str _
  | assumption
  | exact Dp.lst (by walk_at "sq") (by walk_at "dpa")
  | exact Dp.tup (by walk_at "sq") (by walk_at "dpa"))
local macro_rules | `(tactic| walk_at "dpa") => `(tactic| first
  | exact DpAll.nil
  | assumption
  | exact DpAll.cons (by walk_at "dp") (by walk_at "dpa"))

theorem Went.knd {K : PySem.W.Frag} {d : Addr} {H H1 : Hp} {v : V} {n : String} (w : Went d H H1) (nd : v ≠ .ref d) (h : Knd K H v n) : Knd K H1 v n := by
  have ne : ∀ {a : Addr}, V.ref a ≠ V.ref d → a ≠ d := fun h e => h (by rw [e])
  cases h with
  | non => exact .non
  | bl b => exact .bl b
  | int i => exact .int i
  | str x => exact .str x
  | lst e => exact .lst (w.sqL (ne nd) e)
  | tup e =>
    rcases e with (e | ⟨o, e⟩) | e
    · exact .tup (.inl (.inl (w.keep _ _ (ne nd) e)))
    · exact .tup (.inl (.inr ⟨o, w.keep _ _ (ne nd) e⟩))
    · exact .tup (.inr e)
  | dK e => exact .dK (w.keep _ _ (ne nd) e)
theorem r_reprB4 {K : PySem.W.Frag} {H : Hp} {p : Addr} {Q : VK} {b1 b2 b3 b4 : Bool} (hs : SqL K H p [.bl b1, .bl b2, .bl b3, .bl b4]) (h : Q (.str (PyData.list [.bool b1, .bool b2, .bool b3, .bool b4]).shown) H) : rReprD K [.ref p] H Q :=
  r_repr _ (.lst hs (.cons (.bl b1) (.cons (.bl b2) (.cons (.bl b3) (.cons (.bl b4) .nil))))) rfl rfl (by show 1 ≤ 30; decide) (by cases b1 <;> cases b2 <;> cases b3 <;> cases b4 <;> decide +kernel) h
theorem lim_pos : -LIM < 0 ∧ (0 : Int) < LIM := by unfold LIM; decide +kernel
theorem len4 {xs : List Int} (h : xs.length = 4) : ∃ a b c d, xs = [a, b, c, d] := by
  match xs, h with
  | [a, b, c, d], _ => exact ⟨a, b, c, d, rfl⟩
theorem isInt4 {x : V} {a b c d : Int} (h : x ∈ [V.int a, .int b, .int c, .int d]) : ∃ y, x = .int y := by
  simp only [List.mem_cons, List.not_mem_nil, or_false] at h
  rcases h with h | h | h | h <;> exact ⟨_, h⟩
def geB : V → V
  | .int i => .bl (decide (0 ≤ i))
  | _ => .bl false
/-- one of the parts: a kind, and whether it is an integer -/
structure Part (K : PySem.W.Frag) (H : Hp) (v : V) (b : Bool) : Prop where
  knd : ∃ n, Knd K H v n
  is : isI v = b
theorem Part.same {K : PySem.W.Frag} {H H' : Hp} {v : V} {b : Bool} (s : Same H H') (p : Part K H v b) : Part K H' v b := ⟨let ⟨n, k⟩ := p.knd; ⟨n, k.same s⟩, p.is⟩
theorem Part.went {K : PySem.W.Frag} {d : Addr} {H H' : Hp} {v : V} {b : Bool} (w : Went d H H') (nd : v ≠ .ref d) (p : Part K H v b) : Part K H' v b := ⟨let ⟨n, k⟩ := p.knd; ⟨n, w.knd nd k⟩, p.is⟩
def sp_law (K : PySem.W.Frag) : Sp := fun vs H Q _ => ∃ (a : Addr) (ns : List Int), vs = [.ref a] ∧ SqL K H a (ns.map V.int) ∧ ns.length ≤ 63 ∧ ∀ H', Q (.bl true) H'
section
variable {P : Program} {w : World} {K : PySem.W.Frag} {mg : Str → Option Value} {base : Heap} {A : Ad} {D : Fd}
theorem ok_law (T : Txt K mg A D) : FnG P w K mg base CX0 9 A.a_law D.d_law ["_law_script"] (sp_law K) := by
  have G__law_dice := ok__law_dice (P := P) (w := w) (base := base) T
  have G__law_part := ok__law_part (P := P) (w := w) (base := base) T
  have G__law_mixed := ok__law_mixed (P := P) (w := w) (base := base) T
  have G__law_limit := ok__law_limit (P := P) (w := w) (base := base) T
  have G_is_integer := ok_is_integer (P := P) (w := w) (base := base) T
  have G_is_count := ok_is_count (P := P) (w := w) (base := base) T
  have G_is_point := ok_is_point (P := P) (w := w) (base := base) T
  refine okG T.F_law sc_law (fun vs H Q E h => ?_) (fun cdv Ar outer s H vs Q E hG hr h => ?_)
  · obtain ⟨a, ns, rfl, _⟩ := h
    rfl
  · obtain ⟨a, ns, rfl, hS, hl, k⟩ := h
    refine ⟨_,
      (pss_cons (ps_for PassesOwn.never rfl (pi_range1 (by rfl) T.z_range (pa_cons (pe_callB (call_max2 rfl) (by rfl) T.z_max (by decide +kernel) (pa_cons pe_int (pa_cons (pe_callB (call_min2 rfl) (by rfl) T.z_min (by decide +kernel) (pa_cons pe_int (pa_cons (pe_callB call_lenA (by rfl) T.z_len (by decide +kernel) (pa_cons (pv 0) pa_nil)) pa_nil))) pa_nil))) pa_nil)) (pg_name (i := 1) sc_law.nd rfl (.inl rfl))
        (pss_cons (ps_set (i := 2) sc_law.nd rfl (.inr rfl) (pe_call G__law_dice (hr.mono (by decide)) (by rfl) T.g__law_dice T.F__law_dice.kp T.b__law_dice .nil pass0 (pa_cons (pv 0) (pa_cons (pv 1) pa_nil))))
        (pss_cons (ps_set (i := 3) sc_law.nd rfl (.inl rfl) (pe_lst (pa_cons pe_non (pa_cons pe_bl (pa_cons pe_bl (pa_cons pe_str (pa_cons (pe_tup pa_nil) (pa_cons (pe_tup (pa_cons pe_int pa_nil)) (pa_cons (pe_lst pa_nil) (pa_cons (pe_call0 G__law_limit (hr.mono (by decide)) (by rfl) T.g__law_limit T.F__law_limit.kp T.b__law_limit .nil pass0) (pa_cons (pe_op op_sub pe_int (pe_call0 G__law_limit (hr.mono (by decide)) (by rfl) T.g__law_limit T.F__law_limit.kp T.b__law_limit .nil pass0)) (pa_cons pe_str (pa_cons pe_dnewK (pa_cons (pe_tup (pa_cons pe_int (pa_cons pe_int pa_nil))) pa_nil))))))))))))))
        (pss_cons (ps_set (i := 4) sc_law.nd rfl (.inl rfl) (pe_op op_cat (pe_lc (own := [("_law_turn", 11)]) (g := gName 11) (by rfl) sc_law.nd (pi_range1 (by rfl) T.z_range (pa_cons pe_int pa_nil)) (blkOk_by (own := [("_law_turn", 11)]) (N := ["_law_script", "_law_spot", "_law_dice_here", "_law_odd", "_law_parts", "_law_at", "_law_one", "_law_to", "_law_other", "_law_due", "_law_told", "_law_turn", "_law_part_here"]) (sc := defScope s_law) (by decide +kernel)) (fun _ _ _ _ _ => (pg_name (i := 11) sc_law.nd rfl (Or.inl rfl))) (fun _ _ _ _ _ => pts_nil) (fun _ _ _ _ _ => (pe_call G__law_part (hr.mono (by decide)) (by rfl) T.g__law_part T.F__law_part.kp T.b__law_part .nil pass0 (pa_cons (pv 2) pa_nil)))) (pe_slice sl_list (pe_call G__law_mixed (hr.mono (by decide)) (by rfl) T.g__law_mixed T.F__law_mixed.kp T.b__law_mixed .nil pass0 (pa_cons (pv 2) (pa_cons (pv 3) pa_nil))) po_none (po_some pe_int))))
        (pss_cons (ps_for PassesOwn.never rfl (pi_enum (by rfl) T.z_enumerate (pa_cons (pv 4) pa_nil)) (pg_tup (by rfl) (pgs_cons (pg_name (i := 5) sc_law.nd rfl (.inl rfl)) (pgs_cons (pg_name (i := 6) sc_law.nd rfl (.inl rfl)) pgs_nil)))
        (pss_one (ps_for PassesOwn.never rfl (pi_enum (by rfl) T.z_enumerate (pa_cons (pv 4) pa_nil)) (pg_tup (by rfl) (pgs_cons (pg_name (i := 7) sc_law.nd rfl (.inl rfl)) (pgs_cons (pg_name (i := 8) sc_law.nd rfl (.inl rfl)) pgs_nil)))
        (pss_cons (ps_set (i := 9) sc_law.nd rfl (.inl rfl) (pe_and (pe_cmpR op_lt (pv 5) pe_int (nomark _)) (pe_one (pe_cmpR op_lt (pv 7) pe_int (nomark _)))))
        (pss_cons (ps_set (i := 10) sc_law.nd rfl (.inl rfl) (pe_lst (pa_cons (pe_call G_is_point (hr.mono (by decide)) (by rfl) T.g_is_point T.F_is_point.kp T.b_is_point .nil pass0 (pa_cons (pe_tup (pa_cons (pv 6) (pa_cons (pv 8) pa_nil))) pa_nil)) (pa_cons (pe_call G_is_point (hr.mono (by decide)) (by rfl) T.g_is_point T.F_is_point.kp T.b_is_point .nil pass0 (pa_cons (pe_tup (pa_cons (pv 8) (pa_cons (pv 6) pa_nil))) pa_nil)) (pa_cons (pe_call G_is_point (hr.mono (by decide)) (by rfl) T.g_is_point T.F_is_point.kp T.b_is_point .nil pass0 (pa_cons (pe_lst (pa_cons (pv 6) (pa_cons (pv 8) pa_nil))) pa_nil)) pa_nil)))))
        (pss_cons (ps_expr (pe_bm PySem.F.plainAttrs_list PySem.F.slot_list_append PySem.F.type_list_append mt_append (pv 10) (pa_cons (pe_call G_is_point (hr.mono (by decide)) (by rfl) T.g_is_point T.F_is_point.kp T.b_is_point .nil pass0 (pa_cons (pe_tup (pa_cons (pv 6) (pa_cons (pv 8) (pa_cons (pv 6) pa_nil)))) pa_nil)) pa_nil)))
        (pss_one (ps_if (PW.pt (pw_or (pt_cmpR op_ne (pe_callB (call_reprD hr hG) (by rfl) T.z_repr (by decide +kernel) (pa_cons (pv 10) pa_nil)) (pe_callB (call_reprD hr hG) (by rfl) T.z_repr (by decide +kernel) (pa_cons (pe_lst (pa_cons (pv 9) (pa_cons (pv 9) (pa_cons pe_bl (pa_cons pe_bl pa_nil))))) pa_nil)) (nomark _)) (pw_or1 (pt_cmpR op_ne (pe_call G_is_integer (hr.mono (by decide)) (by rfl) T.g_is_integer T.F_is_integer.kp T.b_is_integer .nil pass0 (pa_cons (pv 6) pa_nil)) (pe_call G_is_point (hr.mono (by decide)) (by rfl) T.g_is_point T.F_is_point.kp T.b_is_point .nil pass0 (pa_cons (pe_tup (pa_cons (pv 6) (pa_cons pe_int pa_nil))) pa_nil)) (nomark _)))))
        (pss_one (ps_ret pe_bl))
        pss_nil))))))))
        (pss_cons (ps_if (pt_cmpR (op_neD hr.units) (pe_lst (pa_cons (pe_call G_is_point (hr.mono (by decide)) (by rfl) T.g_is_point T.F_is_point.kp T.b_is_point .nil pass0 (pa_cons (pe_tup (pa_cons (pe_ix ix_list (pv 4) pe_int (fun _ _ => rfl)) pa_nil)) pa_nil)) (pa_cons (pe_call G_is_point (hr.mono (by decide)) (by rfl) T.g_is_point T.F_is_point.kp T.b_is_point .nil pass0 (pa_cons (pe_ix ix_list (pv 4) pe_int (fun _ _ => rfl)) pa_nil)) (pa_cons (pe_call G_is_point (hr.mono (by decide)) (by rfl) T.g_is_point T.F_is_point.kp T.b_is_point .nil pass0 (pa_cons (pe_disp (pps_cons pe_int pe_int (pps_cons pe_int pe_int pps_nil)) (by rfl) (by rfl) (fun z => by cases z) (by decide)) pa_nil)) pa_nil)))) (pe_op op_rep (pe_lst (pa_cons pe_bl pa_nil)) pe_int) (nomark _))
        (pss_one (ps_ret pe_bl))
        pss_nil)
        (pss_one (ps_if (pt_cmpR (op_neD hr.units) (pe_lc (own := [("_law_part_here", 12)]) (g := gName 12) (by rfl) sc_law.nd (pi_list (pe_slice sl_list (pv 4) po_none (po_some pe_int))) (blkOk_by (own := [("_law_part_here", 12)]) (N := ["_law_script", "_law_spot", "_law_dice_here", "_law_odd", "_law_parts", "_law_at", "_law_one", "_law_to", "_law_other", "_law_due", "_law_told", "_law_turn", "_law_part_here"]) (sc := defScope s_law) (by decide +kernel)) (fun _ _ _ _ _ => (pg_name (i := 12) sc_law.nd rfl (Or.inl rfl))) (fun _ _ _ _ _ => pts_nil) (fun _ _ _ _ _ => (pe_call G_is_count (hr.mono (by decide)) (by rfl) T.g_is_count T.F_is_count.kp T.b_is_count .nil pass0 (pa_cons (pv 12) pa_nil)))) (pe_lc (own := [("_law_part_here", 12)]) (g := gName 12) (by rfl) sc_law.nd (pi_list (pe_slice sl_list (pv 4) po_none (po_some pe_int))) (blkOk_by (own := [("_law_part_here", 12)]) (N := ["_law_script", "_law_spot", "_law_dice_here", "_law_odd", "_law_parts", "_law_at", "_law_one", "_law_to", "_law_other", "_law_due", "_law_told", "_law_turn", "_law_part_here"]) (sc := defScope s_law) (by decide +kernel)) (fun _ _ _ _ _ => (pg_name (i := 12) sc_law.nd rfl (Or.inl rfl))) (fun _ _ _ _ _ => pts_nil) (fun _ _ _ _ _ => (pe_cmpR op_ge (pv 12) pe_int (nomark _)))) (nomark _))
        (pss_one (ps_ret pe_bl))
        pss_nil))))))))
        (pss_one (ps_ret (pe_and (pe_cmpR op_isBl (pe_call G_is_point (hr.mono (by decide)) (by rfl) T.g_is_point T.F_is_point.kp T.b_is_point .nil pass0 (pa_cons (pe_tup (pa_cons pe_int (pa_cons pe_int pa_nil))) pa_nil)) pe_bl (nomark _)) (pe_and (pe_cmpR op_isBl (pe_call G_is_point (hr.mono (by decide)) (by rfl) T.g_is_point T.F_is_point.kp T.b_is_point .nil pass0 (pa_cons (pe_tup pa_nil) pa_nil)) pe_bl (nomark _)) (pe_one (pe_cmpR op_isBl (pe_call G_is_point (hr.mono (by decide)) (by rfl) T.g_is_point T.F_is_point.kp T.b_is_point .nil pass0 (pa_cons pe_str pa_nil)) pe_bl (nomark _)))))))), ?_⟩
    walk_at "r"
    refine fk_rng (fun i σ H' => ∃ x1 x2 x3 x4 x5 x6 x7 x8 x9 x10 x11 x12, σ = [some (.ref a), x1, x2, x3, x4, x5, x6, x7, x8, x9, x10, x11, x12] ∧ Same H H') ⟨_, _, _, _, _, _, _, _, _, _, _, _, rfl, Same.refl H⟩ ?_ ?_
    · rintro i σ H1 hi ⟨x1, x2, x3, x4, x5, x6, x7, x8, x9, x10, x11, x12, rfl, sm⟩
      walk_at "r"
      refine ⟨a, ns, i, by rw [Int.zero_add]; rfl, sm.seq hS, fun d l s c hd => ?_⟩
      have B1 : Bs H d (upd H1 d (.lst [.int l, .int s, .int c])) := ⟨sm.trans (Same.new hd), sm.free hd, ⟨l, s, c, upd_same⟩⟩
      generalize upd H1 d (.lst [.int l, .int s, .int c]) = H2 at B1
      walk_at "r"
      refine r_newT (by walk_at "len") fun p1 Ha n1 s1 e1 => ?_
      walk_at "r"
      refine r_newT (by walk_at "len") fun p2 Hb n2 s2 e2 => ?_
      walk_at "r"
      refine r_newL (by walk_at "len") fun p3 Hc n3 s3 e3 => ?_
      walk_at "r"
      refine ⟨rfl, ?_⟩
      walk_at "r"
      refine ⟨rfl, ?_⟩
      walk_at "r"
      refine r_dnew fun p4 Hd n4 s4 e4 => ?_
      walk_at "r"
      refine r_newT (by walk_at "len") fun p5 He n5 s5 e5 => ?_
      walk_at "r"
      refine r_newL (by walk_at "len") fun p6 Hf n6 s6 e6 => ?_
      walk_at "r"
      have z5 : Same He Hf := s6
      have z4 : Same Hd Hf := s5.trans z5
      have z3 : Same Hc Hf := s4.trans z4
      have z2 : Same Hb Hf := s3.trans z3
      have z1 : Same Ha Hf := s2.trans z2
      have z0 : Same H2 Hf := s1.trans z1
      have B2 := B1.more z0
      have f2 := s1.free n2
      have f3 := (s1.trans s2).free n3
      have f4 := ((s1.trans s2).trans s3).free n4
      have f5 := (((s1.trans s2).trans s3).trans s4).free n5
      have f6 := ((((s1.trans s2).trans s3).trans s4).trans s5).free n6
      have nd : ∀ {b : Addr}, H2 b = none → b ≠ d := fun hb => B1.dice.ne hb
      have nv : ∀ {b : Addr}, H2 b = none → V.ref b ≠ V.ref d := fun hb e => nd hb (V.ref.inj e)
      have L1 : isI (.int LIM) = false := by decide +kernel
      have L2' : isI (.int (0 - LIM)) = false := by decide +kernel
      have odd : ∀ v ∈ [V.non, .bl true, .bl false, .str "1", .ref p1, .ref p2, .ref p3, .int LIM, .int (0 - LIM), .str "", .ref p4, .ref p5], Part K Hf v false ∧ v ≠ .ref d := by
        intro v hv
        simp only [List.mem_cons, List.not_mem_nil, or_false] at hv
        rcases hv with h | h | h | h | h | h | h | h | h | h | h | h <;> subst h
        · exact ⟨⟨⟨_, .non⟩, rfl⟩, fun e => by cases e⟩
        · exact ⟨⟨⟨_, .bl _⟩, rfl⟩, fun e => by cases e⟩
        · exact ⟨⟨⟨_, .bl _⟩, rfl⟩, fun e => by cases e⟩
        · exact ⟨⟨⟨_, .str _⟩, rfl⟩, fun e => by cases e⟩
        · exact ⟨⟨⟨_, .tup (SqT.of (z1 _ _ e1))⟩, rfl⟩, nv n1⟩
        · exact ⟨⟨⟨_, .tup (SqT.of (z2 _ _ e2))⟩, rfl⟩, nv f2⟩
        · exact ⟨⟨⟨_, .lst (SqL.of (z3 _ _ e3))⟩, rfl⟩, nv f3⟩
        · exact ⟨⟨⟨_, .int _⟩, L1⟩, fun e => by cases e⟩
        · exact ⟨⟨⟨_, .int _⟩, L2'⟩, fun e => by cases e⟩
        · exact ⟨⟨⟨_, .str _⟩, rfl⟩, fun e => by cases e⟩
        · exact ⟨⟨⟨_, .dK (z4 _ _ e4)⟩, rfl⟩, nv f4⟩
        · exact ⟨⟨⟨_, .tup (SqT.of (z5 _ _ e5))⟩, rfl⟩, nv f5⟩
      refine lk_it walk_range (fun D i H' => ∃ acc : List Int, acc.length = i ∧ (∀ n ∈ acc, isI (.int n) = true) ∧ H' D = some (.lst (acc.map V.int)) ∧ Went d Hf H')
        (fun D hD => ⟨[], rfl, (fun n h => by cases h), upd_same, (Went.refl B2.dice).new hD⟩) (fun _ _ _ _ _ => trivial) ?_ ?_
      · rintro D j x G1 G2 hD hj ⟨acc, la, ha, eD, wD⟩ ⟨rfl, rfl⟩
        walk_at "r"
        refine ⟨d, rfl, wD.dice, fun n G3 hn w3 => ?_⟩
        have ndD := B2.dice.ne hD
        have hj' : j < 4 := hj
        refine ⟨_, w3.keep _ _ ndD eD, ?_, acc ++ [n], ?_, ?_, ?_, (wD.trans w3).mut hD ndD⟩
        · rw [List.length_map, la]
          exact Nat.lt_of_lt_of_le hj' (by decide)
        · rw [List.length_append, la]; rfl
        · intro y hy
          rcases List.mem_append.mp hy with h | h
          · exact ha y h
          · rw [List.mem_singleton.mp h]; exact hn
        · rw [List.map_append]; exact upd_same
      · rintro D G1 hD ⟨acc, la, ha, eD, wD⟩
        have la' : acc.length = 4 := la
        have ndD := B2.dice.ne hD
        have ndF := nd f6
        have e6' := wD.keep _ _ ndF e6
        walk_at "r"
        refine ⟨d, p6, _, rfl, wD.dice, ndF, e6', by simp, fun M ys G2 hM eM lM mM wM => ?_⟩
        have eD2 := wM.keep _ _ ndD eD
        walk_at "r"
        refine r_slL (SqL.of eM) fun S G3 hSl sS eS => ?_
        rw [show ((4 : Int)) = ((4 : Nat) : Int) from rfl, cut_to] at eS
        have eD3 := sS _ _ eD2
        have l12 : ys.length = 12 := lM
        have lS : (ys.take 4).length = 4 := by rw [List.length_take, l12]; rfl
        walk_at "r"
        refine r_cat eD3 eS (by rw [List.length_map, la', lS]; decide) fun L G4 hL sL eL => ?_
        have B4 : Bs H d G4 := (((B2.went wD).went wM).more sS).more sL
        -- the parts
        have parts : ∀ (j : Nat) (x : V), (acc.map V.int ++ ys.take 4)[j]? = some x → Part K G4 x (decide (j < 4)) := by
          intro j x hx
          by_cases hj : j < 4
          · rw [List.getElem?_append_left (by rw [List.length_map, la']; exact hj), List.getElem?_map] at hx
            obtain ⟨n, hn, rfl⟩ := Option.map_eq_some_iff.mp hx
            rw [decide_eq_true hj]
            exact ⟨⟨_, .int n⟩, ha n (List.mem_of_getElem? hn)⟩
          · rw [List.getElem?_append_right (by rw [List.length_map, la']; omega)] at hx
            rw [decide_eq_false hj]
            have hy : x ∈ ys := List.mem_of_mem_take (List.mem_of_getElem? hx)
            obtain ⟨p, q⟩ := odd x (mM x hy)
            exact (((p.went wD q).went wM q).same sS).same sL
        generalize hps : acc.map V.int ++ ys.take 4 = ps at parts eL
        have lps : ps.length = 8 := by rw [← hps, List.length_append, List.length_map, la', lS]
        walk_at "r"
        refine fk_enum (fun j σ H' => ∃ x1 x3 x5 x6 x7 x8 x9 x10 x11 x12, σ = [some (.ref a), x1, some (.ref d), x3, some (.ref L), x5, x6, x7, x8, x9, x10, x11, x12] ∧ Same G4 H')
          ⟨_, _, _, _, _, _, _, _, _, _, rfl, Same.refl _⟩ (fun j σ H' _ ⟨_, _, _, _, _, _, _, _, _, _, _, s⟩ => SqL.of (s _ _ eL)) ?_ ?_
        · rintro j one σ G5 T1 G6 hone ⟨x1, x3, x5, x6, x7, x8, x9, x10, x11, x12, rfl, s5⟩ hT1 s6 eT1
          have s56 := s5.trans s6
          have eL6 := s56 _ _ eL
          walk_at "r"
          refine fk_enum (fun j2 σ H' => ∃ x1 x3 x7 x8 x9 x10 x11 x12, σ = [some (.ref a), x1, some (.ref d), x3, some (.ref L), some (.int (j : Int)), some one, x7, x8, x9, x10, x11, x12] ∧ Same G4 H')
            ⟨_, _, _, _, _, _, _, _, rfl, s56⟩ (fun j σ H' _ ⟨_, _, _, _, _, _, _, _, _, s⟩ => SqL.of (s _ _ eL)) ?_ ?_
          · rintro j2 two σ G7 T2 G8 htwo ⟨x1, x3, x7, x8, x9, x10, x11, x12, rfl, s7⟩ hT2 s8 eT2
            have s78 := s7.trans s8
            have p1 := parts j one hone
            have p2 := parts j2 two htwo
            walk_at "r"
            refine v_and (c := decide (j < 4)) (b := decide (j2 < 4)) (fun Q q => ?_) (fun _ Q q => ?_) ?_
            · walk_at "r"
              rw [show decide ((j : Int) < 4) = decide (j < 4) from decide_eq_decide.mpr (by omega)]
              exact q
            · walk_at "r"
              rw [show decide ((j2 : Int) < 4) = decide (j2 < 4) from decide_eq_decide.mpr (by omega)]
              exact q
            generalize hb1 : decide (j < 4) = b1 at p1
            generalize hb2 : decide (j2 < 4) = b2 at p2
            walk_at "r"
            refine r_newT (by walk_at "len") fun q1 Ga m1 t1 u1 => ?_
            have S1 := s78.trans t1
            walk_at "r"
            refine .inl ⟨q1, _, rfl, SqT.of u1, by simp, (fun x hx => ?_), ?_⟩
            · simp only [List.mem_cons, List.not_mem_nil, or_false] at hx
              rcases hx with h | h <;> subst h
              · exact (p1.same S1).knd
              · exact (p2.same S1).knd
            rw [show isPt [one, two] = (b1 && b2) by show (isI one && isI two) = _; rw [p1.is, p2.is]]
            walk_at "r"
            refine r_newT (by walk_at "len") fun q2 Gb m2 t2 u2 => ?_
            have S2 := S1.trans t2
            walk_at "r"
            refine .inl ⟨q2, _, rfl, SqT.of u2, by simp, (fun x hx => ?_), ?_⟩
            · simp only [List.mem_cons, List.not_mem_nil, or_false] at hx
              rcases hx with h | h <;> subst h
              · exact (p2.same S2).knd
              · exact (p1.same S2).knd
            rw [show isPt [two, one] = (b1 && b2) by show (isI two && isI one) = _; rw [p1.is, p2.is, Bool.and_comm]]
            walk_at "r"
            refine r_newL (by walk_at "len") fun q3 Gc m3 t3 u3 => ?_
            have S3 := S2.trans t3
            walk_at "r"
            refine .inr ⟨_, _, rfl, .lst (SqL.of u3), by decide, ?_⟩
            walk_at "r"
            refine r_newL (by walk_at "len") fun q4 Gd m4 t4 u4 => ?_
            have S4 := S3.trans t4
            walk_at "r"
            refine r_newT (by walk_at "len") fun q5 Ge m5 t5 u5 => ?_
            have S5 := S4.trans t5
            have u4' := t5 _ _ u4
            walk_at "r"
            refine .inl ⟨q5, _, rfl, SqT.of u5, by simp, (fun x hx => ?_), ?_⟩
            · simp only [List.mem_cons, List.not_mem_nil, or_false] at hx
              rcases hx with h | h | h <;> subst h
              · exact (p1.same S5).knd
              · exact (p2.same S5).knd
              · exact (p1.same S5).knd
            walk_at "r"
            have f4' := S3.free m4
            refine r_reprB4 (SqL.of upd_same) ?_
            walk_at "r"
            refine r_newL (by walk_at "len") fun q6 Gf m6 t6 u6 => ?_
            walk_at "r"
            refine r_reprB4 (SqL.of u6) ?_
            have S6 := (sameMut (o := .lst ([.bl (b1 && b2), .bl (b1 && b2), .bl false] ++ [.bl (isPt [one, two, one])])) S5 f4').trans t6
            walk_at "r"
            refine iteNS rfl ?_
            obtain ⟨nm, kn⟩ := (p1.same S6).knd
            walk_at "r"
            refine ⟨one, nm, rfl, kn, ?_⟩
            walk_at "r"
            refine r_newT (by walk_at "len") fun q7 Gg m7 t7 u7 => ?_
            walk_at "r"
            refine .inl ⟨q7, _, rfl, SqT.of u7, by simp, (fun x hx => ?_), ?_⟩
            · simp only [List.mem_cons, List.not_mem_nil, or_false] at hx
              rcases hx with h | h <;> subst h
              · exact ((p1.same S6).same t7).knd
              · exact ⟨_, .int 0⟩
            walk_at "r"
            refine iteNS ?_ ?_
            · show V.bl (isI one) = V.bl (isI one && isI (.int 0))
              rw [show isI (.int 0) = true by decide +kernel, Bool.and_true]
            walk_at "r"
            exact ⟨_, _, _, _, _, _, _, _, rfl, S6.trans t7⟩
          · rintro σ G7 ⟨x1, x3, x7, x8, x9, x10, x11, x12, rfl, s7⟩
            walk_at "r"
            exact ⟨_, _, _, _, _, _, _, _, _, _, rfl, s7⟩
        · rintro σ G5 ⟨x1, x3, x5, x6, x7, x8, x9, x10, x11, x12, rfl, s5⟩
          have eL5 := s5 _ _ eL
          obtain ⟨y0, y1, y2, y3, rfl⟩ := len4 la'
          subst hps
          have a0 : atI (List.map V.int [y0, y1, y2, y3] ++ List.take 4 ys) 0 = some (.int y0) := at_0
          walk_at "r"
          refine r_newT (by walk_at "len") fun q1 Ga m1 t1 u1 => ?_
          walk_at "r"
          refine .inl ⟨q1, _, rfl, SqT.of u1, by simp, (fun x hx => ?_), ?_⟩
          · simp only [List.mem_cons, List.not_mem_nil, or_false] at hx
            subst hx
            exact ⟨_, .int _⟩
          have eL6 := t1 _ _ eL5
          walk_at "r"
          refine .inr ⟨_, _, rfl, .int _, by decide, ?_⟩
          walk_at "r"
          refine r_dispC [(Sum.inl 0, .int 1), (Sum.inl 1, .int 2)] rfl (by decide) fun q2 Gb m2 t2 u2 => ?_
          walk_at "r"
          refine .inr ⟨_, _, rfl, .dK u2, by decide, ?_⟩
          walk_at "r"
          refine r_newL (by walk_at "len") fun q3 Gc m3 t3 u3 => ?_
          walk_at "r"
          refine r_newL (by walk_at "len") fun q4 Gd m4 t4 u4 => ?_
          walk_at "r"
          refine r_rep u4 (by decide) (by decide) (by decide) fun q5 Ge m5 t5 u5 => ?_
          have u3' := t5 _ _ (t4 _ _ u3)
          walk_at "r"
          refine r_neDF (e := .list [.bool false, .bool false, .bool false]) (.lst (SqL.of u3') (.cons (.bl _) (.cons (.bl _) (.cons (.bl _) .nil)))) (.lst (SqL.of u5) (.cons (.bl _) (.cons (.bl _) (.cons (.bl _) .nil)))) rfl ?_
          have S5 := (((t1.trans t2).trans t3).trans t4).trans t5
          have eLa := S5 _ _ eL5
          walk_at "r"
          refine r_slL (SqL.of eLa) fun q6 Gf m6 t6 u6 => ?_
          rw [show ((4 : Int)) = ((4 : Nat) : Int) from rfl, cut_to] at u6
          walk_at "r"
          refine lk_mapL (fun v => .bl (isC v)) (SqL.of u6) (by rw [List.length_take]; omega) (fun _ => rfl) ?_ fun q7 Gg m7 t7 u7 => ?_
          · intro x hx H' _ Q' q
            obtain ⟨y, rfl⟩ := isInt4 (show x ∈ [V.int y0, .int y1, .int y2, .int y3] from hx)
            walk_at "r"
            exact ⟨_, _, rfl, .int y, q⟩
          have eLb := t7 _ _ (t6 _ _ eLa)
          walk_at "r"
          refine r_slL (SqL.of eLb) fun q8 Gh m8 t8 u8 => ?_
          rw [show ((4 : Int)) = ((4 : Nat) : Int) from rfl, cut_to] at u8
          walk_at "r"
          refine lk_mapL geB (SqL.of u8) (by rw [List.length_take]; omega) (fun _ => rfl) ?_ fun q9 Gi m9 t9 u9 => ?_
          · intro x hx H' _ Q' q
            obtain ⟨y, rfl⟩ := isInt4 (show x ∈ [V.int y0, .int y1, .int y2, .int y3] from hx)
            walk_at "r"
            exact q
          have c : ∀ y ∈ [y0, y1, y2, y3], isC (.int y) = decide (0 ≤ y) := fun y hy => by
            show (isI (.int y) && decide (0 ≤ y)) = _
            rw [ha y hy]; rfl
          have u7' : Gi q7 = some (.lst [.bl (decide (0 ≤ y0)), .bl (decide (0 ≤ y1)), .bl (decide (0 ≤ y2)), .bl (decide (0 ≤ y3))]) := by
            rw [← c y0 (by simp), ← c y1 (by simp), ← c y2 (by simp), ← c y3 (by simp)]
            exact t9 _ _ (t8 _ _ u7)
          have u9' : Gi q9 = some (.lst [.bl (decide (0 ≤ y0)), .bl (decide (0 ≤ y1)), .bl (decide (0 ≤ y2)), .bl (decide (0 ≤ y3))]) := u9
          walk_at "r"
          refine r_neDF (by walk_at "dp") (by walk_at "dp") rfl ?_
          walk_at "r"
          exact ⟨_, _, _, _, _, _, _, _, _, _, _, _, rfl, ((((B4.same.trans s5).trans S5).trans (t6.trans t7)).trans (t8.trans t9))⟩
    · rintro σ H1 ⟨x1, x2, x3, x4, x5, x6, x7, x8, x9, x10, x11, x12, rfl, sm⟩
      have k0 : isI (.int 0) = true := by decide +kernel
      walk_at "ra"
      refine r_newT (by walk_at "len") fun p Ha n1 s1 e1 => ?_
      walk_at "ra"
      refine .inl ⟨p, _, rfl, SqT.of e1, by simp, (fun x hx => ?_), ?_⟩
      · simp only [List.mem_cons, List.not_mem_nil, or_false] at hx
        rcases hx with h | h <;> subst h <;> exact ⟨_, .int 0⟩
      rw [show isPt [.int 0, .int 0] = true by decide +kernel]
      walk_at "ra"
      refine iteT ?_
      walk_at "ra"
      refine r_newT (by walk_at "len") fun p2 Hb n2 s2 e2 => ?_
      walk_at "ra"
      refine .inl ⟨p2, _, rfl, SqT.of e2, by simp, (fun x hx => by cases hx), ?_⟩
      walk_at "ra"
      refine iteT ?_
      walk_at "ra"
      refine .inr ⟨_, _, rfl, .str _, by decide, ?_⟩
      walk_at "ra"
      exact k _
end
theorem all_mk {l : PySem.W.OpenLaw} {w : World} {K : PySem.W.Frag} {h : Heap} {mg : Str → Option Value} {fa : Addr} (X : K.In h) (G : h.Ns mainGlobals mg) (hfa : mg "law" = some (.ref fa))
    {od0 an0 : Option Addr} {sl0 : Array (Option Value)} {oc0 kV0 dc0 pm0 cd0 ct0 : Value} {f0 : Addr}
    {od1 an1 : Option Addr} {sl1 : Array (Option Value)} {oc1 kV1 dc1 pm1 cd1 ct1 : Value} {f1 : Addr}
    {od2 an2 : Option Addr} {sl2 : Array (Option Value)} {oc2 kV2 dc2 pm2 cd2 ct2 : Value} {f2 : Addr}
    {od3 an3 : Option Addr} {sl3 : Array (Option Value)} {oc3 kV3 dc3 pm3 cd3 ct3 : Value} {f3 : Addr}
    {od4 an4 : Option Addr} {sl4 : Array (Option Value)} {oc4 kV4 dc4 pm4 cd4 ct4 : Value} {f4 : Addr}
    {od5 an5 : Option Addr} {sl5 : Array (Option Value)} {oc5 kV5 dc5 pm5 cd5 ct5 : Value} {f5 : Addr}
    {od6 an6 : Option Addr} {sl6 : Array (Option Value)} {oc6 kV6 dc6 pm6 cd6 ct6 : Value} {f6 : Addr}
    {od7 an7 : Option Addr} {sl7 : Array (Option Value)} {oc7 kV7 dc7 pm7 cd7 ct7 : Value} {f7 : Addr}
    {od8 an8 : Option Addr} {sl8 : Array (Option Value)} {oc8 kV8 dc8 pm8 cd8 ct8 : Value} {f8 : Addr}
    {od9 an9 : Option Addr} {sl9 : Array (Option Value)} {oc9 kV9 dc9 pm9 cd9 ct9 : Value} {f9 : Addr}
    {u_LIMIT : Value}
    (a0 : PySem.W.nsIn K mainGlobals "is_integer" = some (some (.ref f0)))
    (l0 : K.lookup f0 = some ⟨oc0, od0, .func (PySem.W.fnOf "is_integer" "is_integer" (defArgs s_is_integer) (defBody s_is_integer) (defScope s_is_integer) .none kV0 dc0 pm0 an0 cd0 ct0), sl0⟩)
    (c0 : PySem.W.codeIn K cd0 "is_integer" = true) (k0 : PySem.W.keepIn K (.ref f0) = true)
    (a1 : PySem.W.nsIn K mainGlobals "is_count" = some (some (.ref f1)))
    (l1 : K.lookup f1 = some ⟨oc1, od1, .func (PySem.W.fnOf "is_count" "is_count" (defArgs s_is_count) (defBody s_is_count) (defScope s_is_count) .none kV1 dc1 pm1 an1 cd1 ct1), sl1⟩)
    (c1 : PySem.W.codeIn K cd1 "is_count" = true) (k1 : PySem.W.keepIn K (.ref f1) = true)
    (a2 : PySem.W.nsIn K mainGlobals "is_point" = some (some (.ref f2)))
    (l2 : K.lookup f2 = some ⟨oc2, od2, .func (PySem.W.fnOf "is_point" "is_point" (defArgs s_is_point) (defBody s_is_point) (defScope s_is_point) .none kV2 dc2 pm2 an2 cd2 ct2), sl2⟩)
    (c2 : PySem.W.codeIn K cd2 "is_point" = true) (k2 : PySem.W.keepIn K (.ref f2) = true)
    (a3 : PySem.W.nsIn K mainGlobals "_law_dice" = some (some (.ref f3)))
    (l3 : K.lookup f3 = some ⟨oc3, od3, .func (PySem.W.fnOf "_law_dice" "_law_dice" (defArgs s__law_dice) (defBody s__law_dice) (defScope s__law_dice) .none kV3 dc3 pm3 an3 cd3 ct3), sl3⟩)
    (c3 : PySem.W.codeIn K cd3 "_law_dice" = true) (k3 : PySem.W.keepIn K (.ref f3) = true)
    (a4 : PySem.W.nsIn K mainGlobals "_law_roll" = some (some (.ref f4)))
    (l4 : K.lookup f4 = some ⟨oc4, od4, .func (PySem.W.fnOf "_law_roll" "_law_roll" (defArgs s__law_roll) (defBody s__law_roll) (defScope s__law_roll) .none kV4 dc4 pm4 an4 cd4 ct4), sl4⟩)
    (c4 : PySem.W.codeIn K cd4 "_law_roll" = true) (k4 : PySem.W.keepIn K (.ref f4) = true)
    (a5 : PySem.W.nsIn K mainGlobals "_law_pick" = some (some (.ref f5)))
    (l5 : K.lookup f5 = some ⟨oc5, od5, .func (PySem.W.fnOf "_law_pick" "_law_pick" (defArgs s__law_pick) (defBody s__law_pick) (defScope s__law_pick) .none kV5 dc5 pm5 an5 cd5 ct5), sl5⟩)
    (c5 : PySem.W.codeIn K cd5 "_law_pick" = true) (k5 : PySem.W.keepIn K (.ref f5) = true)
    (a6 : PySem.W.nsIn K mainGlobals "_law_mixed" = some (some (.ref f6)))
    (l6 : K.lookup f6 = some ⟨oc6, od6, .func (PySem.W.fnOf "_law_mixed" "_law_mixed" (defArgs s__law_mixed) (defBody s__law_mixed) (defScope s__law_mixed) .none kV6 dc6 pm6 an6 cd6 ct6), sl6⟩)
    (c6 : PySem.W.codeIn K cd6 "_law_mixed" = true) (k6 : PySem.W.keepIn K (.ref f6) = true)
    (a7 : PySem.W.nsIn K mainGlobals "_law_limit" = some (some (.ref f7)))
    (l7 : K.lookup f7 = some ⟨oc7, od7, .func (PySem.W.fnOf "_law_limit" "_law_limit" (defArgs s__law_limit) (defBody s__law_limit) (defScope s__law_limit) .none kV7 dc7 pm7 an7 cd7 ct7), sl7⟩)
    (c7 : PySem.W.codeIn K cd7 "_law_limit" = true) (k7 : PySem.W.keepIn K (.ref f7) = true)
    (a8 : PySem.W.nsIn K mainGlobals "_law_part" = some (some (.ref f8)))
    (l8 : K.lookup f8 = some ⟨oc8, od8, .func (PySem.W.fnOf "_law_part" "_law_part" (defArgs s__law_part) (defBody s__law_part) (defScope s__law_part) .none kV8 dc8 pm8 an8 cd8 ct8), sl8⟩)
    (c8 : PySem.W.codeIn K cd8 "_law_part" = true) (k8 : PySem.W.keepIn K (.ref f8) = true)
    (a9 : PySem.W.nsIn K mainGlobals "law" = some (some (.ref f9)))
    (l9 : K.lookup f9 = some ⟨oc9, od9, .func (PySem.W.fnOf "law" "law" (defArgs s_law) (defBody s_law) (defScope s_law) .none kV9 dc9 pm9 an9 cd9 ct9), sl9⟩)
    (c9 : PySem.W.codeIn K cd9 "law" = true) (k9 : PySem.W.keepIn K (.ref f9) = true)
    (z_isinstance : PySem.W.nsIn K mainGlobals "isinstance" = some none)
    (z_int : PySem.W.nsIn K mainGlobals "int" = some none)
    (z_bool : PySem.W.nsIn K mainGlobals "bool" = some none)
    (z_tuple : PySem.W.nsIn K mainGlobals "tuple" = some none)
    (z_len : PySem.W.nsIn K mainGlobals "len" = some none)
    (z_abs : PySem.W.nsIn K mainGlobals "abs" = some none)
    (z_max : PySem.W.nsIn K mainGlobals "max" = some none)
    (z_min : PySem.W.nsIn K mainGlobals "min" = some none)
    (z_range : PySem.W.nsIn K mainGlobals "range" = some none)
    (z_repr : PySem.W.nsIn K mainGlobals "repr" = some none)
    (z_list : PySem.W.nsIn K mainGlobals "list" = some none)
    (z_enumerate : PySem.W.nsIn K mainGlobals "enumerate" = some none)
    (q_LIMIT : PySem.W.nsIn K mainGlobals "LIMIT" = some (some u_LIMIT)) (r_LIMIT : RelV (.int LIM) u_LIMIT) :
    ∃ fd : FuncData, (∀ (s : Shared) (v : Value), BindsTo s fd ⟨[v], []⟩ [("_law_script", v)]) ∧ ∀ base : Heap, K.In base → base.Ns mainGlobals mg → FnG l.prog w K mg base CX0 9 fa fd ["_law_script"] (sp_law K) := by
  have e := hfa.symm.trans (PySem.W.mg_of X G a9)
  cases e
  have T : Txt K mg ⟨f0, f1, f2, f3, f4, f5, f6, f7, f8, fa⟩ ⟨(PySem.W.fnOf "is_integer" "is_integer" (defArgs s_is_integer) (defBody s_is_integer) (defScope s_is_integer) .none kV0 dc0 pm0 an0 cd0 ct0), (PySem.W.fnOf "is_count" "is_count" (defArgs s_is_count) (defBody s_is_count) (defScope s_is_count) .none kV1 dc1 pm1 an1 cd1 ct1), (PySem.W.fnOf "is_point" "is_point" (defArgs s_is_point) (defBody s_is_point) (defScope s_is_point) .none kV2 dc2 pm2 an2 cd2 ct2), (PySem.W.fnOf "_law_dice" "_law_dice" (defArgs s__law_dice) (defBody s__law_dice) (defScope s__law_dice) .none kV3 dc3 pm3 an3 cd3 ct3), (PySem.W.fnOf "_law_roll" "_law_roll" (defArgs s__law_roll) (defBody s__law_roll) (defScope s__law_roll) .none kV4 dc4 pm4 an4 cd4 ct4), (PySem.W.fnOf "_law_pick" "_law_pick" (defArgs s__law_pick) (defBody s__law_pick) (defScope s__law_pick) .none kV5 dc5 pm5 an5 cd5 ct5), (PySem.W.fnOf "_law_mixed" "_law_mixed" (defArgs s__law_mixed) (defBody s__law_mixed) (defScope s__law_mixed) .none kV6 dc6 pm6 an6 cd6 ct6), (PySem.W.fnOf "_law_limit" "_law_limit" (defArgs s__law_limit) (defBody s__law_limit) (defScope s__law_limit) .none kV7 dc7 pm7 an7 cd7 ct7), (PySem.W.fnOf "_law_part" "_law_part" (defArgs s__law_part) (defBody s__law_part) (defScope s__law_part) .none kV8 dc8 pm8 an8 cd8 ct8), (PySem.W.fnOf "law" "law" (defArgs s_law) (defBody s_law) (defScope s_law) .none kV9 dc9 pm9 an9 cd9 ct9)⟩ := ⟨PySem.W.mg_none_of X G z_isinstance,
    PySem.W.mg_none_of X G z_int,
    PySem.W.mg_none_of X G z_bool,
    PySem.W.mg_none_of X G z_tuple,
    PySem.W.mg_none_of X G z_len,
    PySem.W.mg_none_of X G z_abs,
    PySem.W.mg_none_of X G z_max,
    PySem.W.mg_none_of X G z_min,
    PySem.W.mg_none_of X G z_range,
    PySem.W.mg_none_of X G z_repr,
    PySem.W.mg_none_of X G z_list,
    PySem.W.mg_none_of X G z_enumerate,
    ⟨u_LIMIT, PySem.W.mg_of X G q_LIMIT, r_LIMIT⟩,
    PySem.W.mg_of X G a0,
    fun_mk (st := s_is_integer) l0 c0 k0,
    (fun_mk (st := s_is_integer) l0 c0 k0).binds (ps := ["value"]) fun _ _ _ _ _ _ us hl => match us, hl with | [_], _ => rfl,
    PySem.W.mg_of X G a1,
    fun_mk (st := s_is_count) l1 c1 k1,
    (fun_mk (st := s_is_count) l1 c1 k1).binds (ps := ["value"]) fun _ _ _ _ _ _ us hl => match us, hl with | [_], _ => rfl,
    PySem.W.mg_of X G a2,
    fun_mk (st := s_is_point) l2 c2 k2,
    (fun_mk (st := s_is_point) l2 c2 k2).binds (ps := ["value"]) fun _ _ _ _ _ _ us hl => match us, hl with | [_], _ => rfl,
    PySem.W.mg_of X G a3,
    fun_mk (st := s__law_dice) l3 c3 k3,
    (fun_mk (st := s__law_dice) l3 c3 k3).binds (ps := ["_law_script", "_law_spot"]) fun _ _ _ _ _ _ us hl => match us, hl with | [_, _], _ => rfl,
    PySem.W.mg_of X G a4,
    fun_mk (st := s__law_roll) l4 c4 k4,
    (fun_mk (st := s__law_roll) l4 c4 k4).binds (ps := ["_law_dice_here", "_law_total"]) fun _ _ _ _ _ _ us hl => match us, hl with | [_, _], _ => rfl,
    PySem.W.mg_of X G a5,
    fun_mk (st := s__law_pick) l5 c5 k5,
    (fun_mk (st := s__law_pick) l5 c5 k5).binds (ps := ["_law_dice_here", "_law_items"]) fun _ _ _ _ _ _ us hl => match us, hl with | [_, _], _ => rfl,
    PySem.W.mg_of X G a6,
    fun_mk (st := s__law_mixed) l6 c6 k6,
    (fun_mk (st := s__law_mixed) l6 c6 k6).binds (ps := ["_law_dice_here", "_law_items"]) fun _ _ _ _ _ _ us hl => match us, hl with | [_, _], _ => rfl,
    PySem.W.mg_of X G a7,
    fun_mk (st := s__law_limit) l7 c7 k7,
    (fun_mk (st := s__law_limit) l7 c7 k7).binds (ps := []) fun _ _ _ _ _ _ us hl => match us, hl with | [], _ => rfl,
    PySem.W.mg_of X G a8,
    fun_mk (st := s__law_part) l8 c8 k8,
    (fun_mk (st := s__law_part) l8 c8 k8).binds (ps := ["_law_dice_here"]) fun _ _ _ _ _ _ us hl => match us, hl with | [_], _ => rfl,
    PySem.W.mg_of X G a9,
    fun_mk (st := s_law) l9 c9 k9,
    (fun_mk (st := s_law) l9 c9 k9).binds (ps := ["_law_script"]) fun _ _ _ _ _ _ us hl => match us, hl with | [_], _ => rfl⟩
  exact ⟨_, fun s v => .of_eq rfl, fun base _ _ => ok_law T⟩

end Law
open PySem PySem.W PyProof.Rows in
set_option maxRecDepth 100000 in
set_option maxHeartbeats 0 in
theorem PySem.Challenge.cw_grownlines_k02_whole_points_holds : PySem.Challenge.rw_grownlines_k02_whole_points.Holds := by
  w_on; o_law; k_head; (case hw => w_witness2)
  k_fill
  refine Gl.walkG (l := PySem.Challenge.rw_grownlines_k02_whole_points) (n := 63) (k := 9) (x := "_law_script") (sp := Law.sp_law) rfl (by decide) rfl ⟨rfl, by decide, by decide⟩ (fun w h Y => PySem.W.kIn_of Y) ?F (fun _ _ a ns hl _ hS => ⟨a, ns, rfl, hS, hl, fun _ => rfl⟩)
  case F =>
    intro w mg fa h KX G hmg
    refine' Law.all_mk KX G hmg ?a0 ?l0 ?c0 ?k0 ?a1 ?l1 ?c1 ?k1 ?a2 ?l2 ?c2 ?k2 ?a3 ?l3 ?c3 ?k3 ?a4 ?l4 ?c4 ?k4 ?a5 ?l5 ?c5 ?k5 ?a6 ?l6 ?c6 ?k6 ?a7 ?l7 ?c7 ?k7 ?a8 ?l8 ?c8 ?k8 ?a9 ?l9 ?c9 ?k9 ?z_isinstance ?z_int ?z_bool ?z_tuple ?z_len ?z_abs ?z_max ?z_min ?z_range ?z_repr ?z_list ?z_enumerate ?q_LIMIT ?r_LIMIT
    (case a0 => k_is)
    (case l0 => k_is)
    (case c0 => k_is)
    (case k0 => k_is)
    (case a1 => k_is)
    (case l1 => k_is)
    (case c1 => k_is)
    (case k1 => k_is)
    (case a2 => k_is)
    (case l2 => k_is)
    (case c2 => k_is)
    (case k2 => k_is)
    (case a3 => k_is)
    (case l3 => k_is)
    (case c3 => k_is)
    (case k3 => k_is)
    (case a4 => k_is)
    (case l4 => k_is)
    (case c4 => k_is)
    (case k4 => k_is)
    (case a5 => k_is)
    (case l5 => k_is)
    (case c5 => k_is)
    (case k5 => k_is)
    (case a6 => k_is)
    (case l6 => k_is)
    (case c6 => k_is)
    (case k6 => k_is)
    (case a7 => k_is)
    (case l7 => k_is)
    (case c7 => k_is)
    (case k7 => k_is)
    (case a8 => k_is)
    (case l8 => k_is)
    (case c8 => k_is)
    (case k8 => k_is)
    (case a9 => k_is)
    (case l9 => k_is)
    (case c9 => k_is)
    (case k9 => k_is)
    (case z_isinstance => k_is)
    (case z_int => k_is)
    (case z_bool => k_is)
    (case z_tuple => k_is)
    (case z_len => k_is)
    (case z_abs => k_is)
    (case z_max => k_is)
    (case z_min => k_is)
    (case z_range => k_is)
    (case z_repr => k_is)
    (case z_list => k_is)
    (case z_enumerate => k_is)
    (case q_LIMIT => k_is)
    (case r_LIMIT => exact ⟨_, rfl⟩)

