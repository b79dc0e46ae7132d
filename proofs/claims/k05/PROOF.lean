import PyProof.Rows.All
import Wide.All
import OpenK.AllK
import Wide.FinOn
import HandS.ForMost
import HandS.Wide
import HandS.IsInst
import HandS.Style
import HandS.Walk
import HandS.Flow
import PyProof.Rows.Digits
import HandS.Steps
import HandS.Slots
import HandS.SlotsOwn
import HandS.Star
import HandS.NoneIn
import HandS.Deep
import HandS.TupAny
import KE.KSetDisp
import PyProof.Rows.StrOr
import PySem.Challenge.RW_grownlines_k05_whole_turns_around_points
set_option Elab.async false
set_option maxRecDepth 100000
set_option maxHeartbeats 4000000
set_option linter.all false
/-! my own layer over the hand layer: guarded promises (repr), great numbers, repr of data, a stepper -/
namespace Gl
open PySem PySem.Spec PyProof.Rows L2

/-! ### promises where nothing is being shown (for repr) -/
structure FnG (P : Program) (w : World) (K : PySem.W.Frag) (mg : Str → Option Value) (base : Heap) (CX : CXT)
    (k : Nat) (f : Addr) (fd : FuncData) (ps : List Str) (sp : Sp) : Prop where
  len : ∀ vs H Q E, sp vs H Q E → vs.length = ps.length
  go : ∀ (A : Around) (outer : List Env) (s : Shared) (H : Hp) (args : Args) (us : List Value) (vs : List V)
    (Q : VK) (E : XK), A.guards = some [] → Room k A → Env0 P w K mg base A outer s H →
    BindsTo s fd args (ps.zip us) → Vals vs us → sp vs H Q E →
    codeAny (model P w) A (.call (.ref f) args) (CR CX outer P w H s Q E) s

section
variable {P : Program} {w : World} {K : PySem.W.Frag} {mg : Str → Option Value} {base : Heap}

theorem FnG.of {CX : CXT} {k : Nat} {f : Addr} {fd : FuncData} {ps : List Str} {sp : Sp}
    (F : FnOk P w K mg base CX k f fd ps sp) : FnG P w K mg base CX k f fd ps sp :=
  ⟨F.len, fun A outer s H args us vs Q E _ => F.run A outer s H args us vs Q E⟩

/-- the rule for a def, told that nothing is being shown around it -/
theorem okG {x qual : Str} {st : Stmt} {f : Addr} {fd : FuncData} {N ps : List Str} {k : Nat} {sp : Sp}
    (F : Fun K x qual st f fd) (S : FnScope N ps (defScope st))
    (len : ∀ vs H Q E, sp vs H Q E → vs.length = ps.length)
    (body : ∀ (cdv : Value) (A : Around) (outer : List Env) (s : Shared) (H : Hp) (vs : List V) (Q : VK) (E : XK),
      (A.deeper (envOfC qual (defScope st) s.heap.objs.size f cdv)).guards = some [] →
      Room k (A.deeper (envOfC qual (defScope st) s.heap.objs.size f cdv)) → sp vs H Q E →
      ∃ t, PSs (cxOf CX0 P w K mg base N qual (defScope st) f cdv A outer s H E).nox (defBody st) t ∧
        t { nx := fun _ H' => Q .non H', rt := Q } (start N vs) H) :
    FnG P w K mg base CX0 (k + 1) f fd ps sp := by
  obtain ⟨oc, od, kV, doc, pm, an, cdv, ct, osl, rfl, lk, hcd⟩ := F.ex
  refine ⟨len, ?_⟩
  intro A outer s H args us vs Q E hg hr e0 hb r hsp
  have hlen := len _ _ _ _ hsp
  have below : ∀ b o, base.get? b = some o → s.heap.get? b = some o := fun b o e => (e0.bs b o e).1
  have inK := e0.mod.kin.keeps below
  have nol := e0.mod.nolimit.keeps below
  have kinds : ∀ y ∈ ps.zip us, (defScope st).names.lookup y.1 = some .local ∨
      ((defScope st).names.lookup y.1 = some .cell ∧
        ((cellsFrom (s.heap.objs.size + 1) (defScope st).names []).lookup y.1).isSome = true) := by
    rintro ⟨n, v⟩ hy
    have hin := (List.of_mem_zip hy).1
    rcases S.par n hin with q | q
    · exact Or.inl q
    · exact Or.inr ⟨q, PySem.W.cellsFrom_some _ _ _ (Or.inl q)⟩
  refine codeAny_call_function hr.depth (inK _ _ lk) rfl S.co S.gen rfl
    (PySem.W.codeRec_of inK hcd) (hb _ _ _ _ ?_)
  refine wpAny_newFunctionEnv_cells S.kind kinds ?_
  intro env he s1 x
  subst he
  refine ⟨nol.keeps x.toInCall.keep, codeAny_func ?_⟩
  obtain ⟨t, ht, hq⟩ := body cdv A outer s H vs Q E hg (hr.deeper _) hsp
  have I := inv_start (CX := CX0) (P := P) (w := w) (K := K) (mg := mg) (base := base) (E := E) S hr.hd e0 hlen r x
  refine wpAny_mono (ht.nox.run [] s1 (start N vs) H _ I hq) ?_ (fun e s' hs => hs)
  intro fl s' hs
  cases fl with
  | ret u =>
    obtain ⟨v, σ', H', J, rv, q⟩ := hs
    exact ⟨v, H', J.os, J.bare, J.base, J.hok, rv, q⟩
  | next =>
    obtain ⟨σ', H', J, q⟩ := hs
    exact ⟨V.non, H', J.os, J.bare, J.base, J.hok, rfl, q⟩
  | brk => exact hs.elim fun _ z => z.elim fun _ z => z.2.elim
  | cont => exact hs.elim fun _ z => z.elim fun _ z => z.2.elim
end

section
variable {X : Cx} {CX : CXT} {k : Nat} {f : Addr} {fd : FuncData} {ps : List Str} {sp : Sp} {dvs : List V}
  {ds : List Value} {E : XK} {x : Str} {p pos : Pos} {e : Expr} {es : List Expr} {t : TA}

theorem runG {pins : List (Addr × Obj)} {σ : L2.St} {H : Hp} {s : Shared} {Q : VK} {us : List Value} {vs : List V}
    (F : FnG X.prog X.w X.K X.mg X.base CX k f fd ps sp) (hG : X.A.guards = some []) (hr : Room k X.A)
    (hb : Binds X.K fd ps ds) (hd : Vals dvs ds) (hx : Passes CX X E)
    (I : Inv X pins σ H s) (r : Vals vs us) (h : sp (vs ++ dvs) H Q E) :
    wpAny (model X.prog X.w) X.A (call (.ref f) us) (EP X pins σ Q) X.xe s := by
  have both : Vals (vs ++ dvs) (us ++ ds) := r.append hd
  have many : (us ++ ds).length = ps.length := both.length ▸ F.len _ _ _ _ h
  have run := F.go X.A X.stack s H ⟨us, []⟩ (us ++ ds) (vs ++ dvs) Q E hG hr I.env0 (hb s us I.kIn many) both h
  refine wpAny_call (codeAny_mono run ?_)
  intro r s' hq
  match r, hq with
  | .error e, hq => exact hx pins σ H s e s' I hq
  | .ok (.ret u), hq => exact I.after hq
  | .ok .next, hq => exact False.elim hq
  | .ok .brk, hq => exact False.elim hq
  | .ok .cont, hq => exact False.elim hq

theorem pe_callG (F : FnG X.prog X.w X.K X.mg X.base CX k f fd ps sp) (hG : X.A.guards = some []) (hr : Room k X.A)
    (hg : Gl X x) (hm : X.mg x = some (.ref f)) (hk : PySem.W.keepIn X.K (.ref f) = true)
    (hb : Binds X.K fd ps ds) (hd : Vals dvs ds) (hx : Passes CX X E) (ha : PA X (e :: es) t)
    (hdb : (x == ("__debug__" : Str)) = false := by decide)
    (he : starEach (e :: es) X.env = (false, eval e X.env) :: starEach es X.env := by rfl)
    (hpl : (backTo pos (starEach es X.env)).any (·.1) = false := by rfl) :
    PE X (.Call (.Name x p) (e :: es) [] pos) (tCall sp dvs E t) := by
  constructor
  intro pins s σ H Q I h
  have inner := thn (ha.run pos pins s σ H _ I h) (Q' := fun us s1 => X.K.In s1.heap ∧
    wpAny (model X.prog X.w) X.A (call (.ref f) us) (EP X pins σ Q) X.xe s1)
    fun us s1 ⟨vs, H1, I1, r, q⟩ => ⟨I1.kIn, runG F hG hr hb hd hx I1 r q⟩
  exact wpAny_Call_Name_kw (ld_glob I hg hm (PySem.W.callWith_K (h₀ := X.base) I.ok.mod.kin hk inner he hpl) hdb)

theorem pe_callG0 (F : FnG X.prog X.w X.K X.mg X.base CX k f fd ps sp) (hG : X.A.guards = some []) (hr : Room k X.A)
    (hg : Gl X x) (hm : X.mg x = some (.ref f)) (hk : PySem.W.keepIn X.K (.ref f) = true)
    (hb : Binds X.K fd ps ds) (hd : Vals dvs ds) (hx : Passes CX X E)
    (hdb : (x == ("__debug__" : Str)) = false := by decide) :
    PE X (.Call (.Name x p) [] [] pos) (tCall sp dvs E tNil) := by
  constructor
  intro pins s σ H Q I h
  have inner := runG (us := []) F hG hr hb hd hx I .nil h
  exact wpAny_Call_Name_kw (ld_glob I hg hm (PySem.W.callWith_K0 I.kIn hk inner) hdb)
end

/-! ### the law's call, guarded -/
theorem lawG {P : Program} {w : World} {K : PySem.W.Frag} {mg mb : Str → Option Value} {k : Nat} {fa a : Addr}
    {fd : FuncData} {x : Str} {sp : Sp} {s1 : Shared} {vs : List Value} {ns : List Int}
    (KX : K.In s1.heap) (hns : s1.heap.Ns mainGlobals mg) (hb : s1.heap.Ns builtinsNs mb)
    (hbb : ∀ x : Str, x ≠ "__name__" → mb x = bootBuiltins x) (hlim : s1.heap.NoLimit) (hg : s1.gens = #[])
    (ha : s1.heap.get? a = some { cls := .type "list", data := .seq vs.toArray }) (hi : IntsAre vs ns)
    (hl : ns.length ≤ sizeLine) (hr : Room k callerA)
    (hdg : s1.heap.NoDigits)
    (F : ∀ base : Heap, K.In base → base.Ns mainGlobals mg → base.NoDigits → FnG P w K mg base CX0 k fa fd [x] sp)
    (hbind : ∀ (s : Shared) (u : Value), BindsTo s fd ⟨[u], []⟩ [(x, u)])
    (hsp : ∀ H : Hp, Only H → SqL K H a (ns.map V.int) → sp [.ref a] H (fun v _ => v = .bl true) fun _ _ _ => False) :
    codeAny (model P w) callerA (.call (.ref fa) ⟨[.ref a], []⟩)
      (fun r s' => r = .ok (.ret (.bool true)) ∧ OldK s1.heap s'.heap ∧ s'.os = s1.os ∧ AllBare s'.gens) s1 := by
  have lenV := hi.length
  have core : ∀ H : Hp, Only H → SqL K H a (ns.map V.int) → HOk P w H s1.heap →
      (∀ b, H b ≠ none → b = a ∧ K.lookup a = none) →
      codeAny (model P w) callerA (.call (.ref fa) ⟨[.ref a], []⟩)
        (fun r s' => r = .ok (.ret (.bool true)) ∧ OldK s1.heap s'.heap ∧ s'.os = s1.os ∧ AllBare s'.gens) s1 := by
    intro H hO hS hok hA
    have free : ∀ {b : Addr} {o : Obj} {es : Array DictEntry} {ep : Nat},
        s1.heap.get? b = some o → o.data = .dict es ep → H b = none := by
      intro b o es ep e d
      by_cases q : H b = none
      · exact q
      · obtain ⟨rfl, _⟩ := hA b q
        rw [ha] at e
        cases e
        cases d
    have nsB : ∀ {b : Addr} {m : Str → Option Value}, s1.heap.Ns b m → (hidT s1.heap H).Ns b m := by
      rintro b m ⟨o, es, ep, e, d, r⟩
      exact ⟨o, es, ep, hidT_get e (free e d), d, r⟩
    have inB : K.In (hidT s1.heap H) := by
      intro b o e
      refine hidT_get (KX b o e) ?_
      by_cases q : H b = none
      · exact q
      · obtain ⟨rfl, z⟩ := hA b q
        rw [z] at e
        cases e
    obtain ⟨mc, l1, l2⟩ := hlim
    have hM : Mod K mg (hidT s1.heap H) := ⟨inB, nsB hns, ⟨mb, nsB hb, hbb⟩, ⟨mc, nsB l1, l2⟩⟩
    have e0 : Env0 P w K mg (hidT s1.heap H) callerA [] s1 H :=
      ⟨rfl, hM, fun b o e => of_hidT e, Nat.le_of_eq (hidT_size _ _), trivial,
        fun b z => absurd (show b ∈ ([] : List Addr) from z) (by simp), hok, .of_eq hg⟩
    obtain ⟨md, d1, d2⟩ := hdg
    have run := (F _ inB (nsB hns) ⟨md, nsB d1, d2⟩).go callerA [] s1 H ⟨[.ref a], []⟩ [.ref a] [.ref a] _ _ rfl hr e0
      (hbind s1 (.ref a)) (.cons rfl .nil) (hsp H hO hS)
    refine codeAny_mono run ?_
    intro r s' h
    match r, h with
    | .error e, h => exact False.elim h
    | .ok .next, h => exact False.elim h
    | .ok .brk, h => exact False.elim h
    | .ok .cont, h => exact False.elim h
    | .ok (.ret u), h =>
      obtain ⟨v, H', os, bare, un, hok', r', q⟩ := h
      have q' : v = .bl true := q
      subst q'
      obtain rfl : u = Value.bool true := r'
      refine ⟨rfl, OldK.of_keep ?_, os, bare⟩
      intro b o e
      rcases hO b with z | ⟨ob, xs, z⟩
      · exact un.keep b o e z (fun y => absurd (show b ∈ ([] : List Addr) from y) (by simp)) (by simp)
      · have g1 := (hok b _ z).1
        have g2 := (hok' b _ (un.frzs b ob _ z)).1
        rw [e] at g1
        cases g1
        exact g2
  have rv := vals_ints hi
  by_cases hk : K.lookup a = none
  · refine core (fun b => if b = a then some (.frz { cls := .type "list", data := .seq vs.toArray }
        (.lst (ns.map V.int))) else none) ?_ (.inl (.inr ⟨_, if_pos rfl⟩)) ?_ ?_
    · intro b
      by_cases hb : b = a
      · exact Or.inr ⟨_, _, if_pos hb⟩
      · exact Or.inl (if_neg hb)
    · intro b u z
      by_cases hb : b = a
      · have z' := (if_pos hb).symm.trans z
        cases z'
        subst hb
        exact ⟨ha, (List.length_map (as := ns) V.int).symm ▸ hl, vs, _, rv, ha⟩
      · have z' := (if_neg hb).symm.trans z
        cases z'
    · intro b z
      by_cases hb : b = a
      · exact ⟨hb, hk⟩
      · exact absurd (if_neg hb) z
  · obtain ⟨o, ho⟩ := Option.ne_none_iff_exists'.mp hk
    have e := KX a o ho
    rw [ha] at e
    cases e
    have sz : vs.toArray.size ≤ sizeLine := by
      rw [List.size_toArray, lenV]
      exact hl
    exact core (fun _ => none) (fun _ => Or.inl rfl)
      (Or.inr ⟨_, vs.toArray, _, ho, rfl, rfl, rfl, sz, by simpa using rv⟩)
      (fun b u z => nomatch (show (none : Option HO) = some u from z)) (fun b z => absurd rfl z)

theorem walkG {l : PySem.W.OpenLaw} {n k : Nat} {q : Program} {loose : List Str}
    {XP : (Str → Option Value) → Heap → Prop} {YP : World → Heap → Prop} {d : DefRec} {K : Params → PySem.W.Frag}
    {sp : PySem.W.Frag → Sp} {x : Str}
    (hn : l.most = some n) (hn2 : n ≤ sizeLine) (hdf : d.params.defaults = []) (hr : Room k callerA)
    (hY : ∀ (w : World) (h : Heap), YP w h → (K w.params).In h)
    (F : ∀ (w : World) (mg : Str → Option Value) (fa : Addr) (h : Heap), (K w.params).In h → h.Ns mainGlobals mg →
      mg d.name = some (.ref fa) → ∃ fd : FuncData, (∀ (s : Shared) (u : Value), BindsTo s fd ⟨[u], []⟩ [(x, u)]) ∧
        ∀ base : Heap, (K w.params).In base → base.Ns mainGlobals mg → base.NoDigits →
          FnG l.prog w (K w.params) mg base CX0 k fa fd [x] (sp (K w.params)))
    (hsp : ∀ (K : PySem.W.Frag) (H : Hp) (a : Addr) (ns : List Int), ns.length ≤ n → Only H →
      SqL K H a (ns.map V.int) → sp K [.ref a] H (fun v _ => v = .bl true) fun _ _ _ => False) :
    PySem.W.WalkO q loose XP YP l.row.toRowW d [] (fun f vs => PySem.call f vs) := by
  refine Att.attach_call hn hdf ?_
  intro w s0 s1 mg mb fa o pm cd doc a vs ns G Y ho hd hcd hmg hobj hints hlen hg
  have KX := hY w _ Y
  obtain ⟨fd, hb, hF⟩ := F w mg fa _ KX G.T.g hmg
  exact lawG KX G.T.g G.T.b G.T.builtins G.T.nolimit hg hobj hints (Nat.le_trans hlen hn2) hr G.T.nodigits hF hb
    (fun H hO hS => hsp (K w.params) H a ns hlen hO hS)

/-! ### numbers -/
section
variable {X : Cx}
theorem pe_globV {x : Str} {v : V} {pos : Pos} (hg : Gl X x) (hm : ∃ u, X.mg x = some u ∧ RelV v u)
    (hd : (x == ("__debug__" : Str)) = false := by decide) : PE X (.Name x pos) (tC v) := by
  obtain ⟨u, h, r⟩ := hm
  exact pe_glob hg h r hd
def CMulA (i j : Int) : Prop := CMul i j ∨ CMulW i j
theorem cmulL {i j : Int} (h1 : -(2 ^ 64) < i) (h2 : i < 2 ^ 64) : CMulA i j := Or.inl (Or.inl ⟨h1, h2⟩)
theorem cmulR {i j : Int} (h1 : -(2 ^ 64) < j) (h2 : j < 2 ^ 64) : CMulA i j := Or.inl (Or.inr ⟨h1, h2⟩)
theorem op_mulA : OpR X (binaryOp .Mult) (rI CMulA fun i j => .int (i * j)) :=
  opI fun _ _ _ _ _ _ _ hc q => mul_int q (hc.elim CMul.ok CMulW.ok)
def B9 : Int := 2 ^ 8000
theorem small_B9 {j : Int} (h : j ≤ 10 ^ 60) : j < B9 := Int.lt_of_le_of_lt h (by unfold B9; decide +kernel)
def CDivA (_ j : Int) : Prop := 0 < j ∧ j < B9
theorem cdiv {i j : Int} (h : 0 < j) (h2 : j ≤ 10 ^ 60) : CDivA i j := ⟨h, small_B9 h2⟩
theorem log_B9 {j : Int} (h1 : 0 < j) (h2 : j < B9) : j.natAbs.log2 < 9000 := by
  have h3 : j.natAbs < 2 ^ 8000 := by
    have e : ((j.natAbs : Nat) : Int) < ((2 ^ 8000 : Nat) : Int) := by
      rw [Int.natAbs_of_nonneg (Int.le_of_lt h1)]
      exact h2
    exact Int.ofNat_lt.mp e
  exact Nat.lt_of_lt_of_le (PySem.Flt.log2_lt_of (by decide) h3) (by decide)
theorem op_fdivA : OpR X (binaryOp .FloorDiv) (rI CDivA fun i j => .int (i / j)) :=
  opI fun i j _ _ _ _ _ hc q => by
    have h1 : (0 : Int) < j := hc.1
    have e := Int.fdiv_eq_ediv_of_nonneg i (Int.le_of_lt h1)
    refine floordiv_int (by omega) ?_ (.inl (PyProof.noPylong_of_log2 (log_B9 h1 hc.2)))
    rw [e]
    exact q
def CPowA (i j : Int) : Prop := 0 ≤ j ∧ (Builtin.Int.intBits i : Int) * j ≤ 2 ^ 27
theorem op_powA : OpR X (binaryOp .Pow) (rI CPowA fun i j => .int (i ^ j.toNat)) :=
  opI fun _ _ _ _ _ _ _ hc q => pow_int hc.1 hc.2 q
end

/-! ### built-ins by names of their own -/
def rLen (K : PySem.W.Frag) : List V → Hp → VK → Prop := fun xs H Q => ∃ x n, xs = [x] ∧ LenV K x H n ∧ Q (.int (n : Nat)) H
theorem call_lenA {X : Cx} : CallR X (.builtin "len") (rLen X.K) := call_len
/-! ### repr of data -/
def rReprD (K : PySem.W.Frag) : List V → Hp → VK → Prop := fun xs H Q => ∃ x d, xs = [x] ∧ Dp K H x d ∧
  d.showable = true ∧ d.hasDict = false ∧ d.depth ≤ 30 ∧ d.shown.length ≤ sizeLine ∧ Q (.str d.shown) H
theorem call_reprD {X : Cx} {k : Nat} (hr : Room k X.A) (hG : X.A.guards = some []) :
    CallR X (.builtin "repr") (rReprD X.K) := by
  intro pins s σ H xs us Q I r h
  obtain ⟨x, d, rfl, hd, hs, hnd, hdep, hsz, q⟩ := h
  obtain ⟨u, rfl, r1⟩ := vals1 r
  obtain ⟨as, rd⟩ := Dp.reads I d x u hd r1
  cases hd with
  | non => cases r1; exact P.repr_of_none ⟨.str _, H, I.tok _, ⟨_, rfl⟩, q⟩
  | bl b => cases r1; exact P.repr_of_bool ⟨.str _, H, I.tok _, ⟨_, rfl⟩, q⟩
  | int i =>
    obtain ⟨t, rfl⟩ := r1
    exact P.repr_of_int (of_decide_eq_true hs) ⟨.str _, H, I.tok _, ⟨_, rfl⟩, q⟩
  | str z =>
    obtain ⟨t, rfl⟩ := r1
    exact P.repr_of_str ⟨.str _, H, I.tok _, ⟨_, rfl⟩, q⟩ hsz
  | lst h1 h2 =>
    cases r1
    exact repr_of_reads' rd hs (PyData.noDict_hsm hnd) hG (by have := hr.units; omega) (fun _ _ e => e)
      (fun h' u tk hk => ⟨.str _, H, I.kept hk, ⟨_, rfl⟩, q⟩) hsz
  | tup h1 h2 =>
    cases r1
    exact repr_of_reads' rd hs (PyData.noDict_hsm hnd) hG (by have := hr.units; omega) (fun _ _ e => e)
      (fun h' u tk hk => ⟨.str _, H, I.kept hk, ⟨_, rfl⟩, q⟩) hsz
end Gl

set_option Elab.async false
set_option maxRecDepth 100000
set_option maxHeartbeats 4000000
set_option linter.all false
/-! the stepper's lemmas: one a reading -/
namespace Gl
open PySem PySem.Spec L2
section
variable {σ : L2.St} {H H' : Hp} {Q : VK} {QT : Bool → Hp → Prop} {QA : List V → Hp → Prop} {v x y z : V} {te ta tb tc : TE} {tt tu : TT} {aa ar : TA}
  {t u : TS} {g : TG} {gs : TGs} {nx : L2.St → Hp → Prop} {rt : VK} {bk ct : L2.St → Hp → Prop} {i j : Nat} {r r' : R2} {K : PySem.W.Frag} {a d : Addr} {xs : List V} {b : Bool} {m n : Int}
theorem at_0 {x : V} {xs : List V} : atI (x :: xs) 0 = some x := atI_nat (j := 0) rfl
theorem at_1 {x y : V} {xs : List V} : atI (x :: y :: xs) 1 = some y := atI_nat (j := 1) rfl
theorem at_2 {x y z : V} {xs : List V} : atI (x :: y :: z :: xs) 2 = some z := atI_nat (j := 2) rfl
theorem at_3 {x y z w : V} {xs : List V} : atI (x :: y :: z :: w :: xs) 3 = some w := atI_nat (j := 3) rfl
theorem ix_0 {n : Nat} : ixN (n + 1) 0 = some 0 := by unfold ixN; rw [if_pos (by omega), if_pos (by omega)]; rfl
theorem ix_1 {n : Nat} : ixN (n + 2) 1 = some 1 := by unfold ixN; rw [if_pos (by omega), if_pos (by omega)]; rfl
theorem ix_2 {n : Nat} : ixN (n + 3) 2 = some 2 := by unfold ixN; rw [if_pos (by omega), if_pos (by omega)]; rfl
/-- statements -/
theorem r_seq (h : t ⟨u ⟨nx, rt, bk, ct⟩, rt, bk, ct⟩ σ H) : tSeq t u ⟨nx, rt, bk, ct⟩ σ H := h
theorem r_next (h : nx σ H) : tNext ⟨nx, rt, bk, ct⟩ σ H := h
theorem r_brk (h : bk σ H) : tBreak ⟨nx, rt, bk, ct⟩ σ H := h
theorem r_cont (h : ct σ H) : tCont ⟨nx, rt, bk, ct⟩ σ H := h
theorem r_asg (h : te σ H fun x H1 => g x σ H1 nx) : tAsg te g ⟨nx, rt, bk, ct⟩ σ H := h
theorem r_ret (h : te σ H rt) : tRet te ⟨nx, rt, bk, ct⟩ σ H := h
theorem r_retN (h : rt .non H) : tRetN ⟨nx, rt, bk, ct⟩ σ H := h
theorem r_drop (h : te σ H fun _ H1 => nx σ H1) : tDrop te ⟨nx, rt, bk, ct⟩ σ H := h
theorem r_if (h : tt σ H fun b H1 => if b = true then t ⟨nx, rt, bk, ct⟩ σ H1 else u ⟨nx, rt, bk, ct⟩ σ H1) : tIfS tt t u ⟨nx, rt, bk, ct⟩ σ H := h
theorem r_par (h : aa σ H fun vs H1 => ∃ v w, vs = [v, w] ∧ nx ((σ.set i (some v)).set j (some w)) H1) : tPar i j aa ⟨nx, rt, bk, ct⟩ σ H := h
/-- targets -/
theorem r_gname {k : L2.St → Hp → Prop} (h : k (σ.set i (some v)) H) : gName i v σ H k := h
theorem r_gnil {k : L2.St → Hp → Prop} (h : k σ H) : gNil [] σ H k := ⟨rfl, h⟩
theorem r_gcons {k : L2.St → Hp → Prop} (h : g v σ H fun σ' H' => gs xs σ' H' k) : gCons g gs (v :: xs) σ H k := ⟨v, xs, rfl, h⟩
theorem r_gtup {k : L2.St → Hp → Prop} (hs : SqT K H a xs) (hl : xs.length = i) (h : gs xs σ H k) : gTup K i gs (.ref a) σ H k := ⟨a, xs, rfl, hs, hl, h⟩
theorem r_gsub {k : L2.St → Hp → Prop} {ts : TSet} (h : ta σ H fun o H1 => tb σ H1 fun i H2 => ts o i v H2 fun H3 => k σ H3) : gSub ta tb ts v σ H k := h
theorem r_setL {k : Hp → Prop} (hp : H a = some (.lst xs)) (hj : ixN xs.length m = some j) (h : k (upd H a (.lst (xs.set j v)))) : rSetL (.ref a) (.int m) v H k :=
  ⟨a, xs, m, j, rfl, rfl, hp, hj, h⟩
/-- expressions -/
theorem r_var (e : σ[i]? = some (some v)) (h : Q v H) : tVar i σ H Q := ⟨v, e, h⟩
theorem r_c (h : Q v H) : tC v σ H Q := h
theorem r_op (h : ta σ H fun x H1 => tb σ H1 fun y H2 => r x y H2 Q) : tOp r ta tb σ H Q := h
theorem r_un {ru : V → Hp → VK → Prop} (h : ta σ H fun x H1 => ru x H1 Q) : tUn ru ta σ H Q := h
theorem r_i0 {f : Int → Int → V} (h : Q (f m n) H) : rI0 f (.int m) (.int n) H Q := ⟨m, n, rfl, rfl, h⟩
theorem r_i {f : Int → Int → V} {C : Int → Int → Prop} (hc : C m n) (h : Q (f m n) H) : rI C f (.int m) (.int n) H Q := ⟨m, n, rfl, rfl, hc, h⟩
theorem r_u {f : Int → V} (h : Q (f m) H) : rU f (.int m) H Q := ⟨m, rfl, h⟩
theorem r_eq (hs : scal x y = true) (h : Q (.bl (decide (x = y))) H) : rEq x y H Q := ⟨hs, h⟩
theorem r_ne (hs : scal x y = true) (h : Q (.bl (!decide (x = y))) H) : rNe x y H Q := ⟨hs, h⟩
theorem r_ixL (hs : SqL K H a xs) (hi : atI xs m = some v) (h : Q v H) : rIxL K (.ref a) (.int m) H Q := ⟨a, xs, m, v, rfl, rfl, hs, hi, h⟩
theorem r_ixT (hs : SqT K H a xs) (hi : atI xs m = some v) (h : Q v H) : rIxT K (.ref a) (.int m) H Q := ⟨a, xs, m, v, rfl, rfl, hs, hi, h⟩
theorem r_chain (h : ta σ H fun x H1 => tb σ H1 fun y H2 => r x y H2 fun z H3 => ∃ k, z = .bl k ∧ (if k = true then tc σ H3 fun w' H4 => r' y w' H4 Q else Q (.bl false) H3)) :
    tChain r r' ta tb tc σ H Q := h
theorem r_andV (h : ta σ H fun x H1 => ∃ c, x = .bl c ∧ if c = true then tb σ H1 Q else Q (.bl false) H1) : tAndV ta tb σ H Q := h
theorem r_orV (h : ta σ H fun x H1 => ∃ c, x = .bl c ∧ if c = true then Q (.bl true) H1 else tb σ H1 Q) : tOrV ta tb σ H Q := h
theorem r_notV (h : ta σ H fun x H1 => ∃ c, x = .bl c ∧ Q (.bl (!c)) H1) : tNotV ta σ H Q := h
theorem r_ifE (h : tt σ H fun c H1 => if c = true then ta σ H1 Q else tb σ H1 Q) : tIf tt ta tb σ H Q := h
abbrev newT (xs : List V) (H : Hp) (Q : VK) : Prop := xs.length ≤ sizeLine ∧ ∀ p, H p = none → Q (.ref p) (upd H p (.tup xs))
abbrev newL (xs : List V) (H : Hp) (Q : VK) : Prop := xs.length ≤ sizeLine ∧ ∀ p, H p = none → Q (.ref p) (upd H p (.lst xs))
theorem r_tup (h : aa σ H fun xs H1 => newT xs H1 Q) : tTup aa σ H Q := h
theorem r_lst (h : aa σ H fun xs H1 => newL xs H1 Q) : tLst aa σ H Q := h
theorem newS {p : Addr} {o : HO} (h : H p = none) : Same H (upd H p o) := fun c o' e => (upd_ne (ne_of_none e h)).trans e
/-- a new object: all that was stands, and it stands -/
theorem r_newT (hl : xs.length ≤ sizeLine) (h : ∀ p H', H p = none → Same H H' → H' p = some (.tup xs) → Q (.ref p) H') : newT xs H Q := ⟨hl, fun p hp => h p _ hp (newS hp) upd_same⟩
theorem r_newL (hl : xs.length ≤ sizeLine) (h : ∀ p H', H p = none → Same H H' → H' p = some (.lst xs) → Q (.ref p) H') : newL xs H Q := ⟨hl, fun p hp => h p _ hp (newS hp) upd_same⟩
theorem r_disp1 {k : Key} (hk : kV k = x) (h : ∀ p H', H p = none → Same H H' → H' p = some (.dK (mergeK [] [(k, v)])) → Q (.ref p) H') : tDisp [(tC x, tC v)] σ H Q :=
  fun p hp => ⟨upd_same, [(k, v)], by rw [← hk]; rfl, (by show 1 ≤ 15; decide), by rw [upd_upd]; exact h p _ hp (newS hp) upd_same⟩
theorem r_dnew (h : ∀ p H', H p = none → Same H H' → H' p = some (.dK []) → Q (.ref p) H') : tDNewK σ H Q := fun p hp => h p _ hp (newS hp) upd_same
theorem pairs_c : ∀ (kvs : List (Key × V)) {R : List (V × V) → Hp → Prop}, R (kvs.map fun kv => (kV kv.1, kv.2)) H → tPairs (kvs.map fun kv => (tC (kV kv.1), tC kv.2)) σ H R
  | [], _, h => h
  | kv :: r, R, h => pairs_c r (R := fun xs H' => R ((kV kv.1, kv.2) :: xs) H') h
theorem r_dispC {trs : List (TE × TE)} (kvs : List (Key × V)) (e : trs = kvs.map fun kv => (tC (kV kv.1), tC kv.2)) (hl : kvs.length ≤ 15)
    (h : ∀ p H', H p = none → Same H H' → H' p = some (.dK (mergeK [] kvs)) → Q (.ref p) H') : tDisp trs σ H Q := by
  subst e
  intro p hp
  refine pairs_c kvs ⟨upd_same, kvs, rfl, hl, ?_⟩
  rw [upd_upd]
  exact h p _ hp (newS hp) upd_same
theorem r_isB {b c : Bool} (h : Q (.bl (decide (b = c))) H) : rIsB (.bl b) (.bl c) H Q := ⟨b, c, rfl, rfl, h⟩
theorem r_notB {b c : Bool} (h : Q (.bl (!decide (b = c))) H) : rNotB (.bl b) (.bl c) H Q := ⟨b, c, rfl, rfl, h⟩
/-- values without the rest -/
theorem v_and {c b : Bool} (ha : Val ta σ H (.bl c)) (hb : c = true → Val tb σ H (.bl b)) (h : Q (.bl (c && b)) H) : tAndV ta tb σ H Q := by
  refine ha _ ⟨c, rfl, ?_⟩
  cases c with
  | true => exact iteT (hb rfl _ h)
  | false => exact iteF h
theorem v_or {c b : Bool} (ha : Val ta σ H (.bl c)) (hb : c = false → Val tb σ H (.bl b)) (h : Q (.bl (c || b)) H) : tOrV ta tb σ H Q := by
  refine ha _ ⟨c, rfl, ?_⟩
  cases c with
  | true => exact iteT h
  | false => exact iteF (hb rfl _ h)
theorem t_or {c b : Bool} (ha : Ans tt σ H c) (hb : c = false → Ans tu σ H b) (h : QT (c || b) H) : tOr tt tu σ H QT := by
  refine ha _ ?_
  cases c with
  | true => exact iteT h
  | false => exact iteF (hb rfl _ h)
theorem t_and {c b : Bool} (ha : Ans tt σ H c) (hb : c = true → Ans tu σ H b) (h : QT (c && b) H) : tAnd tt tu σ H QT := by
  refine ha _ ?_
  cases c with
  | true => exact iteT (hb rfl _ h)
  | false => exact iteF h
theorem v_if {c : Bool} (ht : Ans tt σ H c) (ha : c = true → Val ta σ H v) (hb : c = false → Val tb σ H v) (h : Q v H) : tIf tt ta tb σ H Q := by
  refine ht _ ?_
  cases c with
  | true => exact iteT (ha rfl _ h)
  | false => exact iteF (hb rfl _ h)
/-- == and != of data -/
theorem r_eqDT {e : PyData} (h1 : Dp K H x e) (h2 : Dp K H y e) (hs : SeqAt.shaped e = true) (h : Q (.bl true) H) : rEqD K x y H Q := by
  have hc : e.canLay0 = true := by
    unfold SeqAt.shaped at hs
    rw [Bool.and_eq_true] at hs
    exact hs.1
  refine ⟨e, e, h1, h2, hs, hs, ?_⟩
  rw [SeqAt.eqv_refl e hc]
  exact h
theorem r_neDF {e : PyData} (h1 : Dp K H x e) (h2 : Dp K H y e) (hs : SeqAt.shaped e = true) (h : Q (.bl false) H) : rNeD K x y H Q := by
  have hc : e.canLay0 = true := by
    unfold SeqAt.shaped at hs
    rw [Bool.and_eq_true] at hs
    exact hs.1
  refine ⟨e, e, h1, h2, hs, hs, ?_⟩
  rw [SeqAt.eqv_refl e hc]
  exact h
/-- repr of data -/
theorem r_repr (e : PyData) (hd : Dp K H x e) (hs : e.showable = true) (hn : e.hasDict = false) (hp : e.depth ≤ 30) (hl : e.shown.length ≤ sizeLine) (h : Q (.str e.shown) H) : rReprD K [x] H Q :=
  ⟨x, e, rfl, hd, hs, hn, hp, hl, h⟩
theorem r_cb {rc : List V → Hp → VK → Prop} (h : aa σ H fun vs H1 => rc vs H1 Q) : tCB rc aa σ H Q := h
theorem r_call {sp : Sp} {dvs : List V} {E : XK} (h : aa σ H fun vs H1 => sp (vs ++ dvs) H1 Q E) : tCall sp dvs E aa σ H Q := h
theorem r_bm {T : String} {rm : V → List V → Hp → VK → Prop} (h : te σ H fun x H1 => tyV K T x H1 ∧ aa σ H1 fun xs H2 => rm x xs H2 Q) : tBM K T rm te aa σ H Q := h
theorem r_bm0 {T : String} {rm : V → List V → Hp → VK → Prop} (h : te σ H fun x H1 => tyV K T x H1 ∧ rm x [] H1 Q) : tBM0 K T rm te σ H Q := h
theorem r_nil (h : QA [] H) : tNil σ H QA := h
theorem r_cons (h : te σ H fun x H1 => aa σ H1 fun xs H2 => QA (x :: xs) H2) : tCons te aa σ H QA := h
/-- tests -/
theorem r_test (h : te σ H fun x H' => ∃ k, x = .bl k ∧ QT k H') : tTest te σ H QT := h
theorem r_B (h : te σ H fun x H' => ∃ k, x = .bl k ∧ QT k H') : tB te σ H QT := h
theorem r_and (h : tt σ H fun c H1 => if c = true then tu σ H1 QT else QT false H1) : tAnd tt tu σ H QT := h
theorem r_or (h : tt σ H fun c H1 => if c = true then QT true H1 else tu σ H1 QT) : tOr tt tu σ H QT := h
theorem r_not (h : tt σ H fun c H1 => QT (!c) H1) : tNot tt σ H QT := h
/-- len -/
theorem r_lenL (hs : SqL K H a xs) (h : Q (.int xs.length) H) : rLen K [V.ref a] H Q := ⟨_, _, rfl, .inl ⟨xs, hs, rfl⟩, h⟩
theorem r_lenT (hs : SqT K H a xs) (h : Q (.int xs.length) H) : rLen K [V.ref a] H Q := ⟨_, _, rfl, .inr ⟨xs, hs, rfl⟩, h⟩
theorem r_lenS {s : Str} (hs : s.length ≤ sizeLine) (h : Q (.int s.length) H) : rLen K [V.str s] H Q := ⟨_, _, rfl, ⟨hs, rfl⟩, h⟩
theorem r_yes (h : QT true H) : tYes σ H QT := h
theorem r_wipe {vs : List Nat} {p : Prop} {σ' : L2.St} (e : wipe σ' vs = wipe σ vs) (h : p) : wipe σ' vs = wipe σ vs ∧ p := ⟨e, h⟩
/-- answers -/
theorem e_i {p : Int → Prop} (h : p m) : ∃ j, [V.int m] = [.int j] ∧ p j := ⟨m, rfl, h⟩
theorem e_b {p : Bool → Prop} (h : p b) : ∃ j, [V.bl b] = [.bl j] ∧ p j := ⟨b, rfl, h⟩
theorem e_s {p : Str → Prop} {s : Str} (h : p s) : ∃ j, [V.str s] = [.str j] ∧ p j := ⟨s, rfl, h⟩
theorem e_ii {p : Int → Int → Prop} (h : p m n) : ∃ i j, [V.int m, V.int n] = [.int i, .int j] ∧ p i j := ⟨m, n, rfl, h⟩
theorem e_vv {p : V → V → Prop} (h : p x y) : ∃ i j, [x, y] = [i, j] ∧ p i j := ⟨x, y, rfl, h⟩
theorem e_vvv {p : V → V → V → Prop} (h : p x y z) : ∃ i j l, [x, y, z] = [i, j, l] ∧ p i j l := ⟨x, y, z, rfl, h⟩
theorem e_ss {p : Str → Str → Prop} {s s' : Str} (h : p s s') : ∃ i j, V.str s = .str i ∧ V.str s' = .str j ∧ p i j := ⟨s, s', rfl, rfl, h⟩
theorem e_cs {p : Nat → Str → Prop} {c : Nat} {s' : Str} (h : p c s') : ∃ c' j, V.str ⟨#[c]⟩ = .str ⟨#[c']⟩ ∧ V.str s' = .str j ∧ p c' j := ⟨c, s', rfl, rfl, h⟩
theorem e_or1 {p q : Prop} (h : p) : p ∨ q := Or.inl h
theorem e_oi {p : Int → Prop} {q : Prop} (h : p m) : (∃ j, [V.int m] = [.int j] ∧ p j) ∨ q := Or.inl ⟨m, rfl, h⟩
theorem e_ob {p : Bool → Prop} {q : Prop} (h : p b) : q ∨ ∃ j, [V.bl b] = [.bl j] ∧ p j := Or.inr ⟨b, rfl, h⟩
theorem r_bl {p : Bool → Prop} (h : p b) : ∃ k, V.bl b = .bl k ∧ p k := ⟨b, rfl, h⟩
end
/-! ### kinds of values -/
inductive Knd (K : PySem.W.Frag) (H : Hp) : V → String → Prop
  | non : Knd K H .non "NoneType"
  | bl (b : Bool) : Knd K H (.bl b) "bool"
  | int (i : Int) : Knd K H (.int i) "int"
  | str (x : Str) : Knd K H (.str x) "str"
  | lst {a : Addr} {xs : List V} (e : SqL K H a xs) : Knd K H (.ref a) "list"
  | tup {a : Addr} {xs : List V} (e : SqT K H a xs) : Knd K H (.ref a) "tuple"
  | dK {a : Addr} {kvs : List (Key × V)} (e : H a = some (.dK kvs)) : Knd K H (.ref a) "dict"
theorem Knd.ty {K : PySem.W.Frag} {H : Hp} {v : V} {n : String} (h : Knd K H v n) : TyX K H v (.type n) := by
  cases h with
  | non => exact .base .non
  | bl b => exact .base (.bl b)
  | int i => exact .base (.int i)
  | str x => exact .base (.str x)
  | lst e =>
    rcases e with (e | ⟨o, e⟩) | ⟨o, its, n, e, c, _⟩
    · exact .base (.lst e)
    · exact .base (.frz e)
    · exact .kList e c
  | tup e =>
    rcases e with (e | ⟨o, e⟩) | ⟨o, its, n, e, c, _⟩
    · exact .base (.tup e)
    · exact .fTuple e
    · exact .kTuple e c
  | dK e => exact .base (.dK e)
theorem rdS {H H' : Hp} {a : Addr} {u : HO} (s : Same H H') (h : Rd H a u) : Rd H' a u := by
  rcases h with h | ⟨o, h⟩
  · exact Or.inl (s _ _ h)
  · exact Or.inr ⟨o, s _ _ h⟩
theorem sqTS {K : PySem.W.Frag} {H H' : Hp} {a : Addr} {xs : List V} (s : Same H H') (h : SqT K H a xs) : SqT K H' a xs := h.elim (fun h => Or.inl (rdS s h)) Or.inr
theorem sqLS {K : PySem.W.Frag} {H H' : Hp} {a : Addr} {xs : List V} (s : Same H H') (h : SqL K H a xs) : SqL K H' a xs := h.elim (fun h => Or.inl (rdS s h)) Or.inr
theorem Knd.same {K : PySem.W.Frag} {H H' : Hp} {v : V} {n : String} (s : Same H H') (h : Knd K H v n) : Knd K H' v n := by
  cases h with
  | non => exact .non
  | bl b => exact .bl b
  | int i => exact .int i
  | str x => exact .str x
  | lst e => exact .lst (sqLS s e)
  | tup e => exact .tup (sqTS s e)
  | dK e => exact .dK (s _ _ e)
def kinds : List String := ["NoneType", "bool", "int", "str", "list", "tuple", "dict"]
def asked : List String := ["bool", "int", "str", "list", "tuple", "dict"]
def isKind (n c : String) : Bool := n == c || (n == "bool" && c == "int")
theorem kit_all : ∀ n ∈ kinds, ∀ c ∈ asked, kitB n c = some (isKind n c) := by decide +kernel
theorem Knd.mem {K : PySem.W.Frag} {H : Hp} {v : V} {n : String} (h : Knd K H v n) : n ∈ kinds := by cases h <;> decide
theorem r_isiB {K : PySem.W.Frag} {H : Hp} {v : V} {n c : String} {Q : VK} {b : Bool} (hk : Knd K H v n) (hc : c ∈ asked) (hb : isKind n c = b) (h : Q (.bl b) H) : rIsi K [v, .ty c] H Q :=
  ⟨v, .ty c, .type n, .type c, b, rfl, .ty c, hk.ty, kit_ty (hb ▸ kit_all n hk.mem c hc), h⟩
theorem r_isiT {K : PySem.W.Frag} {H : Hp} {v : V} {n c : String} {Q : VK} (hk : Knd K H v n) (hc : c ∈ asked) (hb : isKind n c = true) (h : Q (.bl true) H) : rIsi K [v, .ty c] H Q := r_isiB hk hc hb h
theorem r_isiF {K : PySem.W.Frag} {H : Hp} {v : V} {n c : String} {Q : VK} (hk : Knd K H v n) (hc : c ∈ asked) (hb : isKind n c = false) (h : Q (.bl false) H) : rIsi K [v, .ty c] H Q := r_isiB hk hc hb h
def partK (x : V) (H : Hp) (Q : Option Int → Hp → Prop) : Prop := ∃ i, x = .int i ∧ Q (some i) H
/-- methods of lists -/
theorem r_tyL {K : PySem.W.Frag} {H : Hp} {a : Addr} {xs : List V} {p : Prop} (hs : SqL K H a xs) (h : p) : tyV K "list" (.ref a) H ∧ p := ⟨.inl ⟨rfl, xs, hs⟩, h⟩
theorem r_app {H : Hp} {a : Addr} {xs : List V} {v : V} {Q : VK} (hl : H a = some (.lst xs)) (hz : xs.length < sizeLine) (h : Q .non (upd H a (.lst (xs ++ [v])))) : rAppend (.ref a) [v] H Q := ⟨a, xs, v, rfl, rfl, hl, hz, h⟩
theorem r_popAt {H : Hp} {a : Addr} {xs : List V} {i : Int} {Q : VK} (hl : H a = some (.lst xs)) (h0 : 0 ≤ i) (hi : i < xs.length) (hm : xs.length ≤ 1000000) (h : ∀ y k, xs[k]? = some y → Q y (upd H a (.lst (xs.eraseIdx k)))) : rPopAt (.ref a) [.int i] H Q := by
  have hk : i.toNat < xs.length := by omega
  refine ⟨a, xs, i, i.toNat, xs[i.toNat], rfl, rfl, hl, by omega, by omega, ?_, by simp [hk], h _ _ (by simp [hk])⟩
  show (if (decide (0 ≤ (if i < 0 then i + (xs.length : Int) else i)) && decide ((if i < 0 then i + (xs.length : Int) else i) < (xs.length : Int))) = true then some (if i < 0 then i + (xs.length : Int) else i).toNat else none) = _
  rw [if_neg (by omega : ¬ i < 0), decide_eq_true h0, decide_eq_true hi]
  rfl
theorem r_start {N : List Str} {vs : List V} {σ : L2.St} {t : TS} {D : Ends} {H : Hp} (e : start N vs = σ) (h : t D σ H) : t D (start N vs) H := e ▸ h
/-- lists put together, repeated -/
theorem r_cat {H : Hp} {a b : Addr} {xs ys : List V} {Q : VK} (h1 : H a = some (.lst xs)) (h2 : H b = some (.lst ys)) (hz : xs.length + ys.length ≤ sizeLine) (h : ∀ p H', H p = none → Same H H' → H' p = some (.lst (xs ++ ys)) → Q (.ref p) H') : rCat (.ref a) (.ref b) H Q :=
  ⟨a, b, xs, ys, rfl, rfl, h1, h2, hz, fun p hp => h p _ hp (fun c o' e => (upd_ne (ne_of_none e hp)).trans e) upd_same⟩
theorem r_rep {H : Hp} {a : Addr} {xs : List V} {k : Int} {Q : VK} (h1 : H a = some (.lst xs)) (h2 : 0 ≤ k) (h3 : k ≤ 1000) (h4 : xs.length ≤ 1000) (h : ∀ p H', H p = none → Same H H' → H' p = some (.lst (List.replicate k.toNat xs).flatten) → Q (.ref p) H') : rRep (.ref a) (.int k) H Q := by
  have hz : xs.length * k.toNat ≤ 1000 * 1000 := Nat.mul_le_mul h4 (by omega)
  exact ⟨a, k, xs, rfl, rfl, h1, by omega, by omega, Nat.le_trans hz (by decide), fun p hp => h p _ hp (fun c o' e => (upd_ne (ne_of_none e hp)).trans e) upd_same⟩
section
variable {K : PySem.W.Frag} {H : Hp} {σ : L2.St} {Q : VK} {a : Addr} {xs : List V} {te : TE} {lo hi : Option Int} {to tu : TO} {QO : Option Int → Hp → Prop}
theorem r_sl {r : V → Option Int → Option Int → Hp → VK → Prop} (h : te σ H fun x H1 => to σ H1 fun l H2 => tu σ H2 fun u H3 => r x l u H3 Q) : tSl r te to tu σ H Q := h
theorem r_noPart (h : QO none H) : tNoPart σ H QO := h
theorem r_part (h : te σ H fun x H1 => partK x H1 QO) : tPart te σ H QO := h
theorem r_partK {i : Int} (h : QO (some i) H) : partK (.int i) H QO := ⟨i, rfl, h⟩
theorem r_slL (hs : SqL K H a xs) (h : ∀ p H', H p = none → Same H H' → H' p = some (.lst (cutV xs lo hi)) → Q (.ref p) H') : rSlL K (.ref a) lo hi H Q :=
  ⟨a, xs, rfl, hs, fun p hp => h p _ hp (fun c o' e => (upd_ne (ne_of_none e hp)).trans e) upd_same⟩
theorem cut_to (xs : List V) (n : Nat) : cutV xs none (some (n : Int)) = xs.take n := by
  unfold cutV
  rw [HT.sIx_nat, HT.sIx_none, List.drop_zero, Nat.sub_zero]
  by_cases h : n ≤ xs.length
  · rw [Nat.min_eq_left h]
  · rw [Nat.min_eq_right (by omega), List.take_length, List.take_of_length_le (by omega)]
theorem cut_from (xs : List V) (n : Nat) : cutV xs (some (n : Int)) none = xs.drop n := by
  unfold cutV
  rw [HT.sIx_nat, HT.sIx_none]
  by_cases h : n ≤ xs.length
  · rw [Nat.min_eq_left h, List.take_of_length_le (by rw [List.length_drop]; omega)]
  · rw [Nat.min_eq_right (by omega), Nat.sub_self, List.take_zero, List.drop_of_length_le (by omega)]
end
theorem iteNF {A B : Prop} (h : A) : if (!false) = true then A else B := iteT h
theorem iteNT {A B : Prop} (h : B) : if (!true) = true then A else B := iteF h
theorem r_it2 {c : Bool} {A B : Prop} (h1 : c = true → A) (h2 : c = false → B) : if c = true then A else B := by
  cases c with
  | true => exact iteT (h1 rfl)
  | false => exact iteF (h2 rfl)
/-! ### loops -/
/-- what is asked of a loop once its walked thing stands -/
def forK (J : It) (g : TG) (tb : TS) (D : Ends) (σ : L2.St) (H : Hp) : Prop := tFor (fun _ H R => R J H) g tb D σ H
def lcK (J : It) (g : TG) (tt : TT) (te : TE) (vs : List Nat) (Q : VK) (σ : L2.St) (H : Hp) : Prop := tLc (fun _ H R => R J H) g tt te vs σ H Q
section
variable {σ : L2.St} {H : Hp} {Q : VK} {wi : TI} {g : TG} {tb : TS} {D : Ends} {J : It} {R : It → Hp → Prop} {ta : TA} {te tl : TE} {tt : TT} {vs : List Nat} {K : PySem.W.Frag} {a : Addr} {xs : List V}
  {nx : L2.St → Hp → Prop} {rt : VK} {bk ct : L2.St → Hp → Prop} {n : Nat} {G : Hp → Prop} {Y : Nat → Hp → V → Hp → Prop}
theorem r_for (h : wi σ H fun J H1 => forK J g tb D σ H1) : tFor wi g tb D σ H := h
theorem r_lc (h : wi σ H fun J H1 => lcK J g tt te vs Q σ H1) : tLc wi g tt te vs σ H Q := h
def rng1K (vs : List V) (H : Hp) (R : It → Hp → Prop) : Prop := ∃ j : Int, vs = [.int j] ∧ -(2 ^ 62) ≤ j ∧ j < 2 ^ 62 ∧ R (Itr 0 j.toNat) H
def rng2K (vs : List V) (H : Hp) (R : It → Hp → Prop) : Prop := ∃ i j : Int, vs = [.int i, .int j] ∧ (-(2 ^ 62) ≤ i ∧ i < 2 ^ 62 ∧ -(2 ^ 62) ≤ j ∧ j < 2 ^ 62) ∧ R (Itr i (j - i).toNat) H
theorem r_rng1 (h : ta σ H fun vs H1 => rng1K vs H1 R) : iRng1 ta σ H R := h
theorem r_rng2 (h : ta σ H fun vs H1 => rng2K vs H1 R) : iRng2 ta σ H R := h
theorem r_rng1k {j : Int} (h1 : -(2 ^ 62) ≤ j) (h2 : j < 2 ^ 62) (h : R (Itr 0 j.toNat) H) : rng1K [.int j] H R := ⟨j, rfl, h1, h2, h⟩
theorem r_rng2k {i j : Int} (h1 : -(2 ^ 62) ≤ i) (h2 : i < 2 ^ 62) (h3 : -(2 ^ 62) ≤ j) (h4 : j < 2 ^ 62) (h : R (Itr i (j - i).toNat) H) : rng2K [.int i, .int j] H R := ⟨i, j, rfl, ⟨h1, h2, h3, h4⟩, h⟩
def iterLK (K : PySem.W.Frag) (x : V) (H : Hp) (R : It → Hp → Prop) : Prop := ∃ a, x = .ref a ∧ (∃ xs, SqL K H a xs) ∧ R (Itl K a) H
def iterTK (K : PySem.W.Frag) (x : V) (H : Hp) (R : It → Hp → Prop) : Prop := ∃ a, x = .ref a ∧ (∃ xs, SqT K H a xs) ∧ R (Itt K a) H
theorem r_iList (h : tl σ H fun x H1 => iterLK K x H1 R) : iList K tl σ H R := h
theorem r_iTup (h : tl σ H fun x H1 => iterTK K x H1 R) : iTup K tl σ H R := h
theorem r_iLk (hs : SqL K H a xs) (h : R (Itl K a) H) : iterLK K (.ref a) H R := ⟨a, rfl, ⟨xs, hs⟩, h⟩
theorem r_iTk (hs : SqT K H a xs) (h : R (Itt K a) H) : iterTK K (.ref a) H R := ⟨a, rfl, ⟨xs, hs⟩, h⟩
def iterSK (x : V) (H : Hp) (R : It → Hp → Prop) : Prop := ∃ z, x = .str z ∧ R (Its z) H
theorem r_iStr (h : tl σ H fun x H1 => iterSK x H1 R) : iStr tl σ H R := h
theorem r_iSk {z : Str} (h : R (Its z) H) : iterSK (.str z) H R := ⟨z, rfl, h⟩
theorem fk_it (w : Walk J n G Y) (Pv : Nat → L2.St → Hp → Prop) (h0 : Pv 0 σ H) (hG : ∀ i σ H, i ≤ n → Pv i σ H → G H)
    (hs : ∀ i x σ H H', i < n → Pv i σ H → Y i H x H' → g x σ H' fun σ2 H2 => tb ⟨Pv (i + 1), rt, nx, Pv (i + 1)⟩ σ2 H2) (hd : ∀ σ H, Pv n σ H → nx σ H) :
    forK J g tb ⟨nx, rt, bk, ct⟩ σ H := for_it w Pv h0 hG hs hd
theorem fk_rng {lo : Int} (Pv : Nat → L2.St → Hp → Prop) (h0 : Pv 0 σ H)
    (hs : ∀ i σ H, i < n → Pv i σ H → g (.int (lo + (i : Nat))) σ H fun σ2 H2 => tb ⟨Pv (i + 1), rt, nx, Pv (i + 1)⟩ σ2 H2) (hd : ∀ σ H, Pv n σ H → nx σ H) :
    forK (Itr lo n) g tb ⟨nx, rt, bk, ct⟩ σ H := fk_it walk_range Pv h0 (fun _ _ _ _ _ => trivial) (fun i x σ H H' hi p y => by
      obtain ⟨rfl, rfl⟩ := y
      exact hs i σ _ hi p) hd
theorem fk_list (Pv : Nat → L2.St → Hp → Prop) (h0 : Pv 0 σ H) (hl : ∀ i σ H, i ≤ xs.length → Pv i σ H → SqL K H a xs)
    (hs : ∀ i x σ H, xs[i]? = some x → Pv i σ H → g x σ H fun σ2 H2 => tb ⟨Pv (i + 1), rt, nx, Pv (i + 1)⟩ σ2 H2) (hd : ∀ σ H, Pv xs.length σ H → nx σ H) :
    forK (Itl K a) g tb ⟨nx, rt, bk, ct⟩ σ H := for_list Pv h0 hl hs hd
theorem fk_tup (Pv : Nat → L2.St → Hp → Prop) (h0 : Pv 0 σ H) (hl : ∀ i σ H, i ≤ xs.length → Pv i σ H → SqT K H a xs)
    (hs : ∀ i x σ H, xs[i]? = some x → Pv i σ H → g x σ H fun σ2 H2 => tb ⟨Pv (i + 1), rt, nx, Pv (i + 1)⟩ σ2 H2) (hd : ∀ σ H, Pv xs.length σ H → nx σ H) :
    forK (Itt K a) g tb ⟨nx, rt, bk, ct⟩ σ H := for_tup Pv h0 hl hs hd
def enumK (K : PySem.W.Frag) (vs : List V) (H : Hp) (R : It → Hp → Prop) : Prop := ∃ a xs, vs = [.ref a] ∧ SqL K H a xs ∧ R (Ite K a) H
theorem r_enum (h : ta σ H fun vs H1 => enumK K vs H1 R) : iEnum K ta σ H R := h
theorem r_enk (hs : SqL K H a xs) (h : R (Ite K a) H) : enumK K [.ref a] H R := ⟨a, xs, rfl, hs, h⟩
theorem fk_enum (Pv : Nat → L2.St → Hp → Prop) (h0 : Pv 0 σ H) (hl : ∀ i σ H, i ≤ xs.length → Pv i σ H → SqL K H a xs)
    (hs : ∀ i x σ H T H', xs[i]? = some x → Pv i σ H → H T = none → Same H H' → H' T = some (.tup [.int (i : Nat), x]) → g (.ref T) σ H' fun σ2 H2 => tb ⟨Pv (i + 1), rt, nx, Pv (i + 1)⟩ σ2 H2) (hd : ∀ σ H, Pv xs.length σ H → nx σ H) :
    forK (Ite K a) g tb ⟨nx, rt, bk, ct⟩ σ H := fk_it (walk_enum (xs := xs)) Pv h0 hl (fun i x σ H H' hi p y => by
      obtain ⟨T, x1, x2, rfl, hT, rfl, e1, e2⟩ := y
      cases e1
      exact hs i x2 σ H T _ e2 p hT (fun c o' e => (upd_ne (ne_of_none e hT)).trans e) upd_same) hd
/-- a comprehension: what is made so far stands at D -/
theorem lk_it (w : Walk J n G Y) (Pv : Addr → Nat → Hp → Prop) (h0 : ∀ D, H D = none → Pv D 0 (upd H D (.lst []))) (hG : ∀ D i H, i ≤ n → Pv D i H → G H)
    (hs : ∀ D i x H1 H', H D = none → i < n → Pv D i H1 → Y i H1 x H' → g x (wipe σ vs) H' fun σ2 H2 => wipe σ2 vs = wipe σ vs ∧ tt σ2 H2 fun b H3 =>
      if b = true then te σ2 H3 fun y H4 => ∃ acc, H4 D = some (.lst acc) ∧ acc.length < sizeLine ∧ Pv D (i + 1) (upd H4 D (.lst (acc ++ [y]))) else Pv D (i + 1) H3)
    (hd : ∀ D H1, H D = none → Pv D n H1 → Q (.ref D) H1) : lcK J g tt te vs Q σ H :=
  fun D hD => lc_it w (Pv D) (h0 D hD) (hG D) (fun i x H1 H' hi p y => hs D i x H1 H' hD hi p y) (fun H1 p => hd D H1 hD p)
end
theorem lk_ne {H : Hp} {a b : Addr} {o o' : HO} (n : b ≠ a) (h : H b = some o) : upd H a o' b = some o := (upd_ne n).trans h
theorem sameMut {H H1 : Hp} {p : Addr} {o : HO} (a : Same H H1) (h : H p = none) : Same H (upd H1 p o) := fun c u e => (upd_ne (ne_of_none e h)).trans (a c u e)
section
variable {K : PySem.W.Frag} {H : Hp} {σ : L2.St} {Q : VK} {a : Addr} {te : TE} {vs : List Nat}
/-- [e for x in xs], e without a trace: the list of its values -/
theorem lk_mapL {xs : List V} {j : Nat} (f : V → V) (hs : SqL K H a xs) (hl : xs.length ≤ 100000) (hw : ∀ x, wipe ((wipe σ vs).set j (some x)) vs = wipe σ vs)
    (he : ∀ x ∈ xs, ∀ H', Same H H' → Val te ((wipe σ vs).set j (some x)) H' (f x))
    (h : ∀ D H', H D = none → Same H H' → H' D = some (.lst (xs.map f)) → Q (.ref D) H') : lcK (Itl K a) (gName j) tYes te vs Q σ H := by
  refine lk_it (walk_list (xs := xs)) (fun D i H' => Same H H' ∧ H' D = some (.lst ((xs.take i).map f))) (fun D hD => ⟨fun c u e => (upd_ne (ne_of_none e hD)).trans e, upd_same⟩) (fun D i H' _ p => ?_) ?_ ?_
  · exact sqLS p.1 hs
  · rintro D i x H1 H2 hD hi ⟨sm, eD⟩ ⟨rfl, hx⟩
    refine ⟨hw x, r_yes (iteT ?_)⟩
    refine he x (List.mem_of_getElem? hx) _ sm _ ⟨_, eD, ?_, sameMut sm hD, ?_⟩
    · rw [List.length_map, List.length_take]
      exact Nat.lt_of_le_of_lt (Nat.le_trans (Nat.min_le_right _ _) hl) (by decide)
    · rw [upd_same, List.take_add_one, hx, List.map_append]
      rfl
  · rintro D H1 hD ⟨sm, eD⟩
    rw [List.take_length] at eD
    exact h D H1 hD sm eD
end
theorem Same.new {H : Hp} {p : Addr} {o : HO} (h : H p = none) : Same H (upd H p o) := fun c o' e => by
  rw [upd_ne (ne_of_none e h)]
  exact e
end Gl

set_option Elab.async false
set_option maxRecDepth 100000
set_option maxHeartbeats 4000000
set_option linter.all false
/-! the stepper's lemmas for classes with slots, dicts, membership -/
namespace Gl
open PySem PySem.Spec L2
theorem FnOk.pos {P : Program} {w : World} {K : PySem.W.Frag} {mg : Str → Option Value} {base : Heap} {CX : CXT} {k : Nat} {f : Addr} {fd : FuncData} {ps : List Str} {sp : Sp}
    (F : FnOk P w K mg base CX k f fd ps sp) (hb : Binds K fd ps []) : FnR P w K mg base CX k f sp :=
  (F.raw hb .nil).imp fun vs H Q E h => by rw [List.append_nil]; exact h
section
variable {K : PySem.W.Frag} {H : Hp} {σ : L2.St} {Q : VK} {a C dx p : Addr} {vs : List (Option V)} {f : Str} {i : Nat} {v x y : V} {ta tv te : TE} {aa : TA} {sp : Sp} {E : XK} {xs : List V}
  {nx : L2.St → Hp → Prop} {rt : VK} {bk ct : L2.St → Hp → Prop} {b : Bool}
def slGetK (K : PySem.W.Frag) (f : Str) (x : V) (H : Hp) (Q : VK) : Prop := ∃ a C dx p vs i v, x = .ref a ∧ SlX.Slt H a C dx vs ∧ SlX.SCls K C ∧ SlX.Slot1 K C f p i ∧ vs[i]? = some (some v) ∧ Q v H
theorem r_slE (h : ta σ H fun x H1 => slGetK K f x H1 Q) : SlX.tSl K ta f σ H Q := h
theorem r_slGet (h1 : SlX.Slt H a C dx vs) (h2 : SlX.SCls K C) (h3 : SlX.Slot1 K C f p i) (hv : vs[i]? = some (some v)) (h : Q v H) : slGetK K f (.ref a) H Q :=
  ⟨a, C, dx, p, vs, i, v, rfl, h1, h2, h3, hv, h⟩
def slSetK (K : PySem.W.Frag) (f : Str) (x y : V) (H : Hp) (R : Hp → Prop) : Prop := ∃ a C dx p vs i, x = .ref a ∧ SlX.Slt H a C dx vs ∧ SlX.SCls K C ∧ SlX.Slot1 K C f p i ∧ R (SlX.slH H a C dx (SlX.putS i y vs))
theorem r_slS (h : tv σ H fun y H1 => ta σ H1 fun x H2 => slSetK K f x y H2 fun H3 => nx σ H3) : SlX.sSl K ta tv f ⟨nx, rt, bk, ct⟩ σ H := h
theorem r_slSet {R : Hp → Prop} (h1 : SlX.Slt H a C dx vs) (h2 : SlX.SCls K C) (h3 : SlX.Slot1 K C f p i) (h : R (SlX.slH H a C dx (SlX.putS i y vs))) : slSetK K f (.ref a) y H R :=
  ⟨a, C, dx, p, vs, i, rfl, h1, h2, h3, h⟩
def methK (C : Addr) (x : V) (H : Hp) (p : Prop) : Prop := ∃ a dx vs, x = .ref a ∧ SlX.Slt H a C dx vs ∧ p
theorem r_methE (h : ta σ H fun x H1 => methK C x H1 (aa σ H1 fun ws H2 => sp (x :: ws) H2 Q E)) : SlX.tMethSl C sp E ta aa σ H Q := by
  show ta σ H fun x H1 => ∃ a dx vs, x = .ref a ∧ SlX.Slt H1 a C dx vs ∧ aa σ H1 fun ws H2 => sp (x :: ws) H2 Q E
  exact h
theorem r_meth {p : Prop} (h1 : SlX.Slt H a C dx vs) (h : p) : methK C (.ref a) H p := ⟨a, dx, vs, rfl, h1, h⟩
def propK (C : Addr) (sp : Sp) (E : XK) (x : V) (H : Hp) (Q : VK) : Prop := ∃ a dx vs, x = .ref a ∧ SlX.Slt H a C dx vs ∧ sp [.ref a] H Q E
theorem r_propE (h : ta σ H fun x H1 => propK C sp E x H1 Q) : SlX.tPropSl C sp E ta σ H Q := h
theorem r_prop (h1 : SlX.Slt H a C dx vs) (h : sp [.ref a] H Q E) : propK C sp E (.ref a) H Q := ⟨a, dx, vs, rfl, h1, h⟩
/-- C(..) -/
def makeK (C : Addr) (sp : Sp) (dvs : List V) (E : XK) (vs : List V) (H : Hp) (Q : VK) : Prop := tMake C sp dvs E (fun _ H R => R vs H) [] H Q
theorem r_makeE {dvs : List V} (h : aa σ H fun vs H1 => makeK C sp dvs E vs H1 Q) : tMake C sp dvs E aa σ H Q := h
/-- in -/
theorem r_inT (hs : SqT K H a xs) (hx : flatV x = true) (hf : xs.all flatV = true) (h : Q (.bl (inV x xs)) H) : rIn K false x (.ref a) H Q := ⟨a, xs, rfl, .inr hs, hx, hf, h⟩
theorem r_ninT (hs : SqT K H a xs) (hx : flatV x = true) (hf : xs.all flatV = true) (h : Q (.bl (!inV x xs)) H) : rIn K true x (.ref a) H Q := ⟨a, xs, rfl, .inr hs, hx, hf, h⟩
/-- d[k] -/
def dgetK (x y : V) (H : Hp) (Q : VK) : Prop := ∃ a v, x = .ref a ∧ DGet H a y (some v) ∧ Q v H
theorem r_dgetE (h : ta σ H fun x H1 => te σ H1 fun y H2 => dgetK x y H2 Q) : tDGet ta te σ H Q := h
theorem r_dget {kvs : List (Key × V)} {k : Key} (h1 : H a = some (.dK kvs)) (hk : kV k = y) (hv : valV kvs k = some v) (h : Q v H) : dgetK (.ref a) y H Q :=
  ⟨a, v, rfl, by rw [← hk, ← hv]; exact DGet.k h1, h⟩
theorem r_dgetS {kvs : List (Key × V)} {s : Str} (h1 : H a = some (.dK kvs)) (hv : valV kvs (Sum.inr s) = some v) (h : Q v H) : dgetK (.ref a) (.str s) H Q := r_dget (k := Sum.inr s) h1 rfl hv h
theorem r_dgetI {kvs : List (Key × V)} {n : Int} (h1 : H a = some (.dK kvs)) (hv : valV kvs (Sum.inl n) = some v) (h : Q v H) : dgetK (.ref a) (.int n) H Q := r_dget (k := Sum.inl n) h1 rfl hv h
/-- {k: e} -/
def dispK (p : Addr) (x y : V) (H2 : Hp) (Q : VK) : Prop := H2 p = some (.dK []) ∧ ∃ kvs : List (Key × V), [(x, y)] = kvs.map (fun kv => (kV kv.1, kv.2)) ∧ kvs.length ≤ 15 ∧ Q (.ref p) (upd H2 p (.dK (mergeK [] kvs)))
theorem r_dispE (h : ∀ p H1, H p = none → Same H H1 → H1 p = some (.dK []) → te σ H1 fun y H2 => dispK p x y H2 Q) : tDisp [(tC x, te)] σ H Q := fun p hp => h p _ hp (fun c o' e => (upd_ne (ne_of_none e hp)).trans e) upd_same
theorem r_dispk {s : Str} (e : H p = some (.dK [])) (h : Q (.ref p) (upd H p (.dK [(Sum.inr s, y)]))) : dispK p (.str s) y H Q := ⟨e, [(Sum.inr s, y)], rfl, (by show 1 ≤ 15; decide), h⟩
theorem sltS {H' : Hp} (s : Same H H') (h : SlX.Slt H a C dx vs) : SlX.Slt H' a C dx vs := by
  rcases h with ⟨h1, h2⟩ | ⟨h1, h2⟩
  · exact .inl ⟨s _ _ h1, h2⟩
  · exact .inr ⟨s _ _ h1, s _ _ h2⟩
end
/-- numbers that may be multiplied -/
def Sm (x : Int) : Prop := x.natAbs.log2 < 100000
theorem cmulS {i j : Int} (h1 : Sm i) (h2 : Sm j) : CMulA i j := Or.inr (by unfold CMulW; unfold Sm at h1 h2; omega)
theorem Sm.of {x : Int} {n : Nat} (h : x.natAbs < 2 ^ n) (h0 : 0 < n) (h2 : n ≤ 100000) : Sm x := Nat.lt_of_lt_of_le (PySem.Flt.log2_lt_of h0 h) h2
end Gl

set_option Elab.async false
set_option maxRecDepth 100000
set_option maxHeartbeats 4000000
set_option linter.all false
/-! own __len__, sets of few ints told by their size, a def that knows its code -/
namespace Gl
open PySem PySem.Spec PyProof.Rows L2
section
variable {P : Program} {w : World} {K : PySem.W.Frag} {mg : Str → Option Value} {base : Heap}
/-- the rule for a def whose body asks for its code's record (a set display) -/
theorem okC {x qual : Str} {st : Stmt} {f : Addr} {fd : FuncData} {N ps : List Str} {k : Nat} {sp : Sp}
    (F : Fun K x qual st f fd) (S : FnScope N ps (defScope st))
    (len : ∀ vs H Q E, sp vs H Q E → vs.length = ps.length)
    (body : ∀ (cdv : Value) (A : Around) (outer : List Env) (s : Shared) (H : Hp) (vs : List V) (Q : VK) (E : XK),
      PySem.W.kdsCode K cdv = true →
      Room k (A.deeper (envOfC qual (defScope st) s.heap.objs.size f cdv)) → sp vs H Q E →
      ∃ t, PSs (cxOf CX0 P w K mg base N qual (defScope st) f cdv A outer s H E).nox (defBody st) t ∧
        t { nx := fun _ H' => Q .non H', rt := Q } (start N vs) H) :
    FnOk P w K mg base CX0 (k + 1) f fd ps sp := by
  obtain ⟨oc, od, kV, doc, pm, an, cdv, ct, osl, rfl, lk, hcd⟩ := F.ex
  have hcode : PySem.W.kdsCode K cdv = true := by
    unfold PySem.W.codeIn at hcd
    unfold PySem.W.kdsCode
    split at hcd
    · split at hcd
      · rename_i e
        show (match (List.lookup _ K : Option Obj) with | some ⟨_, _, .fields _, _⟩ => true | _ => false) = true
        rw [e]
      · cases hcd
    · cases hcd
  refine ⟨len, ?_⟩
  intro A outer s H args us vs Q E hr e0 hb r hsp
  have hlen := len _ _ _ _ hsp
  have below : ∀ b o, base.get? b = some o → s.heap.get? b = some o := fun b o e => (e0.bs b o e).1
  have inK := e0.mod.kin.keeps below
  have nol := e0.mod.nolimit.keeps below
  have kinds : ∀ y ∈ ps.zip us, (defScope st).names.lookup y.1 = some .local ∨
      ((defScope st).names.lookup y.1 = some .cell ∧
        ((cellsFrom (s.heap.objs.size + 1) (defScope st).names []).lookup y.1).isSome = true) := by
    rintro ⟨n, v⟩ hy
    have hin := (List.of_mem_zip hy).1
    rcases S.par n hin with q | q
    · exact Or.inl q
    · exact Or.inr ⟨q, PySem.W.cellsFrom_some _ _ _ (Or.inl q)⟩
  refine codeAny_call_function hr.depth (inK _ _ lk) rfl S.co S.gen rfl
    (PySem.W.codeRec_of inK hcd) (hb _ _ _ _ ?_)
  refine wpAny_newFunctionEnv_cells S.kind kinds ?_
  intro env he s1 x
  subst he
  refine ⟨nol.keeps x.toInCall.keep, codeAny_func ?_⟩
  obtain ⟨t, ht, hq⟩ := body cdv A outer s H vs Q E hcode (hr.deeper _) hsp
  have I := inv_start (CX := CX0) (P := P) (w := w) (K := K) (mg := mg) (base := base) (E := E) S hr.hd e0 hlen r x
  refine wpAny_mono (ht.nox.run [] s1 (start N vs) H _ I hq) ?_ (fun e s' hs => hs)
  intro fl s' hs
  cases fl with
  | ret u =>
    obtain ⟨v, σ', H', J, rv, q⟩ := hs
    exact ⟨v, H', J.os, J.bare, J.base, J.hok, rv, q⟩
  | next =>
    obtain ⟨σ', H', J, q⟩ := hs
    exact ⟨V.non, H', J.os, J.bare, J.base, J.hok, rfl, q⟩
  | brk => exact hs.elim fun _ z => z.elim fun _ z => z.2.elim
  | cont => exact hs.elim fun _ z => z.elim fun _ z => z.2.elim
end
section
variable {X : Cx} {CX : CXT} {C g : Addr} {n : Nat} {sp : Sp} {E : XK}
/-- len(x) of an instance whose class says __len__ -/
def rLenOwn (C : Addr) (sp : Sp) (E : XK) : List V → Hp → VK → Prop := fun xs H Q => ∃ a dx vs, xs = [V.ref a] ∧ SlX.Slt H a C dx vs ∧ sp [.ref a] H (fun z H' => ∃ i : Int, z = .int i ∧ (0 ≤ i ∧ i < 2 ^ 63) ∧ Q z H') E
theorem call_lenOwn (hs : PySem.W.findIn X.K (.ref C) "__len__" = some (some (.ref g))) (hf : PySem.W.isFn X.K (.ref g) = true) (F : FnR X.prog X.w X.K X.mg X.base CX n g sp) (hr : Room (n + 1) X.A) (hx : Passes CX X E) : CallR X (.builtin "len") (rLenOwn C sp E) := by
  intro pins s σ H xs us Q I r h
  obtain ⟨a, dx, vs, rfl, hsl, q⟩ := h
  obtain ⟨u, rfl, ru⟩ := r.one
  cases (show u = Value.ref a from ru)
  obtain ⟨sl, od, _, J, _⟩ := SlX.slt_inst I hsl
  obtain ⟨m, hF⟩ := I.fr
  refine PySem.W.len_K hF I.ok.mod.kin J hs hf (wpAny_mono (wpAny_call (SlX.run_at (us := [.ref a]) (ws := [.ref a]) F (Room.in1 hr) I.env0.in1 hx I (.cons rfl .nil) q)) (fun w s' z => ?_) fun _ _ x => x)
  obtain ⟨z', H', I', rz, i, ei, b, qz⟩ := z
  subst ei
  obtain ⟨t, e⟩ := (show ∃ t, w = Value.int i t from rz)
  cases e
  exact ⟨b, .int i, H', I'.tok _, ⟨_, rfl⟩, qz⟩
/-- len(set(xs)) of ints: the members, each once -/
def tLenSetD (K : PySem.W.Frag) (ta : TE) : TE := fun σ H Q => ta σ H fun x H1 => ∃ (l : Addr) (ns : List Int), x = V.ref l ∧ SqL K H1 l (ns.map V.int) ∧ ns.length < 64 ∧ Q (.int ((firstMet (fun i => ns.getD i 0) ns.length).length : Nat)) H1
theorem pe_lenSetD {a : Expr} {ta : TE} {p p2 q pos : Pos} (hc : X.calm = true) (hg : L2.Gl X "len") (hm : X.mg "len" = none) (hg2 : L2.Gl X "set") (hm2 : X.mg "set" = none) (ha : PE X a ta)
    (na : starEach [a] X.env = (false, eval a X.env) :: starEach [] X.env := by rfl) : PE X (.Call (.Name "len" p) [.Call (.Name "set" p2) [a] [] q] [] pos) (tLenSetD X.K ta) := by
  refine ⟨fun pins s σ H Q I h => ?_⟩
  refine Call_ (ld_blt I hg hm PySem.boot_len ?_)
  refine PyProof.Rows.callWith_builtin1 (PyProof.Rows.args_cons ?_ rfl) rfl rfl
  refine Call_ (ld_blt I hg2 hm2 PyProof.Rows.boot_set ?_)
  refine PyProof.Rows.callWith_type1 (PyProof.Rows.args_cons (thn (ha.run pins s σ H _ I h) fun v s1 ⟨x, H1, I1, r1, q1⟩ => PyProof.Rows.args_nil ?_) na) na rfl
  obtain ⟨l, ns, rfl, hq, h1, q1⟩ := q1
  cases r1
  obtain ⟨its, r, pl, hz⟩ := I1.list hq
  have hl : its.toArray.size = ns.length := by rw [List.size_toArray, ← r.length, List.length_map]
  refine call_set_list (I1.ok.hd hc) pl.isList (ns := ns) (by simpa using r.ints) (by unfold scanBound; omega) fun h' tk hS hk => ?_
  rw [hl] at hS
  refine PyProof.Rows.args_nil ?_
  obtain ⟨o, es, ep, t, ho, hex, hd, _, _, _, hf, hn⟩ := hS
  have I2 : Inv X pins σ H1 { s1 with heap := h', toks := tk } := I1.kept fun b o e => hk b o (Heap.lt_size e) e
  have hb := firstMet_length_le (fun i => ns.getD i 0) ns.length
  refine call_len_set ho hex hd hf (by rw [hn] <;> omega) ⟨.int _, H1, I2.tok _, ⟨_, by rw [hn]⟩, q1⟩
end
/-- a set's members, each once: how many after one more -/
def addN (p : (Int → Bool) × Nat) (k : Int) : (Int → Bool) × Nat := (fun j => p.1 j || decide (j = k), if p.1 k = true then p.2 else p.2 + 1)
def cnt4 (a b c d : Int) : Nat := ([a, b, c, d].foldl addN (fun _ => false, 0)).2
section
variable {P : Program} {w : World} {A : Around} {E : Value → Shared → Prop} {s : Shared} {D : Addr} {S : Int → Bool} {n : Nat}
theorem setAdd_int {k : Int} {t : Tok} {Q : Shared → Prop} (p : (Int → Bool) × Nat) (hS : s.heap.SetOf (intKind P w) D p.1 p.2) (hb : p.2 + 1 < scanBound)
    (h : ∀ h', Heap.SameBut D s.heap h' → h'.SetOf (intKind P w) D (addN p k).1 (addN p k).2 → Q { s with heap := h', toks := s.toks + 1 }) :
    wpAny (model P w) A (setAdd D (.int k t)) (fun _ s' => Q s') E s := by
  unfold setAdd
  refine wpAny_holding (wpAny_bind ((intKind P w).pyHash (intKind_is P w k t) ?_))
  exact wpAny_setAddHashed_of (s := { s with toks := s.toks + 1 }) (intKind_is P w k t) rfl hS hb fun h' hsb hS' => h h' hsb hS'
end
section
variable {X : Cx}
def tLenX (t1 t2 t3 t4 : TE) : TE := fun σ H Q => t1 σ H fun x1 H1 => t2 σ H1 fun x2 H2 => t3 σ H2 fun x3 H3 => t4 σ H3 fun x4 H4 =>
  ∃ a b c d : Int, x1 = .int a ∧ x2 = .int b ∧ x3 = .int c ∧ x4 = .int d ∧ Q (.int (cnt4 a b c d : Nat)) H4
theorem pe_lenX {e1 e2 e3 e4 : Expr} {t1 t2 t3 t4 : TE} {p p2 pos : Pos} (hcode : PySem.W.kdsCode X.K X.env.code = true) (hg : L2.Gl X "len") (hm : X.mg "len" = none) (h1 : PE X e1 t1) (h2 : PE X e2 t2) (h3 : PE X e3 t3) (h4 : PE X e4 t4)
    (hp : [e1, e2, e3, e4].all PySem.W.kdsPlain = true := by rfl) (hroad : displayRoad 0 [e1, e2, e3, e4] = .oneByOne := by rfl) : PE X (.Call (.Name "len" p) [.Set [e1, e2, e3, e4] 0 p2] [] pos) (tLenX t1 t2 t3 t4) := by
  refine ⟨fun pins s σ H Q I h => ?_⟩
  refine Call_ (ld_blt I hg hm PySem.boot_len ?_)
  refine PyProof.Rows.callWith_builtin1 (PyProof.Rows.args_cons ?_ rfl) rfl rfl
  rw [arm_eval_Set]
  refine wpAny_bind (wpAny_standAt ?_)
  refine wpAny_bind (PySem.W.kds_main I.kIn hcode fun b => ?_)
  rw [PySem.W.kds_star _ hp, List.map_map]
  refine PySem.W.kds_core (ts := (evalEach [e1, e2, e3, e4] X.env).map fun t => do let v ← t; standAt p2; pure v) (by rw [hroad]; rfl) ?_ ?_ ?_ fun led => ?_
  · refine List.findIdx?_eq_none_iff.mpr fun x hx => ?_
    obtain ⟨t, _, rfl⟩ := List.mem_map.mp hx
    rfl
  · rw [List.length_map, PySem.W.kds_len]; show 4 ≤ 30; decide
  · rw [List.map_map]; try rfl
  rw [hroad]
  refine PySem.W.kds_all p2 _ _ _ ?_
  have hD : H s.heap.objs.size = none := I.hok.fresh (Nat.le_refl _)
  have lD := I.lt
  have nD := I.nofs (a := s.heap.objs.size) (Nat.le_refl _)
  have cD : ∀ x c, X.env.cells.lookup x = some c → c ≠ s.heap.objs.size := fun x c e z => by
    obtain ⟨v, o, ho, hd⟩ := I.cell x c e
    exact absurd (z ▸ Heap.lt_size ho) (Nat.lt_irrefl _)
  have pD : ∀ p ∈ X.pn ++ pins, p.1 ≠ s.heap.objs.size := fun p hp z => by
    exact absurd (z ▸ Heap.lt_size (I.pin p hp).1) (Nat.lt_irrefl _)
  have sD := I.sz
  have gD : (s.heap.push { cls := .type "set", dict := none, data := .set #[] 0 (.fresh 0 0 led) }).get? s.heap.objs.size = some { cls := .type "set", dict := none, data := .set #[] 0 (.fresh 0 0 led) } := Heap.get?_push_size _ rfl
  have I0 : Inv X pins σ H { s with heap := s.heap.push { cls := .type "set", dict := none, data := .set #[] 0 (.fresh 0 0 led) } } := I.kept (t' := s.toks) fun b u e => Heap.get?_push_of_some _ e
  have Ip : Inv X ((s.heap.objs.size, { cls := .type "set", dict := none, data := .set #[] 0 (.fresh 0 0 led) }) :: pins) σ H { s with heap := s.heap.push { cls := .type "set", dict := none, data := .set #[] 0 (.fresh 0 0 led) } } := by
    refine I0.pins_of fun p hp => ?_
    rcases List.mem_cons.mp hp with rfl | hp
    · exact ⟨gD, hD, fun z => absurd (z ▸ lD) (Nat.lt_irrefl _), nD, fun v z => by cases z⟩
    · exact I0.pin p (List.mem_append_right _ hp)
  generalize s.heap.objs.size = D at *
  refine thn (h1.run _ _ σ H _ Ip h) fun v1 s1 ⟨x1, H1, I1, r1, q1⟩ => ?_
  refine thn (h2.run _ _ σ H1 _ I1 q1) fun v2 s2 ⟨x2, H2, I2, r2, q2⟩ => ?_
  refine thn (h3.run _ _ σ H2 _ I2 q2) fun v3 s3 ⟨x3, H3, I3, r3, q3⟩ => ?_
  refine thn (h4.run _ _ σ H3 _ I3 q3) fun v4 s4 ⟨x4, H4, I4, r4, q4⟩ => ?_
  obtain ⟨a, b, c, d, rfl, rfl, rfl, rfl, q4⟩ := q4
  obtain ⟨k1, rfl⟩ := (show ∃ t, v1 = Value.int a t from r1)
  obtain ⟨k2, rfl⟩ := (show ∃ t, v2 = Value.int b t from r2)
  obtain ⟨k3, rfl⟩ := (show ∃ t, v3 = Value.int c t from r3)
  obtain ⟨k4, rfl⟩ := (show ∃ t, v4 = Value.int d t from r4)
  obtain ⟨g4, f4, l4, n4, _⟩ := I4.pin (D, _) (List.mem_append_right _ List.mem_cons_self)
  have I5 : Inv X pins σ H4 s4 := I4.pins_of fun p hp => I4.pin p (List.mem_append_right _ (List.mem_cons_of_mem _ hp))
  have S0 : s4.heap.SetOf (intKind X.prog X.w) D (fun _ => false) 0 := (setObjOf_fresh led).setOf g4 (by unfold scanBound; omega)
  have many : ∀ (p : (Int → Bool) × Nat) (k : Int), (addN p k).2 ≤ p.2 + 1 := fun p k => by unfold addN; dsimp only; split <;> omega
  have m0 : ((fun _ => false, 0) : (Int → Bool) × Nat).2 = 0 := rfl
  have m1 := many (fun _ => false, 0) a
  have m2 := many (addN (fun _ => false, 0) a) b
  have m3 := many (addN (addN (fun _ => false, 0) a) b) c
  have m4 := many (addN (addN (addN (fun _ => false, 0) a) b) c) d
  refine PySem.W.kds_fill_cons (setAdd_int (fun _ => false, 0) S0 (by unfold scanBound; decide) fun ha sa Sa => ?_)
  refine PySem.W.kds_fill_cons (setAdd_int _ Sa (by unfold scanBound; omega) fun hb sb Sb => ?_)
  refine PySem.W.kds_fill_cons (setAdd_int _ Sb (by unfold scanBound; omega) fun hc sc Sc => ?_)
  refine PySem.W.kds_fill_cons (setAdd_int _ Sc (by unfold scanBound; omega) fun hd sd Sd => ?_)
  refine PySem.W.kds_fill_nil rfl ?_
  refine PyProof.Rows.args_nil ?_
  obtain ⟨o, es, ep, t, ho, hex, hdd, _, _, _, hf, hn⟩ := Sd
  have keep : ∀ b o, b ≠ D → s4.heap.get? b = some o → hd.get? b = some o := fun b o n e => by
    exact ((sd.2 b n).trans ((sc.2 b n).trans ((sb.2 b n).trans (sa.2 b n)))).trans e
  have J := (I5.turned (h' := hd) (t' := s4.toks + 1 + 1 + 1 + 1 + 1 + 1) keep f4 l4 (.inr sD) cD pD)
  refine call_len_set ho hex hdd hf (by rw [hn] <;> omega) ⟨.int (cnt4 a b c d : Nat), H4, J, ⟨_, congrArg (fun n : Nat => Value.int n _) hn⟩, q4⟩
end
/-! ### stepping -/
section
variable {K : PySem.W.Frag} {H : Hp} {σ : L2.St} {Q : VK} {a : Addr} {C : Addr} {dx : Addr} {vs : List (Option V)} {sp : Sp} {E : XK} {xs : List V} {te : TE} {tt : TA} {QA : List V → Hp → Prop} {n : Nat} {tg : TGs} {QS : L2.St → Hp → Prop}
def lenXK (x1 x2 x3 x4 : V) (H : Hp) (Q : VK) : Prop := ∃ a b c d : Int, x1 = .int a ∧ x2 = .int b ∧ x3 = .int c ∧ x4 = .int d ∧ Q (.int (cnt4 a b c d : Nat)) H
theorem r_lenX {t1 t2 t3 t4 : TE} (h : t1 σ H fun x1 H1 => t2 σ H1 fun x2 H2 => t3 σ H2 fun x3 H3 => t4 σ H3 fun x4 H4 => lenXK x1 x2 x3 x4 H4 Q) : tLenX t1 t2 t3 t4 σ H Q := h
theorem r_lenXK {a b c d : Int} (h : Q (.int (cnt4 a b c d : Nat)) H) : lenXK (.int a) (.int b) (.int c) (.int d) H Q := ⟨a, b, c, d, rfl, rfl, rfl, rfl, h⟩
def lenSetK (K : PySem.W.Frag) (x : V) (H : Hp) (Q : VK) : Prop := ∃ (l : Addr) (ns : List Int), x = V.ref l ∧ SqL K H l (ns.map V.int) ∧ ns.length < 64 ∧ Q (.int ((firstMet (fun i => ns.getD i 0) ns.length).length : Nat)) H
theorem r_lenSetD (h : te σ H fun x H1 => lenSetK K x H1 Q) : tLenSetD K te σ H Q := h
def starK (K : PySem.W.Frag) (x : V) (tt : TA) (σ : L2.St) (H : Hp) (Q : List V → Hp → Prop) : Prop := ∃ p xs, x = V.ref p ∧ (SqT K H p xs ∨ SqL K H p xs) ∧ tt σ H fun ys H2 => Q (xs ++ ys) H2
theorem r_star (h : te σ H fun x H1 => starK K x tt σ H1 QA) : StX.tStar K te tt σ H QA := h
theorem r_starT (h : SqT K H a xs) (k : tt σ H fun ys H2 => QA (xs ++ ys) H2) : starK K (.ref a) tt σ H QA := ⟨a, xs, rfl, .inl h, k⟩
theorem r_starL (h : SqL K H a xs) (k : tt σ H fun ys H2 => QA (xs ++ ys) H2) : starK K (.ref a) tt σ H QA := ⟨a, xs, rfl, .inr h, k⟩
theorem r_lenOwn (h : SlX.Slt H a C dx vs) (k : sp [.ref a] H (fun z H' => ∃ i : Int, z = .int i ∧ (0 ≤ i ∧ i < 2 ^ 63) ∧ Q z H') E) : rLenOwn C sp E [.ref a] H Q := ⟨a, dx, vs, rfl, h, k⟩
theorem r_unl (h : SqL K H a xs) (hl : xs.length = n) (k : tg xs σ H QS) : gUnl K n tg (.ref a) σ H QS := ⟨a, xs, rfl, h, hl, k⟩
theorem r_ext {l b : Addr} {zs : List V} (h1 : H l = some (.lst xs)) (h2 : H b = some (.lst zs)) (h3 : xs.length + zs.length ≤ sizeLine) (k : Q .non (upd H l (.lst (xs ++ zs)))) : rExtend (.ref l) [.ref b] H Q := ⟨l, b, xs, zs, rfl, rfl, h1, h2, h3, k⟩
theorem r_catT {p b : Addr} {ys : List V} (h1 : SqT K H p xs) (h2 : SqT K H b ys) (hz : xs.length + ys.length ≤ sizeLine) (nx : xs ≠ []) (ny : ys ≠ []) (h : ∀ q H', H q = none → Same H H' → H' q = some (.tup (xs ++ ys)) → Q (.ref q) H') : rCatA K (.ref p) (.ref b) H Q :=
  ⟨p, b, xs, ys, rfl, rfl, h1, h2, hz, fun z => absurd z nx, fun _ z => absurd z ny, fun _ _ q hq => h q _ hq (fun c o' e => (upd_ne (ne_of_none e hq)).trans e) upd_same⟩
end
section
variable {X : Cx}
theorem in_room {k : Nat} {A : Around} (r : Room k A) : A.units + 65 < cLine := by have := r.un; omega
def rInDT (K : PySem.W.Frag) : R2 := fun x y H Q => ∃ d ds, Dp K H x d ∧ Dp K H y (.tuple ds) ∧ SeqAt.shaped d = true ∧ SeqAt.shaped (.tuple ds) = true ∧ Q (.bl (ds.any fun z => PyData.eqv z d)) H
theorem op_inDT (hu : X.A.units + 65 < cLine) : OpR X (compareOp .In) (rInDT X.K) := by
  intro pins s σ H x y v u Q I rx ry h
  obtain ⟨d, ds, hd, he, sd, se, q⟩ := h
  obtain ⟨as, r1⟩ := Dp.reads I d x v hd rx
  obtain ⟨bs, r2⟩ := Dp.reads I (.tuple ds) y u he ry
  exact SeqAt.in_tuple_reads r2 r1 (SeqAt.canLay_of_shaped se) (SeqAt.canLay_of_shaped sd) (room_in_shaped sd hu) ⟨.bl _, H, I, rfl, q⟩
end
section
variable {K : PySem.W.Frag} {H : Hp} {σ : L2.St} {Q : VK} {a : Addr} {te : TE} {tt : TT} {vs : List Nat}
/-- [e for x in a tuple if c] -/
theorem lk_filT {xs : List V} {j : Nat} (p : V → Bool) (f : V → V) (hs : SqT K H a xs) (hl : xs.length ≤ 100000) (hw : ∀ x, wipe ((wipe σ vs).set j (some x)) vs = wipe σ vs)
    (ht : ∀ x ∈ xs, ∀ H', Same H H' → ∀ R : Bool → Hp → Prop, R (p x) H' → tt ((wipe σ vs).set j (some x)) H' R)
    (he : ∀ x ∈ xs, p x = true → ∀ H', Same H H' → Val te ((wipe σ vs).set j (some x)) H' (f x))
    (h : ∀ D H', H D = none → Same H H' → H' D = some (.lst ((xs.filter p).map f)) → Q (.ref D) H') : lcK (Itt K a) (gName j) tt te vs Q σ H := by
  refine lk_it (walk_tup (xs := xs)) (fun D i H' => Same H H' ∧ H' D = some (.lst (((xs.take i).filter p).map f))) (fun D hD => ⟨fun c u e => (upd_ne (ne_of_none e hD)).trans e, upd_same⟩) (fun D i H' _ p => ?_) ?_ ?_
  · exact sqTS p.1 hs
  · rintro D i x H1 H2 hD hi ⟨sm, eD⟩ ⟨rfl, hx⟩
    refine ⟨hw x, ht x (List.mem_of_getElem? hx) _ sm _ ?_⟩
    cases hp : p x with
    | true =>
      refine iteT (he x (List.mem_of_getElem? hx) hp _ sm _ ⟨_, eD, ?_, sameMut sm hD, ?_⟩)
      · rw [List.length_map]
        refine Nat.lt_of_le_of_lt (Nat.le_trans (List.length_filter_le _ _) ?_) (show 100000 < _ by decide)
        rw [List.length_take]
        exact Nat.le_trans (Nat.min_le_right _ _) hl
      · rw [upd_same, List.take_add_one, hx, List.filter_append, List.map_append]
        simp [hp]
    | false =>
      refine iteF ⟨sm, ?_⟩
      rw [eD, List.take_add_one, hx, List.filter_append, List.map_append]
      simp [hp]
  · rintro D H1 hD ⟨sm, eD⟩
    rw [List.take_length] at eD
    exact h D H1 hD sm eD
theorem lk_mapT {xs : List V} {j : Nat} (f : V → V) (hs : SqT K H a xs) (hl : xs.length ≤ 100000) (hw : ∀ x, wipe ((wipe σ vs).set j (some x)) vs = wipe σ vs)
    (he : ∀ x ∈ xs, ∀ H', Same H H' → Val te ((wipe σ vs).set j (some x)) H' (f x))
    (h : ∀ D H', H D = none → Same H H' → H' D = some (.lst (xs.map f)) → Q (.ref D) H') : lcK (Itt K a) (gName j) tYes te vs Q σ H :=
  lk_filT (fun _ => true) f hs hl hw (fun x _ H' _ R r => r) (fun x m _ => he x m) (by rw [List.filter_eq_self.mpr fun _ _ => rfl]; exact h)
end
theorem ix_tupK {X : Cx} {K : PySem.W.Frag} (h : X.K = K) : IxR X (rIxT K) := h ▸ ix_tup
theorem ix_listK {X : Cx} {K : PySem.W.Frag} (h : X.K = K) : IxR X (rIxL K) := h ▸ ix_list
theorem r_par3 {aa : TA} {i j l : Nat} {σ : L2.St} {H : Hp} {nx : L2.St → Hp → Prop} {rt : VK} {bk ct : L2.St → Hp → Prop} (h : aa σ H fun vs H1 => ∃ u v w, vs = [u, v, w] ∧ nx (((σ.set i (some u)).set j (some v)).set l (some w)) H1) : tPar3 i j l aa ⟨nx, rt, bk, ct⟩ σ H := h
end Gl

set_option Elab.async false
set_option maxRecDepth 100000
set_option maxHeartbeats 4000000
set_option linter.all false
/-! repr of data with great ints (fewer than 4300 figures): where sys.int_max_str_digits has not been set -/
namespace Gl
open PySem PySem.Spec PyProof.Rows L2
mutual
def Wide : PyData → Prop
  | .none => True
  | .bool _ => True
  | .str _ => True
  | .int i => i.natAbs < 10 ^ 4300
  | .list xs => WideAll xs
  | .tuple xs => WideAll xs
  | .dict _ => False
def WideAll : List PyData → Prop
  | [] => True
  | x :: xs => Wide x ∧ WideAll xs
end
mutual
/-- no text of it is longer -/
def wt : PyData → Nat
  | .none => 4
  | .bool _ => 5
  | .str x => (reprText x).length
  | .int _ => 4400
  | .list xs => wtAll xs + 2
  | .tuple xs => wtAll xs + 3
  | .dict _ => 0
def wtAll : List PyData → Nat
  | [] => 0
  | x :: xs => wt x + 2 + wtAll xs
end
theorem len_app (a b : Str) : (a ++ b).length = a.length + b.length := Str.length_append a b
theorem join_le (sep : Str) (hs : sep.length ≤ 2) : ∀ ts : List Str, (Str.join sep ts).length ≤ (ts.map fun t => t.length + 2).sum
  | [] => by
    show (Str.ofString "").length ≤ 0
    decide
  | [x] => by
    show x.length ≤ x.length + 2 + 0
    omega
  | x :: y :: r => by
    have ih := join_le sep hs (y :: r)
    show (x ++ sep ++ Str.join sep (y :: r)).length ≤ x.length + 2 + ((y :: r).map fun t => t.length + 2).sum
    rw [len_app, len_app]
    omega
theorem listText_le (ts : List Str) : (listText ts).length ≤ (ts.map fun t => t.length + 2).sum + 2 := by
  have key : ∀ (ts : List Str) (i : Nat) (acc : Str), (textFrom i acc ts).length ≤ acc.length + (ts.map fun t => t.length + 2).sum := by
    intro ts
    induction ts with
    | nil => intro i acc; exact Nat.le_refl _
    | cons t r ih =>
      intro i acc
      unfold textFrom
      refine Nat.le_trans (ih _ _) ?_
      have e2 : (Str.ofString ", ").length = 2 := by decide
      have e0 : (Str.ofString "").length = 0 := by decide
      rw [len_app, len_app]
      simp only [List.map_cons, List.sum_cons]
      split <;> (first | rw [e2] | rw [e0]) <;> omega
  show (textFrom 0 "[" ts ++ "]").length ≤ _
  rw [len_app]
  have h := key ts 0 "["
  have e1 : (Str.ofString "[").length = 1 := by decide
  have e2 : (Str.ofString "]").length = 1 := by decide
  rw [e1] at h
  rw [e2]
  omega
theorem tupleText_le (ts : List Str) : (tupleText ts).length ≤ (ts.map fun t => t.length + 2).sum + 3 := by
  have h := join_le ", " (by decide) ts
  unfold tupleText
  rw [len_app, len_app]
  have e1 : (Str.ofString "(").length = 1 := by decide
  have e2 : (Str.ofString ",)").length = 2 := by decide
  have e3 : (Str.ofString ")").length = 1 := by decide
  rw [e1]
  split <;> (first | rw [e2] | rw [e3]) <;> omega
mutual
theorem shown_le : ∀ d : PyData, Wide d → d.shown.length ≤ wt d
  | .none, _ => by decide
  | .bool b, _ => by cases b <;> decide
  | .str x, _ => Nat.le_refl _
  | .int i, h => by
    have e := int_text_length_le10 (k := 4300) (by decide) h
    show (Str.ofString (toString i)).length ≤ 4400
    rw [PySem.ofString_length]
    omega
  | .list xs, h => Nat.le_trans (listText_le _) (Nat.add_le_add_right (shownAll_le xs h) 2)
  | .tuple xs, h => Nat.le_trans (tupleText_le _) (Nat.add_le_add_right (shownAll_le xs h) 3)
  | .dict _, h => h.elim
theorem shownAll_le : ∀ xs : List PyData, WideAll xs → ((PyData.shownAll xs).map fun t => t.length + 2).sum ≤ wtAll xs
  | [], _ => Nat.le_refl _
  | x :: xs, h => by
    have h1 := shown_le x h.1
    have h2 := shownAll_le xs h.2
    show (x.shown.length + 2) + ((PyData.shownAll xs).map fun t => t.length + 2).sum ≤ wt x + 2 + wtAll xs
    omega
end
section
variable {prog : Program} {w : World} {h₀ : Heap}
theorem int_repr_call {A : Around} {E : Value → Shared → Prop} {s : Shared} {a : Int} {t : Tok} {Q : Value → Shared → Prop} (hn : s.heap.NoDigits) (ha : a.natAbs < 10 ^ 4300)
    (h : Q (.str (toString a) s.toks) { s with toks := s.toks + 1 }) : wpAny (model prog w) A (call (.builtin "int.__repr__") [.int a t]) Q E s := by
  refine wpAny_call_entry F.slot_int_repr (typeIs_int s a t) F.entry_int_repr ?_ (F.args_int_repr_1 _)
  unfold Builtin.«int.__repr__»
  show wpAny _ _ (do let r ← Builtin.overDigitLimit? a; _) _ _ s
  refine wpAny_bind (overDigitLimit_any hn (fun hlt => ?_) (fun hge => absurd ha (Nat.not_lt.mpr hge)))
  exact wpAny_bind (wpAny_mkStr (wpAny_pure ⟨_, rfl, h⟩) (int_text_fits10 hlt))
theorem reprK_int {as : List Addr} {d : Nat} {a : Int} (t : Tok) (hn : h₀.NoDigits) (ha : a.natAbs < 10 ^ 4300) : ReprK prog w as h₀ d (.int a t) (toString a) := by
  intro base hb A g E s Q hg hcl hu hk hQ
  rw [pyReprUnder_leaf (v := .int a t) (by omega) (fun _ e => nomatch e)]
  unfold pyRepr
  refine wpAny_bind (wpAny_pyReprObj_slot (by omega) (typeIs_int s a t) F.slot_int_repr.toG (int_repr_call (hn.keeps hk) ha ⟨_, _, rfl, ?_⟩))
  exact wpAny_pure (hQ s.heap _ fun _ _ e => e)
mutual
theorem repr_wide (hn : h₀.NoDigits) : ∀ {v : Value} {d : PyData} {as : List Addr}, Reads h₀ v d as → Wide d → d.shown.length ≤ sizeLine →
    ∃ bs, ReadAtMost h₀ d.depth bs ∧ ReprK prog w bs h₀ d.depth v d.shown
  | _, _, _, .none, _, _ => ⟨[], (fun _ h => nomatch h), ReprK.of_is ReprIs.none _ _ _⟩
  | _, _, _, .bool b, _, _ => ⟨[], (fun _ h => nomatch h), ReprK.of_is (ReprIs.bool b) _ _ _⟩
  | _, _, _, .int i t, hw, _ => ⟨[], (fun _ h => nomatch h), reprK_int t hn hw⟩
  | _, _, _, .str x t, _, hz => ⟨[], (fun _ h => nomatch h), ReprK.of_is (ReprIs.str x t hz) _ _ _⟩
  | _, _, _, .list (a := a) (vs := vs) (xs := xs) h1 h2 h3 h4, hw, hz => by
    have hz' : (listText (PyData.shownAll xs)).length ≤ sizeLine := hz
    obtain ⟨bs, hb, hk⟩ := repr_wideAll hn h4 hw (fun t ht => Nat.le_trans (listText_mem_le ht) hz')
    have r : Reads h₀ (.ref a) (.list xs) _ := Reads.list h1 h2 h3 h4
    have deep : PyData.depthAll xs < (PyData.list xs).depth := by
      simp only [PyData.depth]
      omega
    refine ⟨a :: bs, ReadAtMost.cons r (Nat.le_of_lt deep) hb, ?_⟩
    have hna := not_mem_of_deeper r deep hb
    show ReprK prog w (a :: bs) h₀ (PyData.list xs).depth (.ref a) (listText (PyData.shownAll xs))
    simp only [PyData.depth]
    obtain ⟨l⟩ := vs
    match l, h3, h4, hk with
    | [], h3, h4, _ =>
      have h4' : ReadsAll h₀ [] xs _ := h4
      cases h4'
      exact ReprK.listEmpty h1 h2 h3
    | x :: l, h3, h4, hk => exact ReprK.list h1 h2 h3 hna (by simpa using hk.length_eq) (fun i y e => hk.item i y (by simpa using e))
  | _, _, _, .tuple (a := a) (xs := xs) h1 h2 h3 h4, hw, hz => by
    have hz' : (tupleText (PyData.shownAll xs)).length ≤ sizeLine := hz
    obtain ⟨bs, hb, hk⟩ := repr_wideAll hn h4 hw (fun t ht => Nat.le_trans (tupleText_mem_le ht) hz')
    have r : Reads h₀ (.ref a) (.tuple xs) _ := Reads.tuple h1 h2 h3 h4
    have deep : PyData.depthAll xs < (PyData.tuple xs).depth := by
      simp only [PyData.depth]
      omega
    refine ⟨a :: bs, ReadAtMost.cons r (Nat.le_of_lt deep) hb, ?_⟩
    have hna := not_mem_of_deeper r deep hb
    show ReprK prog w (a :: bs) h₀ (PyData.tuple xs).depth (.ref a) (tupleText (PyData.shownAll xs))
    simp only [PyData.depth]
    exact ReprK.tuple h1 h2 h3 hna hk
  | _, _, _, .dict _ _ _ _ _, hw, _ => hw.elim
theorem repr_wideAll (hn : h₀.NoDigits) : ∀ {vs : List Value} {ds : List PyData} {as : List Addr}, ReadsAll h₀ vs ds as → WideAll ds → (∀ t ∈ PyData.shownAll ds, t.length ≤ sizeLine) →
    ∃ bs, ReadAtMost h₀ (PyData.depthAll ds) bs ∧ ReprAllK prog w bs h₀ (PyData.depthAll ds) vs (PyData.shownAll ds)
  | _, _, _, .nil, _, _ => ⟨[], (fun _ h => nomatch h), .nil⟩
  | _, _, _, .cons (d := d) (ds := ds) r rs, hw, hz => by
    have z1 : d.shown ∈ PyData.shownAll (d :: ds) := List.mem_cons_self ..
    obtain ⟨b1, hb1, k1⟩ := repr_wide hn r hw.1 (hz _ z1)
    obtain ⟨b2, hb2, k2⟩ := repr_wideAll hn rs hw.2 (fun t ht => hz t (List.mem_cons_of_mem d.shown ht))
    have m1 : d.depth ≤ PyData.depthAll (d :: ds) := by
      simp only [PyData.depthAll]
      omega
    have m2 : PyData.depthAll ds ≤ PyData.depthAll (d :: ds) := by
      simp only [PyData.depthAll]
      omega
    refine ⟨b1 ++ b2, (hb1.mono m1).append (hb2.mono m2), ?_⟩
    exact ReprAllK.cons ((k1.more fun b hb => List.mem_append_left _ hb).level_le m1) (k2.more_le (fun b hb => List.mem_append_right _ hb) m2)
end
end
def rReprW (K : PySem.W.Frag) : List V → Hp → VK → Prop := fun xs H Q => ∃ x d, xs = [x] ∧ Dp K H x d ∧ Wide d ∧ d.depth ≤ 30 ∧ wt d ≤ sizeLine ∧ Q (.str d.shown) H
theorem call_reprW {X : Cx} {k : Nat} (hr : Room k X.A) (hG : X.A.guards = some []) (nd : X.base.NoDigits) : CallR X (.builtin "repr") (rReprW X.K) := by
  intro pins s σ H xs us Q I r h
  obtain ⟨x, d, rfl, hd, hw, hdep, hwt, q⟩ := h
  obtain ⟨u, rfl, r1⟩ := vals1 r
  obtain ⟨as, rd⟩ := Dp.reads I d x u hd r1
  have hn : s.heap.NoDigits := nd.keeps I.bk
  have hsz : d.shown.length ≤ sizeLine := Nat.le_trans (shown_le d hw) hwt
  have hu := hr.units
  obtain ⟨bs, hb, hk⟩ := repr_wide (prog := X.prog) (w := X.w) hn rd hw hsz
  cases hd with
  | non => cases r1; exact P.repr_of_none ⟨.str _, H, I.tok _, ⟨_, rfl⟩, q⟩
  | bl b => cases r1; exact P.repr_of_bool ⟨.str _, H, I.tok _, ⟨_, rfl⟩, q⟩
  | int i =>
    obtain ⟨t, rfl⟩ := r1
    exact call_repr_slot (by omega) (typeIs_int s i t) F.slot_int_repr.toG (int_repr_call hn hw ⟨_, _, rfl, .str _, H, I.tok _, ⟨_, rfl⟩, q⟩)
  | str z =>
    obtain ⟨t, rfl⟩ := r1
    exact P.repr_of_str ⟨.str _, H, I.tok _, ⟨_, rfl⟩, q⟩ hsz
  | lst h1 h2 =>
    cases r1
    cases rd with
    | list g1 g2 g3 g4 =>
      rename_i ds o vs n bs0
      obtain ⟨bs, hb, hk⟩ := repr_wideAll (prog := X.prog) (w := X.w) hn g4 hw (fun t ht => Nat.le_trans (listText_mem_le ht) hsz)
      have r : Reads s.heap (.ref _) (.list ds) _ := Reads.list g1 g2 g3 g4
      have deep : PyData.depthAll ds < (PyData.list ds).depth := by
        simp only [PyData.depth]
        omega
      have hna := not_mem_of_deeper r deep hb
      have hdep' : PyData.depthAll ds + 1 ≤ 30 := Nat.le_trans deep hdep
      refine call_repr_slot (by omega) ⟨o, g1, g2⟩ F.slot_list_repr.toG ?_
      obtain ⟨l⟩ := vs
      match l, g3, g4, hk with
      | [], g3, g4, _ =>
        have g4' : ReadsAll s.heap [] ds _ := g4
        cases g4'
        exact call_list_repr_empty ⟨o, g1, g2⟩ g1 g3 ⟨_, _, rfl, .str _, H, I.tok _, ⟨_, rfl⟩, q⟩
      | x :: l, g3, g4, hk =>
        exact call_list_reprK g1 g2 g3 hna (by simpa using hk.length_eq) (fun i y e => hk.item i y (by simpa using e)) hG (fun b _ => Clear.nil b)
          (by show X.A.units + 1 + (PyData.depthAll ds + 1) < cLine; omega) (fun _ _ e => e) (fun h' u tk hk => ⟨_, _, rfl, .str _, H, I.kept hk, ⟨_, rfl⟩, q⟩) hsz
  | tup h1 h2 =>
    cases r1
    cases rd with
    | tuple g1 g2 g3 g4 =>
      rename_i ds o vs n
      obtain ⟨bs, hb, hk⟩ := repr_wideAll (prog := X.prog) (w := X.w) hn g4 hw (fun t ht => Nat.le_trans (tupleText_mem_le ht) hsz)
      have r : Reads s.heap (.ref _) (.tuple ds) _ := Reads.tuple g1 g2 g3 g4
      have deep : PyData.depthAll ds < (PyData.tuple ds).depth := by
        simp only [PyData.depth]
        omega
      have hna := not_mem_of_deeper r deep hb
      have hdep' : PyData.depthAll ds + 1 ≤ 30 := Nat.le_trans deep hdep
      refine call_repr_slot (by omega) ⟨o, g1, g2⟩ F.slot_tuple_repr ?_
      exact call_tuple_reprK g1 g2 g3 hna hk hG (fun b _ => Clear.nil b)
        (by show X.A.units + 1 + (PyData.depthAll ds + 1) < cLine; omega) (fun _ _ e => e) (fun h' u tk hk => ⟨_, _, rfl, .str _, H, I.kept hk, ⟨_, rfl⟩, q⟩) hsz
theorem r_reprW {K : PySem.W.Frag} {H : Hp} {x : V} {Q : VK} (e : PyData) (hd : Dp K H x e) (hw : Wide e) (hp : e.depth ≤ 30) (hl : wt e ≤ sizeLine) (h : Q (.str e.shown) H) : rReprW K [x] H Q := ⟨x, e, rfl, hd, hw, hp, hl, h⟩
end Gl

set_option Elab.async false
set_option maxRecDepth 100000
set_option maxHeartbeats 4000000
set_option linter.all false
namespace Law
open PySem L2 Gl
def topS (i : Nat) : Stmt := PySem.Challenge.pw_grownlines_k05_whole_turns_around_points.main.body.getD i (.Pass ⟨0, 0, 0, 0⟩)
abbrev s_is_integer : Stmt := topS 3
theorem sc_is_integer : FnScope ["value"] ["value"] (defScope s_is_integer) := ⟨rfl, rfl, rfl, by decide +kernel, rfl, by decide +kernel, by decide +kernel⟩
abbrev s_is_point : Stmt := topS 4
theorem sc_is_point : FnScope ["value"] ["value"] (defScope s_is_point) := ⟨rfl, rfl, rfl, by decide +kernel, rfl, by decide +kernel, by decide +kernel⟩
abbrev s_require_point : Stmt := topS 17
theorem sc_require_point : FnScope ["value"] ["value"] (defScope s_require_point) := ⟨rfl, rfl, rfl, by decide +kernel, rfl, by decide +kernel, by decide +kernel⟩
abbrev s_require_integer : Stmt := topS 18
theorem sc_require_integer : FnScope ["value"] ["value"] (defScope s_require_integer) := ⟨rfl, rfl, rfl, by decide +kernel, rfl, by decide +kernel, by decide +kernel⟩
abbrev s_are_ends : Stmt := topS 19
theorem sc_are_ends : FnScope ["value"] ["value"] (defScope s_are_ends) := ⟨rfl, rfl, rfl, by decide +kernel, rfl, by decide +kernel, by decide +kernel⟩
abbrev s_Grid___init__ : Stmt := inClass (topS 20) 1
theorem sc_Grid___init__ : FnScope ["self", "name"] ["self", "name"] (defScope s_Grid___init__) := ⟨rfl, rfl, rfl, by decide +kernel, rfl, by decide +kernel, by decide +kernel⟩
abbrev s_Grid_half : Stmt := inClass (topS 20) 3
theorem sc_Grid_half : FnScope ["self"] ["self"] (defScope s_Grid_half) := ⟨rfl, rfl, rfl, by decide +kernel, rfl, by decide +kernel, by decide +kernel⟩
abbrev s_Grid_modulo : Stmt := inClass (topS 20) 5
theorem sc_Grid_modulo : FnScope ["self", "direction"] ["self", "direction"] (defScope s_Grid_modulo) := ⟨rfl, rfl, rfl, by decide +kernel, rfl, by decide +kernel, by decide +kernel⟩
abbrev s_Grid_unit : Stmt := inClass (topS 20) 6
theorem sc_Grid_unit : FnScope ["self", "direction"] ["self", "direction"] (defScope s_Grid_unit) := ⟨rfl, rfl, rfl, by decide +kernel, rfl, by decide +kernel, by decide +kernel⟩
abbrev s_Grid_product_of : Stmt := inClass (topS 20) 8
theorem sc_Grid_product_of : FnScope ["self", "one", "other", "a", "b", "c", "d"] ["self", "one", "other"] (defScope s_Grid_product_of) := ⟨rfl, rfl, rfl, by decide +kernel, rfl, by decide +kernel, by decide +kernel⟩
abbrev s_Grid_turned_by : Stmt := inClass (topS 20) 9
theorem sc_Grid_turned_by : FnScope ["self", "point", "turn"] ["self", "point", "turn"] (defScope s_Grid_turned_by) := ⟨rfl, rfl, rfl, by decide +kernel, rfl, by decide +kernel, by decide +kernel⟩
abbrev s_Grid_square_of : Stmt := inClass (topS 20) 10
theorem sc_Grid_square_of : FnScope ["self", "point", "a", "b"] ["self", "point"] (defScope s_Grid_square_of) := ⟨rfl, rfl, rfl, by decide +kernel, rfl, by decide +kernel, by decide +kernel⟩
abbrev s_Grid_flipped : Stmt := inClass (topS 20) 11
theorem sc_Grid_flipped : FnScope ["self", "point", "a", "b"] ["self", "point"] (defScope s_Grid_flipped) := ⟨rfl, rfl, rfl, by decide +kernel, rfl, by decide +kernel, by decide +kernel⟩
abbrev s_Grid_norm_of : Stmt := inClass (topS 20) 14
theorem sc_Grid_norm_of : FnScope ["self", "point"] ["self", "point"] (defScope s_Grid_norm_of) := ⟨rfl, rfl, rfl, by decide +kernel, rfl, by decide +kernel, by decide +kernel⟩
abbrev s_Grid_conjugate_of : Stmt := inClass (topS 20) 15
theorem sc_Grid_conjugate_of : FnScope ["self", "point"] ["self", "point"] (defScope s_Grid_conjugate_of) := ⟨rfl, rfl, rfl, by decide +kernel, rfl, by decide +kernel, by decide +kernel⟩
abbrev s_Grid_turned : Stmt := inClass (topS 20) 16
theorem sc_Grid_turned : FnScope ["self", "point", "turn"] ["self", "point", "turn"] (defScope s_Grid_turned) := ⟨rfl, rfl, rfl, by decide +kernel, rfl, by decide +kernel, by decide +kernel⟩
abbrev s_Grid_are_alternate : Stmt := inClass (topS 20) 18
theorem sc_Grid_are_alternate : FnScope ["self", "ends", "others", "first", "second", "third", "fourth", "direction"] ["self", "ends", "others"] (defScope s_Grid_are_alternate) := ⟨rfl, rfl, rfl, by decide +kernel, rfl, by decide +kernel, by decide +kernel⟩
abbrev s_Grid_alternate : Stmt := inClass (topS 20) 19
theorem sc_Grid_alternate : FnScope ["self", "ends", "others"] ["self", "ends", "others"] (defScope s_Grid_alternate) := ⟨rfl, rfl, rfl, by decide +kernel, rfl, by decide +kernel, by decide +kernel⟩
abbrev s_Grid___len__ : Stmt := inClass (topS 20) 20
theorem sc_Grid___len__ : FnScope ["self"] ["self"] (defScope s_Grid___len__) := ⟨rfl, rfl, rfl, by decide +kernel, rfl, by decide +kernel, by decide +kernel⟩
abbrev s__law_dice : Stmt := topS 22
theorem sc__law_dice : FnScope ["_law_script", "_law_spot", "_law_cell", "_law_left"] ["_law_script", "_law_spot"] (defScope s__law_dice) := ⟨rfl, rfl, rfl, by decide +kernel, rfl, by decide +kernel, by decide +kernel⟩
abbrev s__law_roll : Stmt := topS 23
theorem sc__law_roll : FnScope ["_law_dice_here", "_law_total", "_law_found", "_law_one", "_law_two"] ["_law_dice_here", "_law_total"] (defScope s__law_roll) := ⟨rfl, rfl, rfl, by decide +kernel, rfl, by decide +kernel, by decide +kernel⟩
abbrev s__law_pick : Stmt := topS 24
theorem sc__law_pick : FnScope ["_law_dice_here", "_law_items"] ["_law_dice_here", "_law_items"] (defScope s__law_pick) := ⟨rfl, rfl, rfl, by decide +kernel, rfl, by decide +kernel, by decide +kernel⟩
abbrev s__law_around : Stmt := topS 25
theorem sc__law_around : FnScope ["_law_plain"] ["_law_plain"] (defScope s__law_around) := ⟨rfl, rfl, rfl, by decide +kernel, rfl, by decide +kernel, by decide +kernel⟩
abbrev s__law_unit : Stmt := topS 26
theorem sc__law_unit : FnScope ["_law_plain", "_law_direction"] ["_law_plain", "_law_direction"] (defScope s__law_unit) := ⟨rfl, rfl, rfl, by decide +kernel, rfl, by decide +kernel, by decide +kernel⟩
abbrev s__law_times : Stmt := topS 27
theorem sc__law_times : FnScope ["_law_plain", "_law_one", "_law_other", "_law_both", "_law_more"] ["_law_plain", "_law_one", "_law_other"] (defScope s__law_times) := ⟨rfl, rfl, rfl, by decide +kernel, rfl, by decide +kernel, by decide +kernel⟩
abbrev s__law_limit : Stmt := topS 28
theorem sc__law_limit : FnScope [] [] (defScope s__law_limit) := ⟨rfl, rfl, rfl, by decide +kernel, rfl, by decide +kernel, by decide +kernel⟩
abbrev s__law_part : Stmt := topS 29
theorem sc__law_part : FnScope ["_law_dice_here", "_law_great", "_law_some", "_law_part_here"] ["_law_dice_here"] (defScope s__law_part) := ⟨rfl, rfl, rfl, by decide +kernel, rfl, by decide +kernel, by decide +kernel⟩
abbrev s__law_grid_plain : Stmt := topS 30
theorem sc__law_grid_plain : FnScope ["_law_dice_here"] ["_law_dice_here"] (defScope s__law_grid_plain) := ⟨rfl, rfl, rfl, by decide +kernel, rfl, by decide +kernel, by decide +kernel⟩
abbrev s__law_spun : Stmt := topS 31
theorem sc__law_spun : FnScope ["_law_plain", "_law_place", "_law_turn"] ["_law_plain", "_law_place", "_law_turn"] (defScope s__law_spun) := ⟨rfl, rfl, rfl, by decide +kernel, rfl, by decide +kernel, by decide +kernel⟩
abbrev s__law_do_alternate : Stmt := topS 32
theorem sc__law_do_alternate : FnScope ["_law_around_here", "_law_ends", "_law_others", "_law_met", "_law_direction", "_law_places", "_law_one"] ["_law_around_here", "_law_ends", "_law_others"] (defScope s__law_do_alternate) := ⟨rfl, rfl, rfl, by decide +kernel, rfl, by decide +kernel, by decide +kernel⟩
abbrev s__law_turns_right : Stmt := topS 33
theorem sc__law_turns_right : FnScope ["_law_dice_here", "_law_plain", "_law_grid", "_law_place", "_law_one", "_law_other", "_law_told", "_law_again"] ["_law_dice_here", "_law_plain", "_law_grid"] (defScope s__law_turns_right) := ⟨rfl, rfl, rfl, by decide +kernel, rfl, by decide +kernel, by decide +kernel⟩
abbrev s__law_pairs_right : Stmt := topS 34
theorem sc__law_pairs_right : FnScope ["_law_dice_here", "_law_plain", "_law_grid", "_law_around_here", "_law_by", "_law_shift", "_law_first", "_law_second", "_law_other", "_law_ends", "_law_due", "_law_told"] ["_law_dice_here", "_law_plain", "_law_grid"] (defScope s__law_pairs_right) := ⟨rfl, rfl, rfl, by decide +kernel, rfl, by decide +kernel, by decide +kernel⟩
abbrev s_law : Stmt := topS 35
theorem sc_law : FnScope ["_law_script", "_law_spot", "_law_dice_here", "_law_plain", "_law_grid", "_law_turn", "_law_square", "_law_triangle", "_law_told"] ["_law_script"] (defScope s_law) := ⟨rfl, rfl, rfl, by decide +kernel, rfl, by decide +kernel, by decide +kernel⟩
def LIM : Int := 10 ^ 400
structure Ad where
  a_is_integer : Addr
  a_is_point : Addr
  a_require_point : Addr
  a_require_integer : Addr
  a_are_ends : Addr
  a_Grid___init__ : Addr
  a_Grid_half : Addr
  a_Grid_modulo : Addr
  a_Grid_unit : Addr
  a_Grid_product_of : Addr
  a_Grid_turned_by : Addr
  a_Grid_square_of : Addr
  a_Grid_flipped : Addr
  a_Grid_norm_of : Addr
  a_Grid_conjugate_of : Addr
  a_Grid_turned : Addr
  a_Grid_are_alternate : Addr
  a_Grid_alternate : Addr
  a_Grid___len__ : Addr
  a__law_dice : Addr
  a__law_roll : Addr
  a__law_pick : Addr
  a__law_around : Addr
  a__law_unit : Addr
  a__law_times : Addr
  a__law_limit : Addr
  a__law_part : Addr
  a__law_grid_plain : Addr
  a__law_spun : Addr
  a__law_do_alternate : Addr
  a__law_turns_right : Addr
  a__law_pairs_right : Addr
  a_law : Addr
  c_Grid : Addr
  p_Grid_own_name : Addr
  p_Grid_own_units : Addr
  q_Grid_half : Addr
  u_GRIDS : Addr
  u_SQUARE_UNITS : Addr
  u_SQUARE_UNITS_0 : Addr
  u_SQUARE_UNITS_1 : Addr
  u_SQUARE_UNITS_2 : Addr
  u_SQUARE_UNITS_3 : Addr
  u_TRIANGLE_UNITS : Addr
  u_TRIANGLE_UNITS_0 : Addr
  u_TRIANGLE_UNITS_1 : Addr
  u_TRIANGLE_UNITS_2 : Addr
  u_TRIANGLE_UNITS_3 : Addr
  u_TRIANGLE_UNITS_4 : Addr
  u_TRIANGLE_UNITS_5 : Addr
structure Fd where
  d_is_integer : FuncData
  d_is_point : FuncData
  d_require_point : FuncData
  d_require_integer : FuncData
  d_are_ends : FuncData
  d_Grid___init__ : FuncData
  d_Grid_half : FuncData
  d_Grid_modulo : FuncData
  d_Grid_unit : FuncData
  d_Grid_product_of : FuncData
  d_Grid_turned_by : FuncData
  d_Grid_square_of : FuncData
  d_Grid_flipped : FuncData
  d_Grid_norm_of : FuncData
  d_Grid_conjugate_of : FuncData
  d_Grid_turned : FuncData
  d_Grid_are_alternate : FuncData
  d_Grid_alternate : FuncData
  d_Grid___len__ : FuncData
  d__law_dice : FuncData
  d__law_roll : FuncData
  d__law_pick : FuncData
  d__law_around : FuncData
  d__law_unit : FuncData
  d__law_times : FuncData
  d__law_limit : FuncData
  d__law_part : FuncData
  d__law_grid_plain : FuncData
  d__law_spun : FuncData
  d__law_do_alternate : FuncData
  d__law_turns_right : FuncData
  d__law_pairs_right : FuncData
  d_law : FuncData
structure Txt (K : PySem.W.Frag) (mg : Str → Option Value) (A : Ad) (D : Fd) : Prop where
  z_isinstance : mg "isinstance" = none
  z_int : mg "int" = none
  z_bool : mg "bool" = none
  z_tuple : mg "tuple" = none
  z_str : mg "str" = none
  z_len : mg "len" = none
  z_abs : mg "abs" = none
  z_max : mg "max" = none
  z_min : mg "min" = none
  z_range : mg "range" = none
  z_repr : mg "repr" = none
  z_set : mg "set" = none
  c_LIMIT : ∃ u, mg "LIMIT" = some u ∧ RelV (.int LIM) u
  c_SQUARE : ∃ u, mg "SQUARE" = some u ∧ RelV (.str "square") u
  c_TRIANGLE : ∃ u, mg "TRIANGLE" = some u ∧ RelV (.str "triangle") u
  c_GRIDS : ∃ u, mg "GRIDS" = some u ∧ RelV (.ref A.u_GRIDS) u
  t_GRIDS : ∀ H, SqT K H A.u_GRIDS [.str "square", .str "triangle"]
  c_SQUARE_UNITS : ∃ u, mg "SQUARE_UNITS" = some u ∧ RelV (.ref A.u_SQUARE_UNITS) u
  t_SQUARE_UNITS : ∀ H, SqT K H A.u_SQUARE_UNITS [.ref A.u_SQUARE_UNITS_0, .ref A.u_SQUARE_UNITS_1, .ref A.u_SQUARE_UNITS_2, .ref A.u_SQUARE_UNITS_3]
  t_SQUARE_UNITS_0 : ∀ H, SqT K H A.u_SQUARE_UNITS_0 [.int (1), .int (0)]
  t_SQUARE_UNITS_1 : ∀ H, SqT K H A.u_SQUARE_UNITS_1 [.int (0), .int (1)]
  t_SQUARE_UNITS_2 : ∀ H, SqT K H A.u_SQUARE_UNITS_2 [.int (-1), .int (0)]
  t_SQUARE_UNITS_3 : ∀ H, SqT K H A.u_SQUARE_UNITS_3 [.int (0), .int (-1)]
  c_TRIANGLE_UNITS : ∃ u, mg "TRIANGLE_UNITS" = some u ∧ RelV (.ref A.u_TRIANGLE_UNITS) u
  t_TRIANGLE_UNITS : ∀ H, SqT K H A.u_TRIANGLE_UNITS [.ref A.u_TRIANGLE_UNITS_0, .ref A.u_TRIANGLE_UNITS_1, .ref A.u_TRIANGLE_UNITS_2, .ref A.u_TRIANGLE_UNITS_3, .ref A.u_TRIANGLE_UNITS_4, .ref A.u_TRIANGLE_UNITS_5]
  t_TRIANGLE_UNITS_0 : ∀ H, SqT K H A.u_TRIANGLE_UNITS_0 [.int (1), .int (0)]
  t_TRIANGLE_UNITS_1 : ∀ H, SqT K H A.u_TRIANGLE_UNITS_1 [.int (0), .int (1)]
  t_TRIANGLE_UNITS_2 : ∀ H, SqT K H A.u_TRIANGLE_UNITS_2 [.int (-1), .int (1)]
  t_TRIANGLE_UNITS_3 : ∀ H, SqT K H A.u_TRIANGLE_UNITS_3 [.int (-1), .int (0)]
  t_TRIANGLE_UNITS_4 : ∀ H, SqT K H A.u_TRIANGLE_UNITS_4 [.int (0), .int (-1)]
  t_TRIANGLE_UNITS_5 : ∀ H, SqT K H A.u_TRIANGLE_UNITS_5 [.int (1), .int (-1)]
  g_is_integer : mg "is_integer" = some (.ref A.a_is_integer)
  F_is_integer : Fun K "is_integer" "is_integer" s_is_integer A.a_is_integer D.d_is_integer
  b_is_integer : Binds K D.d_is_integer ["value"] []
  g_is_point : mg "is_point" = some (.ref A.a_is_point)
  F_is_point : Fun K "is_point" "is_point" s_is_point A.a_is_point D.d_is_point
  b_is_point : Binds K D.d_is_point ["value"] []
  g_require_point : mg "require_point" = some (.ref A.a_require_point)
  F_require_point : Fun K "require_point" "require_point" s_require_point A.a_require_point D.d_require_point
  b_require_point : Binds K D.d_require_point ["value"] []
  g_require_integer : mg "require_integer" = some (.ref A.a_require_integer)
  F_require_integer : Fun K "require_integer" "require_integer" s_require_integer A.a_require_integer D.d_require_integer
  b_require_integer : Binds K D.d_require_integer ["value"] []
  g_are_ends : mg "are_ends" = some (.ref A.a_are_ends)
  F_are_ends : Fun K "are_ends" "are_ends" s_are_ends A.a_are_ends D.d_are_ends
  b_are_ends : Binds K D.d_are_ends ["value"] []
  F_Grid___init__ : Fun K "__init__" "Grid.__init__" s_Grid___init__ A.a_Grid___init__ D.d_Grid___init__
  b_Grid___init__ : Binds K D.d_Grid___init__ ["self", "name"] []
  F_Grid_half : Fun K "half" "Grid.half" s_Grid_half A.a_Grid_half D.d_Grid_half
  b_Grid_half : Binds K D.d_Grid_half ["self"] []
  F_Grid_modulo : Fun K "modulo" "Grid.modulo" s_Grid_modulo A.a_Grid_modulo D.d_Grid_modulo
  b_Grid_modulo : Binds K D.d_Grid_modulo ["self", "direction"] []
  F_Grid_unit : Fun K "unit" "Grid.unit" s_Grid_unit A.a_Grid_unit D.d_Grid_unit
  b_Grid_unit : Binds K D.d_Grid_unit ["self", "direction"] []
  F_Grid_product_of : Fun K "product_of" "Grid.product_of" s_Grid_product_of A.a_Grid_product_of D.d_Grid_product_of
  b_Grid_product_of : Binds K D.d_Grid_product_of ["self", "one", "other"] []
  F_Grid_turned_by : Fun K "turned_by" "Grid.turned_by" s_Grid_turned_by A.a_Grid_turned_by D.d_Grid_turned_by
  b_Grid_turned_by : Binds K D.d_Grid_turned_by ["self", "point", "turn"] []
  F_Grid_square_of : Fun K "square_of" "Grid.square_of" s_Grid_square_of A.a_Grid_square_of D.d_Grid_square_of
  b_Grid_square_of : Binds K D.d_Grid_square_of ["self", "point"] []
  F_Grid_flipped : Fun K "flipped" "Grid.flipped" s_Grid_flipped A.a_Grid_flipped D.d_Grid_flipped
  b_Grid_flipped : Binds K D.d_Grid_flipped ["self", "point"] []
  F_Grid_norm_of : Fun K "norm_of" "Grid.norm_of" s_Grid_norm_of A.a_Grid_norm_of D.d_Grid_norm_of
  b_Grid_norm_of : Binds K D.d_Grid_norm_of ["self", "point"] []
  F_Grid_conjugate_of : Fun K "conjugate_of" "Grid.conjugate_of" s_Grid_conjugate_of A.a_Grid_conjugate_of D.d_Grid_conjugate_of
  b_Grid_conjugate_of : Binds K D.d_Grid_conjugate_of ["self", "point"] []
  F_Grid_turned : Fun K "turned" "Grid.turned" s_Grid_turned A.a_Grid_turned D.d_Grid_turned
  b_Grid_turned : Binds K D.d_Grid_turned ["self", "point", "turn"] []
  F_Grid_are_alternate : Fun K "are_alternate" "Grid.are_alternate" s_Grid_are_alternate A.a_Grid_are_alternate D.d_Grid_are_alternate
  b_Grid_are_alternate : Binds K D.d_Grid_are_alternate ["self", "ends", "others"] []
  F_Grid_alternate : Fun K "alternate" "Grid.alternate" s_Grid_alternate A.a_Grid_alternate D.d_Grid_alternate
  b_Grid_alternate : Binds K D.d_Grid_alternate ["self", "ends", "others"] []
  F_Grid___len__ : Fun K "__len__" "Grid.__len__" s_Grid___len__ A.a_Grid___len__ D.d_Grid___len__
  b_Grid___len__ : Binds K D.d_Grid___len__ ["self"] []
  g__law_dice : mg "_law_dice" = some (.ref A.a__law_dice)
  F__law_dice : Fun K "_law_dice" "_law_dice" s__law_dice A.a__law_dice D.d__law_dice
  b__law_dice : Binds K D.d__law_dice ["_law_script", "_law_spot"] []
  g__law_roll : mg "_law_roll" = some (.ref A.a__law_roll)
  F__law_roll : Fun K "_law_roll" "_law_roll" s__law_roll A.a__law_roll D.d__law_roll
  b__law_roll : Binds K D.d__law_roll ["_law_dice_here", "_law_total"] []
  g__law_pick : mg "_law_pick" = some (.ref A.a__law_pick)
  F__law_pick : Fun K "_law_pick" "_law_pick" s__law_pick A.a__law_pick D.d__law_pick
  b__law_pick : Binds K D.d__law_pick ["_law_dice_here", "_law_items"] []
  g__law_around : mg "_law_around" = some (.ref A.a__law_around)
  F__law_around : Fun K "_law_around" "_law_around" s__law_around A.a__law_around D.d__law_around
  b__law_around : Binds K D.d__law_around ["_law_plain"] []
  g__law_unit : mg "_law_unit" = some (.ref A.a__law_unit)
  F__law_unit : Fun K "_law_unit" "_law_unit" s__law_unit A.a__law_unit D.d__law_unit
  b__law_unit : Binds K D.d__law_unit ["_law_plain", "_law_direction"] []
  g__law_times : mg "_law_times" = some (.ref A.a__law_times)
  F__law_times : Fun K "_law_times" "_law_times" s__law_times A.a__law_times D.d__law_times
  b__law_times : Binds K D.d__law_times ["_law_plain", "_law_one", "_law_other"] []
  g__law_limit : mg "_law_limit" = some (.ref A.a__law_limit)
  F__law_limit : Fun K "_law_limit" "_law_limit" s__law_limit A.a__law_limit D.d__law_limit
  b__law_limit : Binds K D.d__law_limit [] []
  g__law_part : mg "_law_part" = some (.ref A.a__law_part)
  F__law_part : Fun K "_law_part" "_law_part" s__law_part A.a__law_part D.d__law_part
  b__law_part : Binds K D.d__law_part ["_law_dice_here"] []
  g__law_grid_plain : mg "_law_grid_plain" = some (.ref A.a__law_grid_plain)
  F__law_grid_plain : Fun K "_law_grid_plain" "_law_grid_plain" s__law_grid_plain A.a__law_grid_plain D.d__law_grid_plain
  b__law_grid_plain : Binds K D.d__law_grid_plain ["_law_dice_here"] []
  g__law_spun : mg "_law_spun" = some (.ref A.a__law_spun)
  F__law_spun : Fun K "_law_spun" "_law_spun" s__law_spun A.a__law_spun D.d__law_spun
  b__law_spun : Binds K D.d__law_spun ["_law_plain", "_law_place", "_law_turn"] []
  g__law_do_alternate : mg "_law_do_alternate" = some (.ref A.a__law_do_alternate)
  F__law_do_alternate : Fun K "_law_do_alternate" "_law_do_alternate" s__law_do_alternate A.a__law_do_alternate D.d__law_do_alternate
  b__law_do_alternate : Binds K D.d__law_do_alternate ["_law_around_here", "_law_ends", "_law_others"] []
  g__law_turns_right : mg "_law_turns_right" = some (.ref A.a__law_turns_right)
  F__law_turns_right : Fun K "_law_turns_right" "_law_turns_right" s__law_turns_right A.a__law_turns_right D.d__law_turns_right
  b__law_turns_right : Binds K D.d__law_turns_right ["_law_dice_here", "_law_plain", "_law_grid"] []
  g__law_pairs_right : mg "_law_pairs_right" = some (.ref A.a__law_pairs_right)
  F__law_pairs_right : Fun K "_law_pairs_right" "_law_pairs_right" s__law_pairs_right A.a__law_pairs_right D.d__law_pairs_right
  b__law_pairs_right : Binds K D.d__law_pairs_right ["_law_dice_here", "_law_plain", "_law_grid"] []
  g_law : mg "law" = some (.ref A.a_law)
  F_law : Fun K "law" "law" s_law A.a_law D.d_law
  b_law : Binds K D.d_law ["_law_script"] []
  g_Grid : mg "Grid" = some (.ref A.c_Grid)
  sc_Grid : SlX.SCls K A.c_Grid
  sl_Grid_own_name : SlX.Slot1 K A.c_Grid "own_name" A.p_Grid_own_name 0
  sl_Grid_own_units : SlX.Slot1 K A.c_Grid "own_units" A.p_Grid_own_units 1
  mk_Grid : Mk K A.c_Grid A.a_Grid___init__
  m_Grid_modulo : Meth K A.c_Grid "modulo" A.a_Grid_modulo
  m_Grid_unit : Meth K A.c_Grid "unit" A.a_Grid_unit
  m_Grid_product_of : Meth K A.c_Grid "product_of" A.a_Grid_product_of
  m_Grid_turned_by : Meth K A.c_Grid "turned_by" A.a_Grid_turned_by
  m_Grid_square_of : Meth K A.c_Grid "square_of" A.a_Grid_square_of
  m_Grid_flipped : Meth K A.c_Grid "flipped" A.a_Grid_flipped
  m_Grid_norm_of : Meth K A.c_Grid "norm_of" A.a_Grid_norm_of
  m_Grid_conjugate_of : Meth K A.c_Grid "conjugate_of" A.a_Grid_conjugate_of
  m_Grid_turned : Meth K A.c_Grid "turned" A.a_Grid_turned
  m_Grid_are_alternate : Meth K A.c_Grid "are_alternate" A.a_Grid_are_alternate
  m_Grid_alternate : Meth K A.c_Grid "alternate" A.a_Grid_alternate
  m_Grid___len__ : Meth K A.c_Grid "__len__" A.a_Grid___len__
  pa_Grid_half : PySem.W.findIn K (.ref A.c_Grid) "half" = some (some (.ref A.q_Grid_half))
  pg_Grid_half : PySem.W.specialIn K (.ref A.q_Grid_half) "__get__" = some (some (.builtin "property.__get__"))
  pt_Grid_half : PySem.W.takesIn K (.ref A.q_Grid_half) = some true
  pr_Grid_half : ∃ rest, PySem.W.recIn K A.q_Grid_half "property" = some (.ref A.a_Grid_half :: rest)
local macro_rules | `(tactic| walk_at "lk") => `(tactic| first
  | assumption
  | (with_reducible exact upd_same)
  | ((with_reducible refine' Gl.lk_ne ?nlk ?lkk); (case nlk => walk_at "ne"); (case lkk => walk_at "lk")))
local macro_rules | `(tactic| walk_at "ne") => `(tactic| first
  | assumption
  | exact Ne.symm (by assumption)
  | exact ne_of_none (by assumption) (by assumption)
  | exact (ne_of_none (by assumption) (by assumption)).symm)
local macro_rules | `(tactic| walk_at "sq") => `(tactic| first
  | assumption
  | ((with_reducible refine' SqL.of ?hlk); (case hlk => walk_at "lk"))
  | ((with_reducible refine' SqT.of ?hlk); (case hlk => walk_at "lk")))
local macro_rules | `(tactic| walk_at "at") => `(tactic| first
  | exact at_0
  | exact at_1
  | exact at_2
  | exact at_3
  | exact ix_0
  | exact ix_1
  | exact ix_2
  | exact rfl
  | assumption)
local macro_rules | `(tactic| walk_at "len") => `(tactic| first
  | (simp only [List.length_cons, List.length_nil]; decide)
  | (refine Nat.le_trans (?_ : _ ≤ 1000) (by decide); first | assumption | omega | (simp; omega)))
local macro_rules | `(tactic| walk_at "lenlt") => `(tactic| first
  | (refine Nat.lt_of_le_of_lt (?_ : _ ≤ 100000) (by decide); first | assumption | omega | (simp only [List.length_cons, List.length_nil, List.length_append]; omega) | (simp; omega)))
local macro_rules | `(tactic| walk_at "kd") => `(tactic| first
  | assumption
  | exact Knd.non
  | exact Knd.bl _
  | exact Knd.int _
  | exact Knd.str _
  | ((with_reducible refine' Knd.tup ?hlk); (case hlk => walk_at "sq"))
  | ((with_reducible refine' Knd.lst ?hlk); (case hlk => walk_at "sq"))
  | ((with_reducible refine' Knd.dK ?hlk); (case hlk => walk_at "lk")))
local macro_rules | `(tactic| walk_at "om") => `(tactic| first | omega | decide | decide +kernel)
local macro_rules | `(tactic| walk_at "side") => `(tactic| first
  | assumption
  | (with_reducible refine Gl.cdiv ?_ ?_ <;> first | omega | decide +kernel)
  | (with_reducible refine Gl.cmulL ?_ ?_ <;> first | omega | decide +kernel)
  | (with_reducible refine Gl.cmulR ?_ ?_ <;> first | omega | decide +kernel)
  | (refine Nat.le_trans (?_ : _ ≤ 1000) (by decide); first | assumption | omega | (simp only [List.length_cons, List.length_nil]; omega))
  | (show (0 : Int) < _; omega)
  | (show (0 : Int) < _; decide +kernel)
  | (exact Or.inr (by unfold CMulW; decide +kernel))
  | (exact ⟨by decide, by decide +kernel⟩))
local macro_rules | `(tactic| walk_at "r1") => `(tactic| first
  | ((with_reducible refine' Gl.r_var ?hv ?_); (case hv => exact rfl))
  | (with_reducible refine Gl.r_c ?_)
  | (with_reducible refine Gl.r_op ?_)
  | (with_reducible refine Gl.r_i0 ?_)
  | ((with_reducible refine Gl.r_i ?hc ?_); (case hc => walk_at "side"))
  | (with_reducible refine Gl.r_cons ?_)
  | (with_reducible refine Gl.r_nil ?_)
  | (with_reducible refine Gl.r_call ?_)
  | (with_reducible refine Gl.r_cb ?_)
  | (with_reducible refine Gl.r_seq ?_)
  | (with_reducible refine Gl.r_asg ?_)
  | (with_reducible refine Gl.r_gname ?_)
  | (with_reducible refine Gl.r_ret ?_)
  | (with_reducible refine Gl.r_if ?_)
  | (with_reducible refine Gl.r_test ?_)
  | (with_reducible refine Gl.r_bl ?_)
  | (with_reducible refine Gl.r_B ?_)
  | ((with_reducible refine Gl.r_eq ?hc ?_); (case hc => exact rfl))
  | ((with_reducible refine Gl.r_ne ?hc ?_); (case hc => exact rfl))
  | ((with_reducible refine' Gl.r_ixL ?hs ?hi ?_); (case hs => walk_at "sq"); (case hi => walk_at "at"))
  | ((with_reducible refine' Gl.r_ixT ?hs ?hi ?_); (case hs => walk_at "sq"); (case hi => walk_at "at"))
  | (with_reducible refine Gl.r_un ?_)
  | (with_reducible refine Gl.r_u ?_)
  | (with_reducible refine Gl.r_notV ?_)
  | (with_reducible refine Gl.r_ifE ?_)
  | (with_reducible refine Gl.r_chain ?_)
  | (with_reducible refine Gl.r_and ?_)
  | (with_reducible refine Gl.r_or ?_)
  | (with_reducible refine Gl.r_not ?_)
  | (with_reducible refine Gl.r_par ?_)
  | (with_reducible refine Gl.r_next ?_)
  | (with_reducible refine Gl.r_brk ?_)
  | (with_reducible refine Gl.r_cont ?_)
  | (with_reducible refine Gl.r_drop ?_)
  | (with_reducible refine Gl.r_retN ?_)
  | (with_reducible refine Gl.r_gsub ?_)
  | ((with_reducible refine' Gl.r_setL ?hs ?hi ?_); (case hs => walk_at "lk"); (case hi => walk_at "at"))
  | (with_reducible refine Gl.r_gnil ?_)
  | (with_reducible refine Gl.r_gcons ?_)
  | ((with_reducible refine' Gl.r_gtup ?hs ?hi ?_); (case hs => walk_at "sq"); (case hi => walk_at "at"))
  | (with_reducible refine Gl.r_tup ?_)
  | (with_reducible refine Gl.r_lst ?_)
  | (with_reducible refine Gl.r_bm ?_)
  | (with_reducible refine Gl.r_bm0 ?_)
  | (with_reducible refine Gl.r_yes ?_)
  | ((with_reducible refine Gl.r_wipe ?hs ?_); (case hs => exact rfl))
  | ((with_reducible refine' Gl.r_tyL ?hs ?_); (case hs => walk_at "sq"))
  | ((with_reducible refine' Gl.r_app ?hs ?hi ?_); (case hs => walk_at "lk"); (case hi => walk_at "lenlt"))
  | (with_reducible refine Gl.r_isB ?_)
  | (with_reducible refine Gl.r_notB ?_)
  | (with_reducible refine Gl.r_sl ?_)
  | (with_reducible refine Gl.r_noPart ?_)
  | (with_reducible refine Gl.r_part ?_)
  | (with_reducible refine Gl.r_partK ?_)
  | (with_reducible refine Gl.r_enum ?_)
  | ((with_reducible refine' Gl.r_enk ?hs ?_); (case hs => walk_at "sq"))
  | (with_reducible refine Gl.r_for ?_)
  | (with_reducible refine Gl.r_lc ?_)
  | (with_reducible refine Gl.r_rng1 ?_)
  | ((with_reducible refine Gl.r_rng1k ?hs ?hi ?_); (case hs => walk_at "om"); (case hi => walk_at "om"))
  | (with_reducible refine Gl.r_rng2 ?_)
  | ((with_reducible refine Gl.r_rng2k ?hs ?hi ?hs2 ?hi2 ?_); (case hs => walk_at "om"); (case hi => walk_at "om"); (case hs2 => walk_at "om"); (case hi2 => walk_at "om"))
  | (with_reducible refine Gl.r_iList ?_)
  | (with_reducible refine Gl.r_iTup ?_)
  | (with_reducible refine Gl.r_iStr ?_)
  | (with_reducible refine Gl.r_iSk ?_)
  | ((with_reducible refine' Gl.r_iLk ?hs ?_); (case hs => walk_at "sq"))
  | ((with_reducible refine' Gl.r_iTk ?hs ?_); (case hs => walk_at "sq"))
  | ((with_reducible refine' Gl.r_lenL ?hs ?_); (case hs => walk_at "sq"))
  | ((with_reducible refine' Gl.r_lenT ?hs ?_); (case hs => walk_at "sq"))
  | ((with_reducible refine' Gl.r_lenS ?hs ?_); (case hs => walk_at "side"))
  | ((with_reducible refine' Gl.r_isiT ?hs ?hi ?hj ?_); (case hs => walk_at "kd"); (case hi => decide); (case hj => decide))
  | ((with_reducible refine' Gl.r_isiF ?hs ?hi ?hj ?_); (case hs => walk_at "kd"); (case hi => decide); (case hj => decide))
  | (with_reducible refine iteT ?_)
  | (with_reducible refine iteF ?_)
  | (with_reducible refine Gl.iteNF ?_)
  | (with_reducible refine Gl.iteNT ?_)
  | (with_reducible refine Gl.e_oi ?_)
  | (with_reducible refine Gl.e_ob ?_)
  | (with_reducible refine Gl.e_i ?_)
  | (with_reducible refine Gl.e_b ?_)
  | (with_reducible refine Gl.e_s ?_)
  | (with_reducible refine Gl.e_ii ?_)
  | (with_reducible refine Gl.e_vv ?_)
  | (with_reducible refine Gl.e_vvv ?_)
  | (with_reducible refine Gl.e_cs ?_)
  | (with_reducible refine Gl.e_ss ?_))
local macro_rules | `(tactic| walk_at "r") => `(tactic| repeat (walk_at "r1"))
local macro_rules | `(tactic| walk_at "ra") => `(tactic| repeat (first
  | (walk_at "r1")
  | (with_reducible refine Gl.r_andV ?_)
  | (with_reducible refine Gl.r_orV ?_)))
local macro_rules | `(tactic| walk_at "dp") => `(tactic| first
  | exact Dp.non
  | exact Dp.bl _
  | exact Dp.int _
  | exact Dp.str _
  | assumption
  | ((with_reducible refine' Dp.lst ?hlk ?hla); (case hlk => walk_at "sq"); (case hla => walk_at "dpa"))
  | ((with_reducible refine' Dp.tup ?hlk ?hla); (case hlk => walk_at "sq"); (case hla => walk_at "dpa")))
local macro_rules | `(tactic| walk_at "dpa") => `(tactic| first
  | exact DpAll.nil
  | assumption
  | ((with_reducible refine' DpAll.cons ?hlk ?hla); (case hlk => walk_at "dp"); (case hla => walk_at "dpa")))

local macro_rules | `(tactic| walk_at "cls") => `(tactic| first
  | exact Txt.sc_Grid (by assumption))
local macro_rules | `(tactic| walk_at "slot") => `(tactic| first
  | exact Txt.sl_Grid_own_name (by assumption)
  | exact Txt.sl_Grid_own_units (by assumption))
local macro_rules | `(tactic| walk_at "sq") => `(tactic| first
  | assumption
  | ((with_reducible refine' SqL.of ?hlk); (case hlk => walk_at "lk"))
  | ((with_reducible refine' SqT.of ?hlk); (case hlk => walk_at "lk"))
  | exact Txt.t_GRIDS (by assumption) _
  | exact Txt.t_SQUARE_UNITS (by assumption) _
  | exact Txt.t_TRIANGLE_UNITS (by assumption) _
  | exact Txt.t_SQUARE_UNITS_0 (by assumption) _
  | exact Txt.t_SQUARE_UNITS_1 (by assumption) _
  | exact Txt.t_SQUARE_UNITS_2 (by assumption) _
  | exact Txt.t_SQUARE_UNITS_3 (by assumption) _
  | exact Txt.t_TRIANGLE_UNITS_0 (by assumption) _
  | exact Txt.t_TRIANGLE_UNITS_1 (by assumption) _
  | exact Txt.t_TRIANGLE_UNITS_2 (by assumption) _
  | exact Txt.t_TRIANGLE_UNITS_3 (by assumption) _
  | exact Txt.t_TRIANGLE_UNITS_4 (by assumption) _
  | exact Txt.t_TRIANGLE_UNITS_5 (by assumption) _)
local macro_rules | `(tactic| walk_at "slt") => `(tactic| first
  | assumption
  | exact Gl.sltS (by assumption) (by assumption))
local macro_rules | `(tactic| walk_at "fl") => `(tactic| first | exact rfl | decide)
local macro_rules | `(tactic| walk_at "r2") => `(tactic| first
  | (with_reducible refine Gl.r_slE ?_)
  | ((with_reducible refine' Gl.r_slGet ?h1 ?h2 ?h3 ?h4 ?_); (case h1 => walk_at "slt"); (case h2 => walk_at "cls"); (case h3 => walk_at "slot"); (case h4 => exact rfl))
  | (with_reducible refine Gl.r_slS ?_)
  | ((with_reducible refine' Gl.r_slSet ?h1 ?h2 ?h3 ?_); (case h1 => walk_at "slt"); (case h2 => walk_at "cls"); (case h3 => walk_at "slot"))
  | (with_reducible refine Gl.r_methE ?_)
  | ((with_reducible refine' Gl.r_meth ?h1 ?_); (case h1 => walk_at "slt"))
  | (with_reducible refine Gl.r_propE ?_)
  | ((with_reducible refine' Gl.r_prop ?h1 ?_); (case h1 => walk_at "slt"))
  | (with_reducible refine Gl.r_makeE ?_)
  | ((with_reducible refine' Gl.r_inT ?h1 ?h2 ?h3 ?_); (case h1 => walk_at "sq"); (case h2 => walk_at "fl"); (case h3 => walk_at "fl"))
  | ((with_reducible refine' Gl.r_ninT ?h1 ?h2 ?h3 ?_); (case h1 => walk_at "sq"); (case h2 => walk_at "fl"); (case h3 => walk_at "fl"))
  | (with_reducible refine Gl.r_dgetE ?_)
  | ((with_reducible refine' Gl.r_dgetS ?h1 ?h2 ?_); (case h1 => walk_at "lk"); (case h2 => first | assumption | exact rfl | decide))
  | ((with_reducible refine' Gl.r_dgetI ?h1 ?h2 ?_); (case h1 => walk_at "lk"); (case h2 => first | assumption | exact rfl | decide))
  | ((with_reducible refine' Gl.r_i ?hc ?_); (case hc => exact Gl.cmulS (by assumption) (by assumption))))
local macro_rules | `(tactic| walk_at "r") => `(tactic| repeat (first | (walk_at "r1") | (walk_at "r2")))
local macro_rules | `(tactic| walk_at "ra") => `(tactic| repeat (first
  | (walk_at "r1")
  | (walk_at "r2")
  | (with_reducible refine Gl.r_andV ?_)
  | (with_reducible refine Gl.r_orV ?_)))
local macro_rules | `(tactic| walk_at "r3") => `(tactic| first
  | (with_reducible refine Gl.r_par3 ?_)
  | (with_reducible refine Gl.r_lenX ?_)
  | (with_reducible refine Gl.r_lenXK ?_)
  | (with_reducible refine Gl.r_lenSetD ?_)
  | (with_reducible refine Gl.r_star ?_)
  | ((with_reducible refine' Gl.r_starT ?h1 ?_); (case h1 => walk_at "sq"))
  | ((with_reducible refine' Gl.r_starL ?h1 ?_); (case h1 => walk_at "sq"))
  | ((with_reducible refine' Gl.r_lenOwn ?h1 ?_); (case h1 => walk_at "slt"))
  | ((with_reducible refine' Gl.r_unl ?h1 ?h2 ?_); (case h1 => walk_at "sq"); (case h2 => exact rfl))
  | ((with_reducible refine' Gl.r_ext ?h1 ?h2 ?h3 ?_); (case h1 => walk_at "lk"); (case h2 => walk_at "lk"); (case h3 => walk_at "len")))
local macro_rules | `(tactic| walk_at "r") => `(tactic| repeat (first | (walk_at "r1") | (walk_at "r2") | (walk_at "r3")))
local macro_rules | `(tactic| walk_at "ra") => `(tactic| repeat (first
  | (walk_at "r1")
  | (walk_at "r2")
  | (walk_at "r3")
  | (with_reducible refine Gl.r_andV ?_)
  | (with_reducible refine Gl.r_orV ?_)))

/-! ### dice -/
def DiceAt (H : Hp) (d : Addr) : Prop := ∃ l s c : Int, H d = some (.lst [.int l, .int s, .int c])
structure Went (d : Addr) (H H' : Hp) : Prop where
  dice : DiceAt H' d
  keep : ∀ b o, b ≠ d → H b = some o → H' b = some o
theorem Went.trans {d : Addr} {H H1 H2 : Hp} (a : Went d H H1) (b : Went d H1 H2) : Went d H H2 :=
  ⟨b.dice, fun c o n e => b.keep c o n (a.keep c o n e)⟩
theorem Went.refl {d : Addr} {H : Hp} (h : DiceAt H d) : Went d H H := ⟨h, fun _ _ _ e => e⟩
theorem Went.new {d p : Addr} {H H1 : Hp} {o : HO} (a : Went d H H1) (h : H1 p = none) : Went d H (upd H1 p o) := by
  obtain ⟨l, s, c, e⟩ := a.dice
  refine ⟨⟨l, s, c, ?_⟩, fun b u n q => ?_⟩
  · rw [upd_ne (ne_of_none e h)]; exact e
  · have z := a.keep b u n q
    rw [upd_ne (ne_of_none z h)]; exact z
theorem Went.mut {d p : Addr} {H H1 : Hp} {o : HO} (a : Went d H H1) (h : H p = none) (n : p ≠ d) : Went d H (upd H1 p o) := by
  obtain ⟨l, s, c, e⟩ := a.dice
  exact ⟨⟨l, s, c, (upd_ne n.symm).trans e⟩, fun b u nb q => (upd_ne (ne_of_none q h)).trans (a.keep b u nb q)⟩
theorem Went.same {d : Addr} {H H1 H2 : Hp} (a : Went d H H1) (b : Same H1 H2) : Went d H H2 :=
  ⟨let ⟨l, s, c, e⟩ := a.dice; ⟨l, s, c, b _ _ e⟩, fun c o n e => b _ _ (a.keep c o n e)⟩
theorem DiceAt.same {d : Addr} {H H1 : Hp} (a : DiceAt H d) (b : Same H H1) : DiceAt H1 d := let ⟨l, s, c, e⟩ := a; ⟨l, s, c, b _ _ e⟩
theorem DiceAt.ne {d p : Addr} {H : Hp} (a : DiceAt H d) (h : H p = none) : p ≠ d := by
  obtain ⟨_, _, _, e⟩ := a
  exact (ne_of_none e h).symm
theorem Went.sqL {K : PySem.W.Frag} {d a : Addr} {H H1 : Hp} {xs : List V} (w : Went d H H1) (n : a ≠ d) (h : SqL K H a xs) : SqL K H1 a xs := by
  rcases h with (h | ⟨o, h⟩) | h
  · exact .inl (.inl (w.keep _ _ n h))
  · exact .inl (.inr ⟨o, w.keep _ _ n h⟩)
  · exact .inr h
/-- all that H knows stands; the dice at d, which H does not know, stand -/
structure Bs (H : Hp) (d : Addr) (H' : Hp) : Prop where
  same : Same H H'
  free : H d = none
  dice : DiceAt H' d
theorem Bs.went {H H1 H2 : Hp} {d : Addr} (a : Bs H d H1) (b : Went d H1 H2) : Bs H d H2 :=
  ⟨fun c o e => b.keep c o (ne_of_none e a.free) (a.same c o e), a.free, b.dice⟩
theorem Bs.ne {H H1 : Hp} {d p : Addr} (a : Bs H d H1) (h : H1 p = none) : p ≠ d := a.dice.ne h
theorem Bs.more {H H1 H2 : Hp} {d : Addr} (a : Bs H d H1) (b : Same H1 H2) : Bs H d H2 := ⟨a.same.trans b, a.free, a.dice.same b⟩
theorem Bs.mut {H H1 : Hp} {d p : Addr} {o : HO} (a : Bs H d H1) (h : H p = none) (n : p ≠ d) : Bs H d (upd H1 p o) :=
  ⟨fun c u e => (upd_ne (ne_of_none e h)).trans (a.same c u e), a.free, let ⟨l, s, c, e⟩ := a.dice; ⟨l, s, c, (upd_ne n.symm).trans e⟩⟩

def isI : V → Bool
  | .int i => decide (-LIM < i) && decide (i < LIM)
  | _ => false
def isC : V → Bool
  | .int i => isI (.int i) && decide (0 ≤ i)
  | _ => false

def sp_is_integer (K : PySem.W.Frag) : Sp := fun vs H Q _ => ∃ (v : V) (n : String), vs = [v] ∧ Knd K H v n ∧ Q (.bl (isI v)) H
section
variable {P : Program} {w : World} {K : PySem.W.Frag} {mg : Str → Option Value} {base : Heap} {A : Ad} {D : Fd}
theorem ok_is_integer (T : Txt K mg A D) : FnOk P w K mg base CX0 1 A.a_is_integer D.d_is_integer ["value"] (sp_is_integer K) := by
  refine T.F_is_integer.ok sc_is_integer (fun vs H Q E h => ?_) (fun cdv Ar outer s H vs Q E hr h => ?_)
  · obtain ⟨v, n, rfl, _⟩ := h
    rfl
  · obtain ⟨v, n, rfl, hk, k⟩ := h
    refine ⟨_,
      (pss_one (ps_ret (pe_and (pe_callB call_isi (by rfl) T.z_isinstance (by decide +kernel) (pa_cons (pv 0) (pa_cons (pe_bltn (v := .ty "int") (by rfl) T.z_int (by decide +kernel) rfl) pa_nil))) (pe_and (pe_not (pe_callB call_isi (by rfl) T.z_isinstance (by decide +kernel) (pa_cons (pv 0) (pa_cons (pe_bltn (v := .ty "bool") (by rfl) T.z_bool (by decide +kernel) rfl) pa_nil)))) (pe_one (pe_chain op_lt op_lt (pe_un un_neg (pe_globV (by rfl) T.c_LIMIT)) (pv 0) (pe_globV (by rfl) T.c_LIMIT))))))), ?_⟩
    cases hk <;> walk_at "ra" <;> try exact k
    rename_i i
    refine r_it2 (fun h => ?_) (fun h => ?_)
    · walk_at "ra"
      have e : isI (.int i) = decide (i < LIM) := by
        show (decide (-LIM < i) && decide (i < LIM)) = _
        rw [h]; rfl
      exact e ▸ k
    · have e : isI (.int i) = false := by
        show (decide (-LIM < i) && decide (i < LIM)) = _
        rw [h]; rfl
      exact e ▸ k
end

def isPt : List V → Bool
  | [x, y] => isI x && isI y
  | _ => false
def sp_is_point (K : PySem.W.Frag) : Sp := fun vs H Q _ =>
  (∃ (a : Addr) (xs : List V), vs = [.ref a] ∧ SqT K H a xs ∧ xs.length ≤ 1000 ∧ (∀ x ∈ xs, ∃ n, Knd K H x n) ∧ Q (.bl (isPt xs)) H) ∨
  (∃ (v : V) (n : String), vs = [v] ∧ Knd K H v n ∧ n ≠ "tuple" ∧ Q (.bl false) H)
section
variable {P : Program} {w : World} {K : PySem.W.Frag} {mg : Str → Option Value} {base : Heap} {A : Ad} {D : Fd}
theorem ok_is_point (T : Txt K mg A D) : FnOk P w K mg base CX0 2 A.a_is_point D.d_is_point ["value"] (sp_is_point K) := by
  have G_is_integer := ok_is_integer (P := P) (w := w) (base := base) T
  refine T.F_is_point.ok sc_is_point (fun vs H Q E h => ?_) (fun cdv Ar outer s H vs Q E hr h => ?_)
  · rcases h with ⟨a, xs, rfl, _⟩ | ⟨v, n, rfl, _⟩ <;> rfl
  · rcases h with ⟨a, xs, rfl, hs, hm, hk, k⟩ | ⟨v, n, rfl, hk, hn, k⟩
    · refine ⟨_,
        (pss_one (ps_ret (pe_and (pe_callB call_isi (by rfl) T.z_isinstance (by decide +kernel) (pa_cons (pv 0) (pa_cons (pe_bltn (v := .ty "tuple") (by rfl) T.z_tuple (by decide +kernel) rfl) pa_nil))) (pe_and (pe_cmpR op_eq (pe_callB call_lenA (by rfl) T.z_len (by decide +kernel) (pa_cons (pv 0) pa_nil)) pe_int (nomark _)) (pe_and (pe_call G_is_integer (hr.mono (by decide)) (by rfl) T.g_is_integer T.F_is_integer.kp T.b_is_integer .nil pass0 (pa_cons (pe_ix ix_tup (pv 0) pe_int (fun _ _ => rfl)) pa_nil)) (pe_one (pe_call G_is_integer (hr.mono (by decide)) (by rfl) T.g_is_integer T.F_is_integer.kp T.b_is_integer .nil pass0 (pa_cons (pe_ix ix_tup (pv 0) pe_int (fun _ _ => rfl)) pa_nil)))))))), ?_⟩
      walk_at "ra"
      match xs, hs, hm, hk, k with
      | [], hs, hm, hk, k => exact r_it2 (fun h => absurd h (by decide)) (fun _ => k)
      | [x], hs, hm, hk, k => exact r_it2 (fun h => absurd (V.int.inj (of_decide_eq_true h)) (by show ¬ (1 : Int) = 2; decide)) (fun _ => k)
      | x :: y :: z :: r, hs, hm, hk, k =>
        refine r_it2 (fun h => absurd (V.int.inj (of_decide_eq_true h)) ?_) (fun _ => k)
        simp only [List.length_cons]
        omega
      | [x, y], hs, hm, hk, k =>
        obtain ⟨n1, k1⟩ := hk x (by simp)
        obtain ⟨n2, k2⟩ := hk y (by simp)
        refine r_it2 (fun _ => ?_) (fun h => absurd rfl (of_decide_eq_false h))
        walk_at "ra"
        refine ⟨x, n1, rfl, k1, ?_⟩
        walk_at "ra"
        refine r_it2 (fun h => ?_) (fun h => ?_)
        · walk_at "ra"
          refine ⟨y, n2, rfl, k2, ?_⟩
          have e : isPt [x, y] = isI y := by
            show (isI x && isI y) = _
            rw [h]; rfl
          exact e ▸ k
        · have e : isPt [x, y] = false := by
            show (isI x && isI y) = _
            rw [h]; rfl
          exact e ▸ k
    · refine ⟨_,
        (pss_one (ps_ret (pe_and (pe_callB call_isi (by rfl) T.z_isinstance (by decide +kernel) (pa_cons (pv 0) (pa_cons (pe_bltn (v := .ty "tuple") (by rfl) T.z_tuple (by decide +kernel) rfl) pa_nil))) (pe_and (pe_cmpR op_eq (pe_callB call_lenA (by rfl) T.z_len (by decide +kernel) (pa_cons (pv 0) pa_nil)) pe_int (nomark _)) (pe_and (pe_call G_is_integer (hr.mono (by decide)) (by rfl) T.g_is_integer T.F_is_integer.kp T.b_is_integer .nil pass0 (pa_cons (pe_ix ix_tup (pv 0) pe_int (fun _ _ => rfl)) pa_nil)) (pe_one (pe_call G_is_integer (hr.mono (by decide)) (by rfl) T.g_is_integer T.F_is_integer.kp T.b_is_integer .nil pass0 (pa_cons (pe_ix ix_tup (pv 0) pe_int (fun _ _ => rfl)) pa_nil)))))))), ?_⟩
      cases hk <;> first | exact absurd rfl hn | (walk_at "ra"; exact k)
end

def sp__law_roll : Sp := fun vs H Q _ => ∃ (d : Addr) (t : Int), vs = [.ref d, .int t] ∧ DiceAt H d ∧ 0 < t ∧ t ≤ 10 ^ 60 ∧
  ∀ (r : Int) (H' : Hp), 0 ≤ r → r < t → Went d H H' → Q (.int r) H'
section
variable {P : Program} {w : World} {K : PySem.W.Frag} {mg : Str → Option Value} {base : Heap} {A : Ad} {D : Fd}
theorem ok__law_roll (T : Txt K mg A D) : FnOk P w K mg base CX0 1 A.a__law_roll D.d__law_roll ["_law_dice_here", "_law_total"] sp__law_roll := by
  refine T.F__law_roll.ok sc__law_roll (fun vs H Q E h => ?_) (fun cdv Ar outer s H vs Q E hr h => ?_)
  · obtain ⟨d, t, rfl, _⟩ := h
    rfl
  · obtain ⟨d, t, rfl, ⟨l, s, c, hd⟩, h0, h1, k⟩ := h
    refine ⟨_,
      (pss_cons (ps_if (pt_cmpR op_gt (pe_ix ix_list (pv 0) pe_int (fun _ _ => rfl)) pe_int (nomark _))
        (pss_cons (ps_set (i := 2) sc__law_roll.nd rfl (.inl rfl) (pe_op op_mod (pe_callTy call_int1 (by rfl) T.z_int (by decide +kernel) (pa_cons (pe_ix ix_list (pv 0) pe_int (fun _ _ => rfl)) pa_nil)) (pv 1)))
        (pss_cons (ps_asg (pe_op op_fdivA (pe_ix ix_list (pv 0) pe_int (fun _ _ => rfl)) (pv 1)) (pg_sub (pv 0) pe_int set_list))
        (pss_one (ps_ret (pv 2)))))
        pss_nil)
        (pss_cons (ps_asg (pe_op op_add (pe_ix ix_list (pv 0) pe_int (fun _ _ => rfl)) pe_int) (pg_sub (pv 0) pe_int set_list))
        (pss_cons (ps_set (i := 3) sc__law_roll.nd rfl (.inl rfl) (pe_op op_mod (pe_callTy call_int1 (by rfl) T.z_int (by decide +kernel) (pa_cons (pe_op op_add (pe_ix ix_list (pv 0) pe_int (fun _ _ => rfl)) (pe_op op_mulA pe_int (pe_ix ix_list (pv 0) pe_int (fun _ _ => rfl)))) pa_nil)) pe_int))
        (pss_cons (ps_set (i := 4) sc__law_roll.nd rfl (.inl rfl) (pe_op op_add (pe_op op_mulA (pe_op op_mod (pe_callTy call_int1 (by rfl) T.z_int (by decide +kernel) (pa_cons (pe_op op_add (pe_op op_mulA (pv 3) (pv 3)) (pe_op op_mulA pe_int (pe_ix ix_list (pv 0) pe_int (fun _ _ => rfl)))) pa_nil)) pe_int) pe_int) (pv 3)))
        (pss_one (ps_ret (pe_op op_mod (pe_callTy call_int1 (by rfl) T.z_int (by decide +kernel) (pa_cons (pe_op op_fdivA (pv 4) pe_int) pa_nil)) (pv 1)))))))), ?_⟩
    walk_at "r"
    refine ite2 (fun h => ?_) (fun h => ?_)
    · walk_at "r"
      exact k _ _ (Int.emod_nonneg _ (by omega)) (Int.emod_lt_of_pos _ h0) ⟨⟨_, _, _, upd_same⟩, fun b o n e => (upd_ne n).trans e⟩
    · walk_at "r"
      exact k _ _ (Int.emod_nonneg _ (by omega)) (Int.emod_lt_of_pos _ h0) ⟨⟨_, _, _, upd_same⟩, fun b o n e => (upd_ne n).trans e⟩
end

def sp__law_pick : Sp := fun vs H Q _ => ∃ (d q : Addr) (xs : List V), vs = [.ref d, .ref q] ∧ DiceAt H d ∧ q ≠ d ∧ H q = some (.lst xs) ∧ 0 < xs.length ∧ xs.length ≤ 1000 ∧
  ∀ (v : V) (H' : Hp), v ∈ xs → Went d H H' → Q v H'
section
variable {P : Program} {w : World} {K : PySem.W.Frag} {mg : Str → Option Value} {base : Heap} {A : Ad} {D : Fd}
theorem ok__law_pick (T : Txt K mg A D) : FnOk P w K mg base CX0 2 A.a__law_pick D.d__law_pick ["_law_dice_here", "_law_items"] sp__law_pick := by
  have G__law_roll := ok__law_roll (P := P) (w := w) (base := base) T
  refine T.F__law_pick.ok sc__law_pick (fun vs H Q E h => ?_) (fun cdv Ar outer s H vs Q E hr h => ?_)
  · obtain ⟨d, q, xs, rfl, _⟩ := h
    rfl
  · obtain ⟨d, q, xs, rfl, hd, hn, hq, h0, h1, k⟩ := h
    refine ⟨_,
      (pss_one (ps_ret (pe_ix ix_list (pv 1) (pe_call G__law_roll (hr.mono (by decide)) (by rfl) T.g__law_roll T.F__law_roll.kp T.b__law_roll .nil pass0 (pa_cons (pv 0) (pa_cons (pe_callB call_lenA (by rfl) T.z_len (by decide +kernel) (pa_cons (pv 1) pa_nil)) pa_nil))) (fun _ _ => rfl)))), ?_⟩
    walk_at "r"
    refine ⟨d, _, rfl, hd, by omega, by omega, fun r H' r0 r1 hw => ?_⟩
    have hq' := hw.keep _ _ hn hq
    have hr' : r.toNat < xs.length := by omega
    have ha : atI xs r = some xs[r.toNat] := by
      have e := atI_nat (xs := xs) (j := r.toNat) (v := xs[r.toNat]) (by simp [hr'])
      rw [Int.toNat_of_nonneg r0] at e
      exact e
    walk_at "r"
    exact k _ _ (List.getElem_mem _) hw
end

def sp__law_limit : Sp := fun vs H Q _ => vs = [] ∧ Q (.int LIM) H
section
variable {P : Program} {w : World} {K : PySem.W.Frag} {mg : Str → Option Value} {base : Heap} {A : Ad} {D : Fd}
theorem ok__law_limit (T : Txt K mg A D) : FnOk P w K mg base CX0 1 A.a__law_limit D.d__law_limit [] sp__law_limit := by
  refine T.F__law_limit.ok sc__law_limit (fun vs H Q E h => ?_) (fun cdv Ar outer s H vs Q E hr h => ?_)
  · obtain ⟨rfl, _⟩ := h
    rfl
  · obtain ⟨rfl, k⟩ := h
    refine ⟨_,
      (pss_one (ps_ret (pe_op op_powA (pe_op op_powA pe_int pe_int) pe_int))), ?_⟩
    walk_at "r"
    exact (show (10 ^ Int.toNat 50) ^ Int.toNat 8 = LIM by unfold LIM; decide +kernel) ▸ k
end

def sp__law_dice (K : PySem.W.Frag) : Sp := fun vs H Q _ => ∃ (a : Addr) (ns : List Int) (k : Nat), vs = [.ref a, .int k] ∧ SqL K H a (ns.map V.int) ∧
  ∀ (p : Addr) (l s c : Int), H p = none → Q (.ref p) (upd H p (.lst [.int l, .int s, .int c]))
section
variable {P : Program} {w : World} {K : PySem.W.Frag} {mg : Str → Option Value} {base : Heap} {A : Ad} {D : Fd}
theorem ok__law_dice (T : Txt K mg A D) : FnOk P w K mg base CX0 1 A.a__law_dice D.d__law_dice ["_law_script", "_law_spot"] (sp__law_dice K) := by
  refine T.F__law_dice.ok sc__law_dice (fun vs H Q E h => ?_) (fun cdv Ar outer s H vs Q E hr h => ?_)
  · obtain ⟨a, ns, m, rfl, _⟩ := h
    rfl
  · obtain ⟨a, ns, m, rfl, hS, k⟩ := h
    refine ⟨_,
      (pss_cons (ps_set (i := 2) sc__law_dice.nd rfl (.inl rfl) (pe_ifExp (pt_cmpR op_lt (pv 1) (pe_callB call_lenA (by rfl) T.z_len (by decide +kernel) (pa_cons (pv 0) pa_nil)) (nomark _)) (pe_callTy call_int1 (by rfl) T.z_int (by decide +kernel) (pa_cons (pe_ix ix_list (pv 0) (pv 1) (fun _ _ => rfl)) pa_nil)) (pe_op op_add (pe_op op_mulA pe_int (pv 1)) pe_int)))
        (pss_cons (ps_set (i := 3) sc__law_dice.nd rfl (.inl rfl) (pe_op op_mod (pe_callB (call_max2 rfl) (by rfl) T.z_max (by decide +kernel) (pa_cons pe_int (pa_cons (pe_op op_sub (pe_callB call_abs (by rfl) T.z_abs (by decide +kernel) (pa_cons (pv 2) pa_nil)) (pe_op op_powA pe_int pe_int)) pa_nil))) (pe_op op_mulA (pe_op op_powA pe_int pe_int) (pe_op op_powA pe_int pe_int))))
        (pss_one (ps_ret (pe_lst (pa_cons (pv 3) (pa_cons (pe_op op_add (pe_op op_add (pe_op op_add (pe_op op_mulA (pe_op op_mod (pe_callB call_abs (by rfl) T.z_abs (by decide +kernel) (pa_cons (pv 2) pa_nil)) pe_int) pe_int) (pe_op op_mulA pe_int (pv 1))) (pe_op op_mulA pe_int (pe_callTy call_int1 (by rfl) T.z_int (by decide +kernel) (pa_cons (pe_cmpR op_lt (pv 2) pe_int (nomark _)) pa_nil)))) pe_int) (pa_cons pe_int pa_nil)))))))), ?_⟩
    walk_at "r"
    refine ite2 (fun h => ?_) (fun h => ?_)
    · have hm : m < ns.length := by
        have z := of_decide_eq_true h
        rw [List.length_map] at z
        omega
      have ha : atI (ns.map V.int) (m : Int) = some (.int ns[m]) := atI_nat (by simp [hm])
      walk_at "r"
      exact ⟨by walk_at "len", fun p hp => k p _ _ _ hp⟩
    · walk_at "r"
      exact ⟨by walk_at "len", fun p hp => k p _ _ _ hp⟩
end

def sp__law_part : Sp := fun vs H Q _ => ∃ (d : Addr), vs = [.ref d] ∧ DiceAt H d ∧ ∀ (n : Int) (H' : Hp), isI (.int n) = true → Went d H H' → Q (.int n) H'
theorem isI_of {n : Int} (h1 : -LIM < n) (h2 : n < LIM) : isI (.int n) = true := by
  show (decide (-LIM < n) && decide (n < LIM)) = true
  rw [decide_eq_true h1, decide_eq_true h2]; rfl
theorem of_isI {n : Int} (h : isI (.int n) = true) : -LIM < n ∧ n < LIM := by
  have h' : (decide (-LIM < n) && decide (n < LIM)) = true := h
  rw [Bool.and_eq_true] at h'
  exact ⟨of_decide_eq_true h'.1, of_decide_eq_true h'.2⟩
theorem lim_big : (10 : Int) ^ 60 < LIM := by unfold LIM; decide +kernel
section
variable {P : Program} {w : World} {K : PySem.W.Frag} {mg : Str → Option Value} {base : Heap} {A : Ad} {D : Fd}
theorem ok__law_part (T : Txt K mg A D) : FnOk P w K mg base CX0 3 A.a__law_part D.d__law_part ["_law_dice_here"] sp__law_part := by
  have G__law_roll := ok__law_roll (P := P) (w := w) (base := base) T
  have G__law_pick := ok__law_pick (P := P) (w := w) (base := base) T
  have G__law_limit := ok__law_limit (P := P) (w := w) (base := base) T
  refine T.F__law_part.ok sc__law_part (fun vs H Q E h => ?_) (fun cdv Ar outer s H vs Q E hr h => ?_)
  · obtain ⟨d, rfl, _⟩ := h
    rfl
  · obtain ⟨d, rfl, hd, k⟩ := h
    have lb := lim_big
    refine ⟨_,
      (pss_cons (ps_set (i := 1) sc__law_part.nd rfl (.inl rfl) (pe_op op_sub (pe_op op_sub (pe_call0 G__law_limit (hr.mono (by decide)) (by rfl) T.g__law_limit T.F__law_limit.kp T.b__law_limit .nil pass0) pe_int) (pe_call G__law_roll (hr.mono (by decide)) (by rfl) T.g__law_roll T.F__law_roll.kp T.b__law_roll .nil pass0 (pa_cons (pv 0) (pa_cons (pe_op op_powA pe_int pe_int) pa_nil)))))
        (pss_cons (ps_set (i := 2) sc__law_part.nd rfl (.inl rfl) (pe_lst (pa_cons (pe_call G__law_roll (hr.mono (by decide)) (by rfl) T.g__law_roll T.F__law_roll.kp T.b__law_roll .nil pass0 (pa_cons (pv 0) (pa_cons pe_int pa_nil))) (pa_cons (pe_call G__law_roll (hr.mono (by decide)) (by rfl) T.g__law_roll T.F__law_roll.kp T.b__law_roll .nil pass0 (pa_cons (pv 0) (pa_cons pe_int pa_nil))) (pa_cons (pe_call G__law_roll (hr.mono (by decide)) (by rfl) T.g__law_roll T.F__law_roll.kp T.b__law_roll .nil pass0 (pa_cons (pv 0) (pa_cons (pe_op op_powA pe_int pe_int) pa_nil))) (pa_cons (pv 1) pa_nil))))))
        (pss_cons (ps_set (i := 3) sc__law_part.nd rfl (.inl rfl) (pe_ix ix_list (pv 2) (pe_call G__law_pick (hr.mono (by decide)) (by rfl) T.g__law_pick T.F__law_pick.kp T.b__law_pick .nil pass0 (pa_cons (pv 0) (pa_cons (pe_lst (pa_cons pe_int (pa_cons pe_int (pa_cons pe_int (pa_cons pe_int (pa_cons pe_int (pa_cons pe_int (pa_cons pe_int pa_nil)))))))) pa_nil))) (fun _ _ => rfl)))
        (pss_one (ps_ret (pe_ifExp (pt_cmpR op_eq (pe_call G__law_roll (hr.mono (by decide)) (by rfl) T.g__law_roll T.F__law_roll.kp T.b__law_roll .nil pass0 (pa_cons (pv 0) (pa_cons pe_int pa_nil))) pe_int (nomark _)) (pe_op op_sub pe_int (pv 3)) (pv 3))))))), ?_⟩
    walk_at "r"
    refine ⟨rfl, ?_⟩
    walk_at "r"
    refine ⟨d, _, rfl, hd, by decide, by decide, fun r1 H1 a1 b1 w1 => ?_⟩
    walk_at "r"
    refine ⟨d, _, rfl, w1.dice, by decide, by decide, fun r2 H2 a2 b2 w2 => ?_⟩
    walk_at "r"
    refine ⟨d, _, rfl, w2.dice, by decide, by decide, fun r3 H3 a3 b3 w3 => ?_⟩
    walk_at "r"
    refine ⟨d, _, rfl, w3.dice, by decide, by decide, fun r4 H4 a4 b4 w4 => ?_⟩
    walk_at "r"
    have b1' : r1 < 10 ^ 20 := b1
    have b4' : r4 < 10 ^ 30 := b4
    have W4 := ((w1.trans w2).trans w3).trans w4
    refine r_newL (by walk_at "len") fun p5 H5 n5 s5 e5 => ?_
    walk_at "r"
    refine r_newL (by walk_at "len") fun p6 H6 n6 s6 e6 => ?_
    walk_at "r"
    have W6 := (W4.same s5).same s6
    have nd6 := (W4.same s5).dice.ne n6
    have nd5 := W4.dice.ne n5
    refine ⟨d, p6, _, rfl, W6.dice, nd6, e6, by simp, by simp, fun v H7 hv w7 => ?_⟩
    have e7 := w7.keep _ _ nd5 (s6 _ _ e5)
    have W7 := W6.trans w7
    have main : ∀ i : Int, isI (.int i) = true → Q (.int i) H7 → True := fun _ _ _ => trivial
    have fin : ∀ (i : Int), (-LIM < i ∧ i < LIM) → ∃ b : Bool, b = isI (.int i) ∧ b = true := fun i h => ⟨_, rfl, isI_of h.1 h.2⟩
    obtain ⟨j, i, rfl, hj, hi⟩ : ∃ (j i : Int), v = .int j ∧ atI [V.int r2, V.int r3, V.int r4, V.int (LIM - 1 - r1)] j = some (.int i) ∧ (-LIM < i ∧ i < LIM) ∧ (-LIM < -i ∧ -i < LIM) := by
      simp only [List.mem_cons, List.not_mem_nil, or_false] at hv
      rcases hv with h | h | h | h | h | h | h <;> subst h
      · exact ⟨_, _, rfl, at_0, by omega⟩
      · exact ⟨_, _, rfl, at_0, by omega⟩
      · exact ⟨_, _, rfl, at_0, by omega⟩
      · exact ⟨_, _, rfl, at_1, by omega⟩
      · exact ⟨_, _, rfl, at_1, by omega⟩
      · exact ⟨_, _, rfl, at_2, by omega⟩
      · exact ⟨_, _, rfl, at_3, by omega⟩
    walk_at "r"
    refine ⟨d, _, rfl, w7.dice, by decide, by decide, fun r8 H8 a8 b8 w8 => ?_⟩
    walk_at "r"
    refine r_it2 (fun h => ?_) (fun h => ?_)
    · walk_at "r"
      refine k _ _ (isI_of ?_ ?_) (W7.trans w8)
      · omega
      · omega
    · walk_at "r"
      exact k _ _ (isI_of hi.1.1 hi.1.2) (W7.trans w8)
end

/-! ### grids -/
def nameOf (tri : Bool) : Str := if tri then "triangle" else "square"
def unitsA (A : Ad) (tri : Bool) : Addr := if tri then A.u_TRIANGLE_UNITS else A.u_SQUARE_UNITS
/-- a grid at g -/
def GridAt (A : Ad) (H : Hp) (g : Addr) (tri : Bool) : Prop := ∃ dx, SlX.Slt H g A.c_Grid dx [some (.str (nameOf tri)), some (.ref (unitsA A tri))]
theorem GridAt.same {A : Ad} {H H' : Hp} {g : Addr} {tri : Bool} (s : Same H H') (h : GridAt A H g tri) : GridAt A H' g tri := let ⟨dx, h⟩ := h; ⟨dx, sltS s h⟩
theorem GridAt.went {A : Ad} {H H' : Hp} {d g : Addr} {tri : Bool} (hd : DiceAt H d) (s : Went d H H') (h : GridAt A H g tri) : GridAt A H' g tri := by
  obtain ⟨dx, h⟩ := h
  obtain ⟨_, _, _, e⟩ := hd
  rcases h with ⟨h1, h2⟩ | ⟨h1, h2⟩
  · cases h2
  · exact ⟨dx, .inr ⟨s.keep _ _ (ne_of h1 e (by intro z; cases z)) h1, s.keep _ _ (ne_of h2 e (by intro z; cases z)) h2⟩⟩
theorem isTri (tri : Bool) : decide (V.str (nameOf tri) = V.str (Str.ofString "triangle")) = tri := by cases tri <;> decide +kernel
theorem isSq (tri : Bool) : decide (V.str (nameOf tri) = V.str (Str.ofString "square")) = !tri := by cases tri <;> decide +kernel
/-- a point -/
def PtAt (K : PySem.W.Frag) (H : Hp) (v : V) (x y : Int) : Prop := ∃ p, v = .ref p ∧ SqT K H p [.int x, .int y]
theorem PtAt.same {K : PySem.W.Frag} {H H' : Hp} {v : V} {x y : Int} (s : Same H H') (h : PtAt K H v x y) : PtAt K H' v x y := let ⟨p, e, h⟩ := h; ⟨p, e, sqTS s h⟩
theorem PtAt.of {K : PySem.W.Frag} {H : Hp} {p : Addr} {x y : Int} (h : H p = some (.tup [.int x, .int y])) : PtAt K H (.ref p) x y := ⟨p, rfl, SqT.of h⟩
theorem PtAt.went {K : PySem.W.Frag} {H H' : Hp} {d : Addr} {v : V} {x y : Int} (hd : DiceAt H d) (s : Went d H H') (h : PtAt K H v x y) : PtAt K H' v x y := by
  obtain ⟨p, e, h⟩ := h
  obtain ⟨_, _, _, ed⟩ := hd
  refine ⟨p, e, ?_⟩
  rcases h with (h | ⟨o, h⟩) | h
  · exact .inl (.inl (s.keep _ _ (ne_of h ed (by intro z; cases z)) h))
  · exact .inl (.inr ⟨o, s.keep _ _ (ne_of h ed (by intro z; cases z)) h⟩)
  · exact .inr h
theorem PtAt.dp {K : PySem.W.Frag} {H : Hp} {v : V} {x y : Int} (h : PtAt K H v x y) : Dp K H v (.tuple [.int x, .int y]) := by
  obtain ⟨p, rfl, h⟩ := h
  exact .tup h (.cons (.int x) (.cons (.int y) .nil))
def mulX (a b c d : Int) : Int := a * c - b * d
def mulY (tri : Bool) (a b c d : Int) : Int := a * d + b * c + (if tri then b * d else 0)
def nrm (tri : Bool) (a b : Int) : Int := a * a + b * b + (if tri then a * b else 0)
def flX (tri : Bool) (a b : Int) : Int := if tri then a + b else a
def IsI (x : Int) : Prop := isI (.int x) = true
theorem sm_isI {x : Int} (h : IsI x) : Sm x := by
  have h' := of_isI h
  refine Sm.of (n := 1400) ?_ (by decide) (by decide)
  have e : LIM = ((10 ^ 400 : Nat) : Int) := by unfold LIM; decide +kernel
  have b : (10 ^ 400 : Nat) < 2 ^ 1400 := by decide +kernel
  rw [e] at h'
  refine Nat.lt_trans ?_ b
  generalize (10 ^ 400 : Nat) = B at h'
  omega

def sp_require_point (K : PySem.W.Frag) : Sp := fun vs H Q _ => ∃ (v : V) (x y : Int), vs = [v] ∧ PtAt K H v x y ∧ IsI x ∧ IsI y ∧ Q .non H
section
variable {P : Program} {w : World} {K : PySem.W.Frag} {mg : Str → Option Value} {base : Heap} {A : Ad} {D : Fd}
theorem ok_require_point (T : Txt K mg A D) : FnOk P w K mg base CX0 3 A.a_require_point D.d_require_point ["value"] (sp_require_point K) := by
  have G_is_point := ok_is_point (P := P) (w := w) (base := base) T
  refine T.F_require_point.ok sc_require_point (fun vs H Q E h => ?_) (fun cdv Ar outer s H vs Q E hr h => ?_)
  · obtain ⟨v, x, y, rfl, _⟩ := h
    rfl
  · obtain ⟨v, x, y, rfl, ⟨p, rfl, hp⟩, hx, hy, k⟩ := h
    refine ⟨_,
      (pss_one (ps_if (pt_not (pt_val (pe_call G_is_point (hr.mono (by decide)) (by rfl) T.g_is_point T.F_is_point.kp T.b_is_point .nil pass0 (pa_cons (pv 0) pa_nil))))
        (pss_one ps_never)
        pss_nil)), ?_⟩
    walk_at "r"
    refine .inl ⟨p, _, rfl, hp, by simp, (fun z hz => ?_), ?_⟩
    · simp only [List.mem_cons, List.not_mem_nil, or_false] at hz
      rcases hz with h | h <;> subst h <;> exact ⟨_, .int _⟩
    rw [show isPt [.int x, .int y] = true by show (isI (.int x) && isI (.int y)) = true; rw [hx, hy]; rfl]
    walk_at "r"
    exact k
end

def sp_require_integer : Sp := fun vs H Q _ => ∃ (n : Int), vs = [.int n] ∧ IsI n ∧ Q .non H
section
variable {P : Program} {w : World} {K : PySem.W.Frag} {mg : Str → Option Value} {base : Heap} {A : Ad} {D : Fd}
theorem ok_require_integer (T : Txt K mg A D) : FnOk P w K mg base CX0 2 A.a_require_integer D.d_require_integer ["value"] sp_require_integer := by
  have G_is_integer := ok_is_integer (P := P) (w := w) (base := base) T
  refine T.F_require_integer.ok sc_require_integer (fun vs H Q E h => ?_) (fun cdv Ar outer s H vs Q E hr h => ?_)
  · obtain ⟨n, rfl, _⟩ := h
    rfl
  · obtain ⟨n, rfl, hn, k⟩ := h
    refine ⟨_,
      (pss_one (ps_if (pt_not (pt_val (pe_call G_is_integer (hr.mono (by decide)) (by rfl) T.g_is_integer T.F_is_integer.kp T.b_is_integer .nil pass0 (pa_cons (pv 0) pa_nil))))
        (pss_one ps_never)
        pss_nil)), ?_⟩
    walk_at "r"
    refine ⟨_, _, rfl, .int _, ?_⟩
    rw [show isI (.int n) = true from hn]
    walk_at "r"
    exact k
end

def sp_Grid___init__ (A : Ad) : Sp := fun vs H Q _ => ∃ (g dx : Addr) (tri : Bool), vs = [.ref g, .str (nameOf tri)] ∧ SlX.Slt H g A.c_Grid dx [] ∧ dx ≠ g ∧
  ∀ H', (∀ b, b ≠ g → b ≠ dx → H' b = H b) → SlX.Slt H' g A.c_Grid dx [some (.str (nameOf tri)), some (.ref (unitsA A tri))] → Q .non H'
section
variable {P : Program} {w : World} {K : PySem.W.Frag} {mg : Str → Option Value} {base : Heap} {A : Ad} {D : Fd}
theorem ok_Grid___init__ (T : Txt K mg A D) : FnOk P w K mg base CX0 1 A.a_Grid___init__ D.d_Grid___init__ ["self", "name"] (sp_Grid___init__ A) := by
  refine T.F_Grid___init__.ok sc_Grid___init__ (fun vs H Q E h => ?_) (fun cdv Ar outer s H vs Q E hr h => ?_)
  · obtain ⟨g, dx, tri, rfl, _⟩ := h
    rfl
  · obtain ⟨g, dx, tri, rfl, hg, ne, k⟩ := h
    refine ⟨_,
      (pss_cons (ps_if (PW.pt (pw_or (pt_not (pt_val (pe_callB call_isi (by rfl) T.z_isinstance (by decide +kernel) (pa_cons (pv 1) (pa_cons (pe_bltn (v := .ty "str") (by rfl) T.z_str (by decide +kernel) rfl) pa_nil))))) (pw_or1 (pt_cmpR op_notIn_seq (pv 1) (pe_globV (by rfl) T.c_GRIDS) (by rfl)))))
        (pss_one ps_never)
        pss_nil)
        (pss_cons (SlX.ps_sl (pv 0) (pv 1))
        (pss_one (SlX.ps_sl (pv 0) (pe_ifExp (pt_cmpR op_eq (pv 1) (pe_globV (by rfl) T.c_SQUARE) (nomark _)) (pe_globV (by rfl) T.c_SQUARE_UNITS) (pe_globV (by rfl) T.c_TRIANGLE_UNITS)))))), ?_⟩
    walk_at "r"
    rw [show (!inV (V.str (nameOf tri)) [.str "square", .str "triangle"]) = false by cases tri <;> decide +kernel]
    walk_at "r"
    have h1 := SlX.slH_slt (H := H) (a := g) (C := A.c_Grid) (dx := dx) (vs := SlX.putS 0 (.str (nameOf tri)) []) ne
    rw [isSq]
    cases tri
    · walk_at "r"
      refine k _ (fun b n1 n2 => ?_) (SlX.slH_slt ne)
      rw [SlX.slH_ne n1 n2, SlX.slH_ne n1 n2]
    · walk_at "r"
      refine k _ (fun b n1 n2 => ?_) (SlX.slH_slt ne)
      rw [SlX.slH_ne n1 n2, SlX.slH_ne n1 n2]
/-- Grid(name): a new grid -/
theorem mk_grid {H : Hp} {Q : VK} {vs : List V} (tri : Bool) (hv : vs = [.str (nameOf tri)]) (h : ∀ g H', Same H H' → H g = none → GridAt A H' g tri → Q (.ref g) H') : makeK A.c_Grid (sp_Grid___init__ A) [] E0 vs H Q := by
  subst hv
  intro x dx nx ndx ne
  refine ⟨x, dx, tri, rfl, .inl ⟨upd_same, rfl⟩, ne, fun H' k1 k2 => ⟨rfl, h x H' (fun b o e => ?_) nx ⟨dx, k2⟩⟩⟩
  have n1 := ne_of_none e nx
  have n2 := ne_of_none e ndx
  rw [k1 b n1 n2, upd_ne n1, upd_ne n2]
  exact e
end

def sp_Grid_product_of (K : PySem.W.Frag) (A : Ad) : Sp := fun vs H Q _ => ∃ (g : Addr) (tri : Bool) (v1 v2 : V) (a b c d : Int), vs = [.ref g, v1, v2] ∧ GridAt A H g tri ∧ PtAt K H v1 a b ∧ PtAt K H v2 c d ∧
  Sm a ∧ Sm b ∧ Sm c ∧ Sm d ∧ ∀ p H', H p = none → Same H H' → H' p = some (.tup [.int (mulX a b c d), .int (mulY tri a b c d)]) → Q (.ref p) H'
section
variable {P : Program} {w : World} {K : PySem.W.Frag} {mg : Str → Option Value} {base : Heap} {A : Ad} {D : Fd}
theorem ok_Grid_product_of (T : Txt K mg A D) : FnOk P w K mg base CX0 1 A.a_Grid_product_of D.d_Grid_product_of ["self", "one", "other"] (sp_Grid_product_of K A) := by
  refine T.F_Grid_product_of.ok sc_Grid_product_of (fun vs H Q E h => ?_) (fun cdv Ar outer s H vs Q E hr h => ?_)
  · obtain ⟨g, tri, v1, v2, a, b, c, d, rfl, _⟩ := h
    rfl
  · obtain ⟨g, tri, v1, v2, a, b, c, d, rfl, ⟨dx, hg⟩, ⟨p1, rfl, h1⟩, ⟨p2, rfl, h2⟩, sa, sb, sc, sd, k⟩ := h
    refine ⟨_,
      (pss_cons (ps_asg (pe_tup (pa_cons (pv 1) (pa_cons (pv 2) pa_nil))) (pg_tup (by rfl) (pgs_cons (pg_tup (by rfl) (pgs_cons (pg_name (i := 3) sc_Grid_product_of.nd rfl (.inl rfl)) (pgs_cons (pg_name (i := 4) sc_Grid_product_of.nd rfl (.inl rfl)) pgs_nil))) (pgs_cons (pg_tup (by rfl) (pgs_cons (pg_name (i := 5) sc_Grid_product_of.nd rfl (.inl rfl)) (pgs_cons (pg_name (i := 6) sc_Grid_product_of.nd rfl (.inl rfl)) pgs_nil))) pgs_nil))))
        (pss_one (ps_ret (pe_tup (pa_cons (pe_op op_sub (pe_op op_mulA (pv 3) (pv 5)) (pe_op op_mulA (pv 4) (pv 6))) (pa_cons (pe_op op_add (pe_op op_add (pe_op op_mulA (pv 3) (pv 6)) (pe_op op_mulA (pv 4) (pv 5))) (pe_ifExp (pt_cmpR op_eq (SlX.pe_sl (pv 0)) (pe_globV (by rfl) T.c_TRIANGLE) (nomark _)) (pe_op op_mulA (pv 4) (pv 6)) pe_int)) pa_nil)))))), ?_⟩
    walk_at "r"
    refine r_newT (by walk_at "len") fun t H1 nt st et => ?_
    have hg1 := sltS st hg
    have h11 := sqTS st h1
    have h21 := sqTS st h2
    walk_at "r"
    rw [isTri]
    cases tri
    · walk_at "r"
      refine r_newT (by walk_at "len") fun p H2 np sp ep => ?_
      exact k p H2 (st.free np) (st.trans sp) ep
    · walk_at "r"
      refine r_newT (by walk_at "len") fun p H2 np sp ep => ?_
      exact k p H2 (st.free np) (st.trans sp) ep
end

def sp_Grid_square_of (K : PySem.W.Frag) (A : Ad) : Sp := fun vs H Q _ => ∃ (g : Addr) (tri : Bool) (v1 : V) (a b : Int), vs = [.ref g, v1] ∧ GridAt A H g tri ∧ PtAt K H v1 a b ∧ Sm a ∧ Sm b ∧ Q (.int (nrm tri a b)) H
section
variable {P : Program} {w : World} {K : PySem.W.Frag} {mg : Str → Option Value} {base : Heap} {A : Ad} {D : Fd}
theorem ok_Grid_square_of (T : Txt K mg A D) : FnOk P w K mg base CX0 1 A.a_Grid_square_of D.d_Grid_square_of ["self", "point"] (sp_Grid_square_of K A) := by
  refine T.F_Grid_square_of.ok sc_Grid_square_of (fun vs H Q E h => ?_) (fun cdv Ar outer s H vs Q E hr h => ?_)
  · obtain ⟨g, tri, v1, a, b, rfl, _⟩ := h
    rfl
  · obtain ⟨g, tri, v1, a, b, rfl, ⟨dx, hg⟩, ⟨p1, rfl, h1⟩, sa, sb, k⟩ := h
    refine ⟨_,
      (pss_cons (ps_asg (pv 1) (pg_tup (by rfl) (pgs_cons (pg_name (i := 2) sc_Grid_square_of.nd rfl (.inl rfl)) (pgs_cons (pg_name (i := 3) sc_Grid_square_of.nd rfl (.inl rfl)) pgs_nil))))
        (pss_one (ps_ret (pe_op op_add (pe_op op_add (pe_op op_mulA (pv 2) (pv 2)) (pe_op op_mulA (pv 3) (pv 3))) (pe_ifExp (pt_cmpR op_eq (SlX.pe_sl (pv 0)) (pe_globV (by rfl) T.c_TRIANGLE) (nomark _)) (pe_op op_mulA (pv 2) (pv 3)) pe_int))))), ?_⟩
    walk_at "r"
    rw [isTri]
    cases tri
    · walk_at "r"
      exact k
    · walk_at "r"
      exact k
end

def sp_Grid_flipped (K : PySem.W.Frag) (A : Ad) : Sp := fun vs H Q _ => ∃ (g : Addr) (tri : Bool) (v1 : V) (a b : Int), vs = [.ref g, v1] ∧ GridAt A H g tri ∧ PtAt K H v1 a b ∧
  ∀ p H', H p = none → Same H H' → H' p = some (.tup [.int (flX tri a b), .int (-b)]) → Q (.ref p) H'
section
variable {P : Program} {w : World} {K : PySem.W.Frag} {mg : Str → Option Value} {base : Heap} {A : Ad} {D : Fd}
theorem ok_Grid_flipped (T : Txt K mg A D) : FnOk P w K mg base CX0 1 A.a_Grid_flipped D.d_Grid_flipped ["self", "point"] (sp_Grid_flipped K A) := by
  refine T.F_Grid_flipped.ok sc_Grid_flipped (fun vs H Q E h => ?_) (fun cdv Ar outer s H vs Q E hr h => ?_)
  · obtain ⟨g, tri, v1, a, b, rfl, _⟩ := h
    rfl
  · obtain ⟨g, tri, v1, a, b, rfl, ⟨dx, hg⟩, ⟨p1, rfl, h1⟩, k⟩ := h
    refine ⟨_,
      (pss_cons (ps_asg (pv 1) (pg_tup (by rfl) (pgs_cons (pg_name (i := 2) sc_Grid_flipped.nd rfl (.inl rfl)) (pgs_cons (pg_name (i := 3) sc_Grid_flipped.nd rfl (.inl rfl)) pgs_nil))))
        (pss_one (ps_ret (pe_tup (pa_cons (pe_ifExp (pt_cmpR op_eq (SlX.pe_sl (pv 0)) (pe_globV (by rfl) T.c_TRIANGLE) (nomark _)) (pe_op op_add (pv 2) (pv 3)) (pv 2)) (pa_cons (pe_un un_neg (pv 3)) pa_nil)))))), ?_⟩
    walk_at "r"
    rw [isTri]
    cases tri
    · walk_at "r"
      exact r_newT (by walk_at "len") k
    · walk_at "r"
      exact r_newT (by walk_at "len") k
end

end Law

set_option Elab.async false
set_option maxRecDepth 100000
set_option maxHeartbeats 4000000
set_option linter.all false
namespace Law
open PySem L2 Gl
local macro_rules | `(tactic| walk_at "lk") => `(tactic| first
  | assumption
  | (with_reducible exact upd_same)
  | ((with_reducible refine' Gl.lk_ne ?nlk ?lkk); (case nlk => walk_at "ne"); (case lkk => walk_at "lk")))
local macro_rules | `(tactic| walk_at "ne") => `(tactic| first
  | assumption
  | exact Ne.symm (by assumption)
  | exact ne_of_none (by assumption) (by assumption)
  | exact (ne_of_none (by assumption) (by assumption)).symm)
local macro_rules | `(tactic| walk_at "sq") => `(tactic| first
  | assumption
  | ((with_reducible refine' SqL.of ?hlk); (case hlk => walk_at "lk"))
  | ((with_reducible refine' SqT.of ?hlk); (case hlk => walk_at "lk")))
local macro_rules | `(tactic| walk_at "at") => `(tactic| first
  | exact at_0
  | exact at_1
  | exact at_2
  | exact at_3
  | exact ix_0
  | exact ix_1
  | exact ix_2
  | exact rfl
  | assumption)
local macro_rules | `(tactic| walk_at "len") => `(tactic| first
  | (simp only [List.length_cons, List.length_nil]; decide)
  | (refine Nat.le_trans (?_ : _ ≤ 1000) (by decide); first | assumption | omega | (simp; omega)))
local macro_rules | `(tactic| walk_at "lenlt") => `(tactic| first
  | (refine Nat.lt_of_le_of_lt (?_ : _ ≤ 100000) (by decide); first | assumption | omega | (simp only [List.length_cons, List.length_nil, List.length_append]; omega) | (simp; omega)))
local macro_rules | `(tactic| walk_at "kd") => `(tactic| first
  | assumption
  | exact Knd.non
  | exact Knd.bl _
  | exact Knd.int _
  | exact Knd.str _
  | ((with_reducible refine' Knd.tup ?hlk); (case hlk => walk_at "sq"))
  | ((with_reducible refine' Knd.lst ?hlk); (case hlk => walk_at "sq"))
  | ((with_reducible refine' Knd.dK ?hlk); (case hlk => walk_at "lk")))
local macro_rules | `(tactic| walk_at "om") => `(tactic| first | omega | decide | decide +kernel)
local macro_rules | `(tactic| walk_at "side") => `(tactic| first
  | assumption
  | (with_reducible refine Gl.cdiv ?_ ?_ <;> first | omega | decide +kernel)
  | (with_reducible refine Gl.cmulL ?_ ?_ <;> first | omega | decide +kernel)
  | (with_reducible refine Gl.cmulR ?_ ?_ <;> first | omega | decide +kernel)
  | (refine Nat.le_trans (?_ : _ ≤ 1000) (by decide); first | assumption | omega | (simp only [List.length_cons, List.length_nil]; omega))
  | (show (0 : Int) < _; omega)
  | (show (0 : Int) < _; decide +kernel)
  | (exact Or.inr (by unfold CMulW; decide +kernel))
  | (exact ⟨by decide, by decide +kernel⟩))
local macro_rules | `(tactic| walk_at "r1") => `(tactic| first
  | ((with_reducible refine' Gl.r_var ?hv ?_); (case hv => exact rfl))
  | (with_reducible refine Gl.r_c ?_)
  | (with_reducible refine Gl.r_op ?_)
  | (with_reducible refine Gl.r_i0 ?_)
  | ((with_reducible refine Gl.r_i ?hc ?_); (case hc => walk_at "side"))
  | (with_reducible refine Gl.r_cons ?_)
  | (with_reducible refine Gl.r_nil ?_)
  | (with_reducible refine Gl.r_call ?_)
  | (with_reducible refine Gl.r_cb ?_)
  | (with_reducible refine Gl.r_seq ?_)
  | (with_reducible refine Gl.r_asg ?_)
  | (with_reducible refine Gl.r_gname ?_)
  | (with_reducible refine Gl.r_ret ?_)
  | (with_reducible refine Gl.r_if ?_)
  | (with_reducible refine Gl.r_test ?_)
  | (with_reducible refine Gl.r_bl ?_)
  | (with_reducible refine Gl.r_B ?_)
  | ((with_reducible refine Gl.r_eq ?hc ?_); (case hc => exact rfl))
  | ((with_reducible refine Gl.r_ne ?hc ?_); (case hc => exact rfl))
  | ((with_reducible refine' Gl.r_ixL ?hs ?hi ?_); (case hs => walk_at "sq"); (case hi => walk_at "at"))
  | ((with_reducible refine' Gl.r_ixT ?hs ?hi ?_); (case hs => walk_at "sq"); (case hi => walk_at "at"))
  | (with_reducible refine Gl.r_un ?_)
  | (with_reducible refine Gl.r_u ?_)
  | (with_reducible refine Gl.r_notV ?_)
  | (with_reducible refine Gl.r_ifE ?_)
  | (with_reducible refine Gl.r_chain ?_)
  | (with_reducible refine Gl.r_and ?_)
  | (with_reducible refine Gl.r_or ?_)
  | (with_reducible refine Gl.r_not ?_)
  | (with_reducible refine Gl.r_par ?_)
  | (with_reducible refine Gl.r_next ?_)
  | (with_reducible refine Gl.r_brk ?_)
  | (with_reducible refine Gl.r_cont ?_)
  | (with_reducible refine Gl.r_drop ?_)
  | (with_reducible refine Gl.r_retN ?_)
  | (with_reducible refine Gl.r_gsub ?_)
  | ((with_reducible refine' Gl.r_setL ?hs ?hi ?_); (case hs => walk_at "lk"); (case hi => walk_at "at"))
  | (with_reducible refine Gl.r_gnil ?_)
  | (with_reducible refine Gl.r_gcons ?_)
  | ((with_reducible refine' Gl.r_gtup ?hs ?hi ?_); (case hs => walk_at "sq"); (case hi => walk_at "at"))
  | (with_reducible refine Gl.r_tup ?_)
  | (with_reducible refine Gl.r_lst ?_)
  | (with_reducible refine Gl.r_bm ?_)
  | (with_reducible refine Gl.r_bm0 ?_)
  | (with_reducible refine Gl.r_yes ?_)
  | ((with_reducible refine Gl.r_wipe ?hs ?_); (case hs => exact rfl))
  | ((with_reducible refine' Gl.r_tyL ?hs ?_); (case hs => walk_at "sq"))
  | ((with_reducible refine' Gl.r_app ?hs ?hi ?_); (case hs => walk_at "lk"); (case hi => walk_at "lenlt"))
  | (with_reducible refine Gl.r_isB ?_)
  | (with_reducible refine Gl.r_notB ?_)
  | (with_reducible refine Gl.r_sl ?_)
  | (with_reducible refine Gl.r_noPart ?_)
  | (with_reducible refine Gl.r_part ?_)
  | (with_reducible refine Gl.r_partK ?_)
  | (with_reducible refine Gl.r_enum ?_)
  | ((with_reducible refine' Gl.r_enk ?hs ?_); (case hs => walk_at "sq"))
  | (with_reducible refine Gl.r_for ?_)
  | (with_reducible refine Gl.r_lc ?_)
  | (with_reducible refine Gl.r_rng1 ?_)
  | ((with_reducible refine Gl.r_rng1k ?hs ?hi ?_); (case hs => walk_at "om"); (case hi => walk_at "om"))
  | (with_reducible refine Gl.r_rng2 ?_)
  | ((with_reducible refine Gl.r_rng2k ?hs ?hi ?hs2 ?hi2 ?_); (case hs => walk_at "om"); (case hi => walk_at "om"); (case hs2 => walk_at "om"); (case hi2 => walk_at "om"))
  | (with_reducible refine Gl.r_iList ?_)
  | (with_reducible refine Gl.r_iTup ?_)
  | (with_reducible refine Gl.r_iStr ?_)
  | (with_reducible refine Gl.r_iSk ?_)
  | ((with_reducible refine' Gl.r_iLk ?hs ?_); (case hs => walk_at "sq"))
  | ((with_reducible refine' Gl.r_iTk ?hs ?_); (case hs => walk_at "sq"))
  | ((with_reducible refine' Gl.r_lenL ?hs ?_); (case hs => walk_at "sq"))
  | ((with_reducible refine' Gl.r_lenT ?hs ?_); (case hs => walk_at "sq"))
  | ((with_reducible refine' Gl.r_lenS ?hs ?_); (case hs => walk_at "side"))
  | ((with_reducible refine' Gl.r_isiT ?hs ?hi ?hj ?_); (case hs => walk_at "kd"); (case hi => decide); (case hj => decide))
  | ((with_reducible refine' Gl.r_isiF ?hs ?hi ?hj ?_); (case hs => walk_at "kd"); (case hi => decide); (case hj => decide))
  | (with_reducible refine iteT ?_)
  | (with_reducible refine iteF ?_)
  | (with_reducible refine Gl.iteNF ?_)
  | (with_reducible refine Gl.iteNT ?_)
  | (with_reducible refine Gl.e_oi ?_)
  | (with_reducible refine Gl.e_ob ?_)
  | (with_reducible refine Gl.e_i ?_)
  | (with_reducible refine Gl.e_b ?_)
  | (with_reducible refine Gl.e_s ?_)
  | (with_reducible refine Gl.e_ii ?_)
  | (with_reducible refine Gl.e_vv ?_)
  | (with_reducible refine Gl.e_vvv ?_)
  | (with_reducible refine Gl.e_cs ?_)
  | (with_reducible refine Gl.e_ss ?_))
local macro_rules | `(tactic| walk_at "r") => `(tactic| repeat (walk_at "r1"))
local macro_rules | `(tactic| walk_at "ra") => `(tactic| repeat (first
  | (walk_at "r1")
  | (with_reducible refine Gl.r_andV ?_)
  | (with_reducible refine Gl.r_orV ?_)))
local macro_rules | `(tactic| walk_at "dp") => `(tactic| first
  | exact Dp.non
  | exact Dp.bl _
  | exact Dp.int _
  | exact Dp.str _
  | assumption
  | ((with_reducible refine' Dp.lst ?hlk ?hla); (case hlk => walk_at "sq"); (case hla => walk_at "dpa"))
  | ((with_reducible refine' Dp.tup ?hlk ?hla); (case hlk => walk_at "sq"); (case hla => walk_at "dpa")))
local macro_rules | `(tactic| walk_at "dpa") => `(tactic| first
  | exact DpAll.nil
  | assumption
  | ((with_reducible refine' DpAll.cons ?hlk ?hla); (case hlk => walk_at "dp"); (case hla => walk_at "dpa")))

local macro_rules | `(tactic| walk_at "cls") => `(tactic| first
  | exact Txt.sc_Grid (by assumption))
local macro_rules | `(tactic| walk_at "slot") => `(tactic| first
  | exact Txt.sl_Grid_own_name (by assumption)
  | exact Txt.sl_Grid_own_units (by assumption))
local macro_rules | `(tactic| walk_at "sq") => `(tactic| first
  | assumption
  | ((with_reducible refine' SqL.of ?hlk); (case hlk => walk_at "lk"))
  | ((with_reducible refine' SqT.of ?hlk); (case hlk => walk_at "lk"))
  | exact Txt.t_GRIDS (by assumption) _
  | exact Txt.t_SQUARE_UNITS (by assumption) _
  | exact Txt.t_TRIANGLE_UNITS (by assumption) _
  | exact Txt.t_SQUARE_UNITS_0 (by assumption) _
  | exact Txt.t_SQUARE_UNITS_1 (by assumption) _
  | exact Txt.t_SQUARE_UNITS_2 (by assumption) _
  | exact Txt.t_SQUARE_UNITS_3 (by assumption) _
  | exact Txt.t_TRIANGLE_UNITS_0 (by assumption) _
  | exact Txt.t_TRIANGLE_UNITS_1 (by assumption) _
  | exact Txt.t_TRIANGLE_UNITS_2 (by assumption) _
  | exact Txt.t_TRIANGLE_UNITS_3 (by assumption) _
  | exact Txt.t_TRIANGLE_UNITS_4 (by assumption) _
  | exact Txt.t_TRIANGLE_UNITS_5 (by assumption) _)
local macro_rules | `(tactic| walk_at "slt") => `(tactic| first
  | assumption
  | exact Gl.sltS (by assumption) (by assumption))
local macro_rules | `(tactic| walk_at "fl") => `(tactic| first | exact rfl | decide)
local macro_rules | `(tactic| walk_at "r2") => `(tactic| first
  | (with_reducible refine Gl.r_slE ?_)
  | ((with_reducible refine' Gl.r_slGet ?h1 ?h2 ?h3 ?h4 ?_); (case h1 => walk_at "slt"); (case h2 => walk_at "cls"); (case h3 => walk_at "slot"); (case h4 => exact rfl))
  | (with_reducible refine Gl.r_slS ?_)
  | ((with_reducible refine' Gl.r_slSet ?h1 ?h2 ?h3 ?_); (case h1 => walk_at "slt"); (case h2 => walk_at "cls"); (case h3 => walk_at "slot"))
  | (with_reducible refine Gl.r_methE ?_)
  | ((with_reducible refine' Gl.r_meth ?h1 ?_); (case h1 => walk_at "slt"))
  | (with_reducible refine Gl.r_propE ?_)
  | ((with_reducible refine' Gl.r_prop ?h1 ?_); (case h1 => walk_at "slt"))
  | (with_reducible refine Gl.r_makeE ?_)
  | ((with_reducible refine' Gl.r_inT ?h1 ?h2 ?h3 ?_); (case h1 => walk_at "sq"); (case h2 => walk_at "fl"); (case h3 => walk_at "fl"))
  | ((with_reducible refine' Gl.r_ninT ?h1 ?h2 ?h3 ?_); (case h1 => walk_at "sq"); (case h2 => walk_at "fl"); (case h3 => walk_at "fl"))
  | (with_reducible refine Gl.r_dgetE ?_)
  | ((with_reducible refine' Gl.r_dgetS ?h1 ?h2 ?_); (case h1 => walk_at "lk"); (case h2 => first | assumption | exact rfl | decide))
  | ((with_reducible refine' Gl.r_dgetI ?h1 ?h2 ?_); (case h1 => walk_at "lk"); (case h2 => first | assumption | exact rfl | decide))
  | ((with_reducible refine' Gl.r_i ?hc ?_); (case hc => exact Gl.cmulS (by assumption) (by assumption))))
local macro_rules | `(tactic| walk_at "r") => `(tactic| repeat (first | (walk_at "r1") | (walk_at "r2")))
local macro_rules | `(tactic| walk_at "ra") => `(tactic| repeat (first
  | (walk_at "r1")
  | (walk_at "r2")
  | (with_reducible refine Gl.r_andV ?_)
  | (with_reducible refine Gl.r_orV ?_)))
local macro_rules | `(tactic| walk_at "r3") => `(tactic| first
  | (with_reducible refine Gl.r_par3 ?_)
  | (with_reducible refine Gl.r_lenX ?_)
  | (with_reducible refine Gl.r_lenXK ?_)
  | (with_reducible refine Gl.r_lenSetD ?_)
  | (with_reducible refine Gl.r_star ?_)
  | ((with_reducible refine' Gl.r_starT ?h1 ?_); (case h1 => walk_at "sq"))
  | ((with_reducible refine' Gl.r_starL ?h1 ?_); (case h1 => walk_at "sq"))
  | ((with_reducible refine' Gl.r_lenOwn ?h1 ?_); (case h1 => walk_at "slt"))
  | ((with_reducible refine' Gl.r_unl ?h1 ?h2 ?_); (case h1 => walk_at "sq"); (case h2 => exact rfl))
  | ((with_reducible refine' Gl.r_ext ?h1 ?h2 ?h3 ?_); (case h1 => walk_at "lk"); (case h2 => walk_at "lk"); (case h3 => walk_at "len")))
local macro_rules | `(tactic| walk_at "r") => `(tactic| repeat (first | (walk_at "r1") | (walk_at "r2") | (walk_at "r3")))
local macro_rules | `(tactic| walk_at "ra") => `(tactic| repeat (first
  | (walk_at "r1")
  | (walk_at "r2")
  | (walk_at "r3")
  | (with_reducible refine Gl.r_andV ?_)
  | (with_reducible refine Gl.r_orV ?_)))

def sp_are_ends (K : PySem.W.Frag) : Sp := fun vs H Q _ => ∃ (v : V) (x y : Int), vs = [v] ∧ PtAt K H v x y ∧ IsI x ∧ IsI y ∧ Q (.bl true) H
section
variable {P : Program} {w : World} {K : PySem.W.Frag} {mg : Str → Option Value} {base : Heap} {A : Ad} {D : Fd}
theorem ok_are_ends (T : Txt K mg A D) : FnOk P w K mg base CX0 2 A.a_are_ends D.d_are_ends ["value"] (sp_are_ends K) := by
  have G_is_integer := ok_is_integer (P := P) (w := w) (base := base) T
  refine T.F_are_ends.ok sc_are_ends (fun vs H Q E h => ?_) (fun cdv Ar outer s H vs Q E hr h => ?_)
  · obtain ⟨v, x, y, rfl, _⟩ := h
    rfl
  · obtain ⟨v, x, y, rfl, ⟨p, rfl, hp⟩, ix, iy, k⟩ := h
    refine ⟨_,
      (pss_one (ps_ret (pe_and (pe_callB call_isi (by rfl) T.z_isinstance (by decide +kernel) (pa_cons (pv 0) (pa_cons (pe_bltn (v := .ty "tuple") (by rfl) T.z_tuple (by decide +kernel) rfl) pa_nil))) (pe_and (pe_cmpR op_eq (pe_callB call_lenA (by rfl) T.z_len (by decide +kernel) (pa_cons (pv 0) pa_nil)) pe_int (nomark _)) (pe_and (pe_call G_is_integer (hr.mono (by decide)) (by rfl) T.g_is_integer T.F_is_integer.kp T.b_is_integer .nil pass0 (pa_cons (pe_ix ix_tup (pv 0) pe_int (fun _ _ => rfl)) pa_nil)) (pe_one (pe_call G_is_integer (hr.mono (by decide)) (by rfl) T.g_is_integer T.F_is_integer.kp T.b_is_integer .nil pass0 (pa_cons (pe_ix ix_tup (pv 0) pe_int (fun _ _ => rfl)) pa_nil)))))))), ?_⟩
    walk_at "ra"
    refine r_it2 (fun _ => ?_) (fun h => absurd rfl (of_decide_eq_false h))
    walk_at "ra"
    refine ⟨_, _, rfl, .int _, ?_⟩
    rw [show isI (.int x) = true from ix]
    walk_at "ra"
    refine ⟨_, _, rfl, .int _, ?_⟩
    rw [show isI (.int y) = true from iy]
    walk_at "ra"
    exact k
end

/-! ### units -/
/-- how many -/
def nUn (tri : Bool) : Int := if tri then 6 else 4
def uX (tri : Bool) (r : Int) : Int := if tri then (if r = 0 then 1 else if r = 1 then 0 else if r = 2 then -1 else if r = 3 then -1 else if r = 4 then 0 else 1) else (if r = 0 then 1 else if r = 1 then 0 else if r = 2 then -1 else 0)
def uY (tri : Bool) (r : Int) : Int := if tri then (if r = 0 then 0 else if r = 1 then 1 else if r = 2 then 1 else if r = 3 then 0 else if r = 4 then -1 else -1) else (if r = 0 then 0 else if r = 1 then 1 else if r = 2 then 0 else -1)
def unitAt (A : Ad) (tri : Bool) (r : Int) : Addr :=
  if tri then (if r = 0 then A.u_TRIANGLE_UNITS_0 else if r = 1 then A.u_TRIANGLE_UNITS_1 else if r = 2 then A.u_TRIANGLE_UNITS_2 else if r = 3 then A.u_TRIANGLE_UNITS_3 else if r = 4 then A.u_TRIANGLE_UNITS_4 else A.u_TRIANGLE_UNITS_5)
  else (if r = 0 then A.u_SQUARE_UNITS_0 else if r = 1 then A.u_SQUARE_UNITS_1 else if r = 2 then A.u_SQUARE_UNITS_2 else A.u_SQUARE_UNITS_3)
def unitsL (A : Ad) (tri : Bool) : List V := if tri then [.ref A.u_TRIANGLE_UNITS_0, .ref A.u_TRIANGLE_UNITS_1, .ref A.u_TRIANGLE_UNITS_2, .ref A.u_TRIANGLE_UNITS_3, .ref A.u_TRIANGLE_UNITS_4, .ref A.u_TRIANGLE_UNITS_5] else [.ref A.u_SQUARE_UNITS_0, .ref A.u_SQUARE_UNITS_1, .ref A.u_SQUARE_UNITS_2, .ref A.u_SQUARE_UNITS_3]
theorem unitsL_len (A : Ad) (tri : Bool) : ((unitsL A tri).length : Int) = nUn tri := by cases tri <;> rfl
theorem units_sq {K : PySem.W.Frag} {mg : Str → Option Value} {A : Ad} {D : Fd} (T : Txt K mg A D) (tri : Bool) (H : Hp) : SqT K H (unitsA A tri) (unitsL A tri) := by
  cases tri
  · exact T.t_SQUARE_UNITS H
  · exact T.t_TRIANGLE_UNITS H
theorem nUn_pos (tri : Bool) : 0 < nUn tri := by cases tri <;> decide
theorem fin_cases {n r : Int} (h0 : 0 ≤ r) (h1 : r < n) (hn : n ≤ 6) : r = 0 ∨ r = 1 ∨ r = 2 ∨ r = 3 ∨ r = 4 ∨ r = 5 := by omega
theorem units_at (A : Ad) (tri : Bool) {r : Int} (h0 : 0 ≤ r) (h1 : r < nUn tri) : atI (unitsL A tri) r = some (.ref (unitAt A tri r)) := by
  cases tri
  · have h1 : r < 4 := h1
    rcases fin_cases h0 h1 (by decide) with rfl | rfl | rfl | rfl | rfl | rfl <;> first | rfl | omega
  · have h1 : r < 6 := h1
    rcases fin_cases h0 h1 (by decide) with rfl | rfl | rfl | rfl | rfl | rfl <;> first | rfl | omega
theorem unit_pt {K : PySem.W.Frag} {mg : Str → Option Value} {A : Ad} {D : Fd} (T : Txt K mg A D) (tri : Bool) {r : Int} (h0 : 0 ≤ r) (h1 : r < nUn tri) (H : Hp) : SqT K H (unitAt A tri r) [.int (uX tri r), .int (uY tri r)] := by
  cases tri
  · have h1 : r < 4 := h1
    rcases fin_cases h0 h1 (by decide) with rfl | rfl | rfl | rfl | rfl | rfl
    · exact T.t_SQUARE_UNITS_0 H
    · exact T.t_SQUARE_UNITS_1 H
    · exact T.t_SQUARE_UNITS_2 H
    · exact T.t_SQUARE_UNITS_3 H
    · omega
    · omega
  · have h1 : r < 6 := h1
    rcases fin_cases h0 h1 (by decide) with rfl | rfl | rfl | rfl | rfl | rfl
    · exact T.t_TRIANGLE_UNITS_0 H
    · exact T.t_TRIANGLE_UNITS_1 H
    · exact T.t_TRIANGLE_UNITS_2 H
    · exact T.t_TRIANGLE_UNITS_3 H
    · exact T.t_TRIANGLE_UNITS_4 H
    · exact T.t_TRIANGLE_UNITS_5 H
theorem mod_in (tri : Bool) (n : Int) : 0 ≤ n % nUn tri ∧ n % nUn tri < nUn tri := ⟨Int.emod_nonneg _ (by cases tri <;> decide), Int.emod_lt_of_pos _ (nUn_pos tri)⟩

def sp_Grid___len__ (A : Ad) : Sp := fun vs H Q _ => ∃ (g : Addr) (tri : Bool), vs = [.ref g] ∧ GridAt A H g tri ∧ Q (.int (nUn tri)) H
def sp_Grid_half (A : Ad) : Sp := fun vs H Q _ => ∃ (g : Addr) (tri : Bool), vs = [.ref g] ∧ GridAt A H g tri ∧ Q (.int (nUn tri / 2)) H
def sp_Grid_modulo (A : Ad) : Sp := fun vs H Q _ => ∃ (g : Addr) (tri : Bool) (n : Int), vs = [.ref g, .int n] ∧ GridAt A H g tri ∧ Q (.int (n % nUn tri)) H
def sp_Grid_unit (A : Ad) : Sp := fun vs H Q _ => ∃ (g : Addr) (tri : Bool) (n : Int), vs = [.ref g, .int n] ∧ GridAt A H g tri ∧ IsI n ∧ Q (.ref (unitAt A tri (n % nUn tri))) H
section
variable {P : Program} {w : World} {K : PySem.W.Frag} {mg : Str → Option Value} {base : Heap} {A : Ad} {D : Fd}
theorem ok_Grid___len__ (T : Txt K mg A D) : FnOk P w K mg base CX0 1 A.a_Grid___len__ D.d_Grid___len__ ["self"] (sp_Grid___len__ A) := by
  refine T.F_Grid___len__.ok sc_Grid___len__ (fun vs H Q E h => ?_) (fun cdv Ar outer s H vs Q E hr h => ?_)
  · obtain ⟨g, tri, rfl, _⟩ := h
    rfl
  · obtain ⟨g, tri, rfl, hg, k⟩ := h
    obtain ⟨dx, hgs⟩ := id hg
    have us := units_sq T tri H
    refine ⟨_,
      (pss_one (ps_ret (pe_callB call_lenA (by rfl) T.z_len (by decide +kernel) (pa_cons (SlX.pe_sl (pv 0)) pa_nil)))), ?_⟩
    walk_at "r"
    rw [unitsL_len]
    exact k
theorem ok_Grid_half (T : Txt K mg A D) : FnOk P w K mg base CX0 1 A.a_Grid_half D.d_Grid_half ["self"] (sp_Grid_half A) := by
  refine T.F_Grid_half.ok sc_Grid_half (fun vs H Q E h => ?_) (fun cdv Ar outer s H vs Q E hr h => ?_)
  · obtain ⟨g, tri, rfl, _⟩ := h
    rfl
  · obtain ⟨g, tri, rfl, hg, k⟩ := h
    obtain ⟨dx, hgs⟩ := id hg
    have us := units_sq T tri H
    refine ⟨_,
      (pss_one (ps_ret (pe_op op_fdivA (pe_callB call_lenA (by rfl) T.z_len (by decide +kernel) (pa_cons (SlX.pe_sl (pv 0)) pa_nil)) pe_int))), ?_⟩
    walk_at "r"
    rw [unitsL_len]
    exact k
theorem ok_Grid_modulo (T : Txt K mg A D) : FnOk P w K mg base CX0 1 A.a_Grid_modulo D.d_Grid_modulo ["self", "direction"] (sp_Grid_modulo A) := by
  refine T.F_Grid_modulo.ok sc_Grid_modulo (fun vs H Q E h => ?_) (fun cdv Ar outer s H vs Q E hr h => ?_)
  · obtain ⟨g, tri, n, rfl, _⟩ := h
    rfl
  · obtain ⟨g, tri, n, rfl, hg, k⟩ := h
    obtain ⟨dx, hgs⟩ := id hg
    have us := units_sq T tri H
    refine ⟨_,
      (pss_one (ps_ret (pe_op op_mod (pv 1) (pe_callB call_lenA (by rfl) T.z_len (by decide +kernel) (pa_cons (SlX.pe_sl (pv 0)) pa_nil))))), ?_⟩
    walk_at "r"
    rw [unitsL_len]
    exact r_i (nUn_pos tri) k
theorem ok_Grid_unit (T : Txt K mg A D) : FnOk P w K mg base CX0 3 A.a_Grid_unit D.d_Grid_unit ["self", "direction"] (sp_Grid_unit A) := by
  have G_require_integer := ok_require_integer (P := P) (w := w) (base := base) T
  have R_Grid_modulo := FnOk.pos (ok_Grid_modulo (P := P) (w := w) (base := base) T) T.b_Grid_modulo
  refine T.F_Grid_unit.ok sc_Grid_unit (fun vs H Q E h => ?_) (fun cdv Ar outer s H vs Q E hr h => ?_)
  · obtain ⟨g, tri, n, rfl, _⟩ := h
    rfl
  · obtain ⟨g, tri, n, rfl, hg, i, k⟩ := h
    obtain ⟨dx, hgs⟩ := id hg
    have us := units_sq T tri H
    have ua := units_at A tri (mod_in tri n).1 (mod_in tri n).2
    refine ⟨_,
      (pss_cons (ps_expr (pe_call G_require_integer (hr.mono (by decide)) (by rfl) T.g_require_integer T.F_require_integer.kp T.b_require_integer .nil pass0 (pa_cons (pv 1) pa_nil)))
        (pss_one (ps_ret (pe_ix ix_tup (SlX.pe_sl (pv 0)) (SlX.pe_methSl (pv 0) T.sc_Grid T.m_Grid_modulo R_Grid_modulo (hr.mono (by decide)) pass0 (pa_cons (pv 1) pa_nil)) (fun _ _ => rfl))))), ?_⟩
    walk_at "r"
    refine ⟨n, rfl, i, ?_⟩
    walk_at "r"
    refine ⟨g, tri, n, rfl, hg, ?_⟩
    walk_at "r"
    exact k
end

end Law

set_option Elab.async false
set_option maxRecDepth 100000
set_option maxHeartbeats 4000000
set_option linter.all false
namespace Law
open PySem L2 Gl
local macro_rules | `(tactic| walk_at "lk") => `(tactic| first
  | assumption
  | (with_reducible exact upd_same)
  | ((with_reducible refine' Gl.lk_ne ?nlk ?lkk); (case nlk => walk_at "ne"); (case lkk => walk_at "lk")))
local macro_rules | `(tactic| walk_at "ne") => `(tactic| first
  | assumption
  | exact Ne.symm (by assumption)
  | exact ne_of_none (by assumption) (by assumption)
  | exact (ne_of_none (by assumption) (by assumption)).symm)
local macro_rules | `(tactic| walk_at "sq") => `(tactic| first
  | assumption
  | ((with_reducible refine' SqL.of ?hlk); (case hlk => walk_at "lk"))
  | ((with_reducible refine' SqT.of ?hlk); (case hlk => walk_at "lk")))
local macro_rules | `(tactic| walk_at "at") => `(tactic| first
  | exact at_0
  | exact at_1
  | exact at_2
  | exact at_3
  | exact ix_0
  | exact ix_1
  | exact ix_2
  | exact rfl
  | assumption)
local macro_rules | `(tactic| walk_at "len") => `(tactic| first
  | (simp only [List.length_cons, List.length_nil]; decide)
  | (refine Nat.le_trans (?_ : _ ≤ 1000) (by decide); first | assumption | omega | (simp; omega)))
local macro_rules | `(tactic| walk_at "lenlt") => `(tactic| first
  | (refine Nat.lt_of_le_of_lt (?_ : _ ≤ 100000) (by decide); first | assumption | omega | (simp only [List.length_cons, List.length_nil, List.length_append]; omega) | (simp; omega)))
local macro_rules | `(tactic| walk_at "kd") => `(tactic| first
  | assumption
  | exact Knd.non
  | exact Knd.bl _
  | exact Knd.int _
  | exact Knd.str _
  | ((with_reducible refine' Knd.tup ?hlk); (case hlk => walk_at "sq"))
  | ((with_reducible refine' Knd.lst ?hlk); (case hlk => walk_at "sq"))
  | ((with_reducible refine' Knd.dK ?hlk); (case hlk => walk_at "lk")))
local macro_rules | `(tactic| walk_at "om") => `(tactic| first | omega | decide | decide +kernel)
local macro_rules | `(tactic| walk_at "side") => `(tactic| first
  | assumption
  | (with_reducible refine Gl.cdiv ?_ ?_ <;> first | omega | decide +kernel)
  | (with_reducible refine Gl.cmulL ?_ ?_ <;> first | omega | decide +kernel)
  | (with_reducible refine Gl.cmulR ?_ ?_ <;> first | omega | decide +kernel)
  | (refine Nat.le_trans (?_ : _ ≤ 1000) (by decide); first | assumption | omega | (simp only [List.length_cons, List.length_nil]; omega))
  | (show (0 : Int) < _; omega)
  | (show (0 : Int) < _; decide +kernel)
  | (exact Or.inr (by unfold CMulW; decide +kernel))
  | (exact ⟨by decide, by decide +kernel⟩))
local macro_rules | `(tactic| walk_at "r1") => `(tactic| first
  | ((with_reducible refine' Gl.r_var ?hv ?_); (case hv => exact rfl))
  | (with_reducible refine Gl.r_c ?_)
  | (with_reducible refine Gl.r_op ?_)
  | (with_reducible refine Gl.r_i0 ?_)
  | ((with_reducible refine Gl.r_i ?hc ?_); (case hc => walk_at "side"))
  | (with_reducible refine Gl.r_cons ?_)
  | (with_reducible refine Gl.r_nil ?_)
  | (with_reducible refine Gl.r_call ?_)
  | (with_reducible refine Gl.r_cb ?_)
  | (with_reducible refine Gl.r_seq ?_)
  | (with_reducible refine Gl.r_asg ?_)
  | (with_reducible refine Gl.r_gname ?_)
  | (with_reducible refine Gl.r_ret ?_)
  | (with_reducible refine Gl.r_if ?_)
  | (with_reducible refine Gl.r_test ?_)
  | (with_reducible refine Gl.r_bl ?_)
  | (with_reducible refine Gl.r_B ?_)
  | ((with_reducible refine Gl.r_eq ?hc ?_); (case hc => exact rfl))
  | ((with_reducible refine Gl.r_ne ?hc ?_); (case hc => exact rfl))
  | ((with_reducible refine' Gl.r_ixL ?hs ?hi ?_); (case hs => walk_at "sq"); (case hi => walk_at "at"))
  | ((with_reducible refine' Gl.r_ixT ?hs ?hi ?_); (case hs => walk_at "sq"); (case hi => walk_at "at"))
  | (with_reducible refine Gl.r_un ?_)
  | (with_reducible refine Gl.r_u ?_)
  | (with_reducible refine Gl.r_notV ?_)
  | (with_reducible refine Gl.r_ifE ?_)
  | (with_reducible refine Gl.r_chain ?_)
  | (with_reducible refine Gl.r_and ?_)
  | (with_reducible refine Gl.r_or ?_)
  | (with_reducible refine Gl.r_not ?_)
  | (with_reducible refine Gl.r_par ?_)
  | (with_reducible refine Gl.r_next ?_)
  | (with_reducible refine Gl.r_brk ?_)
  | (with_reducible refine Gl.r_cont ?_)
  | (with_reducible refine Gl.r_drop ?_)
  | (with_reducible refine Gl.r_retN ?_)
  | (with_reducible refine Gl.r_gsub ?_)
  | ((with_reducible refine' Gl.r_setL ?hs ?hi ?_); (case hs => walk_at "lk"); (case hi => walk_at "at"))
  | (with_reducible refine Gl.r_gnil ?_)
  | (with_reducible refine Gl.r_gcons ?_)
  | ((with_reducible refine' Gl.r_gtup ?hs ?hi ?_); (case hs => walk_at "sq"); (case hi => walk_at "at"))
  | (with_reducible refine Gl.r_tup ?_)
  | (with_reducible refine Gl.r_lst ?_)
  | (with_reducible refine Gl.r_bm ?_)
  | (with_reducible refine Gl.r_bm0 ?_)
  | (with_reducible refine Gl.r_yes ?_)
  | ((with_reducible refine Gl.r_wipe ?hs ?_); (case hs => exact rfl))
  | ((with_reducible refine' Gl.r_tyL ?hs ?_); (case hs => walk_at "sq"))
  | ((with_reducible refine' Gl.r_app ?hs ?hi ?_); (case hs => walk_at "lk"); (case hi => walk_at "lenlt"))
  | (with_reducible refine Gl.r_isB ?_)
  | (with_reducible refine Gl.r_notB ?_)
  | (with_reducible refine Gl.r_sl ?_)
  | (with_reducible refine Gl.r_noPart ?_)
  | (with_reducible refine Gl.r_part ?_)
  | (with_reducible refine Gl.r_partK ?_)
  | (with_reducible refine Gl.r_enum ?_)
  | ((with_reducible refine' Gl.r_enk ?hs ?_); (case hs => walk_at "sq"))
  | (with_reducible refine Gl.r_for ?_)
  | (with_reducible refine Gl.r_lc ?_)
  | (with_reducible refine Gl.r_rng1 ?_)
  | ((with_reducible refine Gl.r_rng1k ?hs ?hi ?_); (case hs => walk_at "om"); (case hi => walk_at "om"))
  | (with_reducible refine Gl.r_rng2 ?_)
  | ((with_reducible refine Gl.r_rng2k ?hs ?hi ?hs2 ?hi2 ?_); (case hs => walk_at "om"); (case hi => walk_at "om"); (case hs2 => walk_at "om"); (case hi2 => walk_at "om"))
  | (with_reducible refine Gl.r_iList ?_)
  | (with_reducible refine Gl.r_iTup ?_)
  | (with_reducible refine Gl.r_iStr ?_)
  | (with_reducible refine Gl.r_iSk ?_)
  | ((with_reducible refine' Gl.r_iLk ?hs ?_); (case hs => walk_at "sq"))
  | ((with_reducible refine' Gl.r_iTk ?hs ?_); (case hs => walk_at "sq"))
  | ((with_reducible refine' Gl.r_lenL ?hs ?_); (case hs => walk_at "sq"))
  | ((with_reducible refine' Gl.r_lenT ?hs ?_); (case hs => walk_at "sq"))
  | ((with_reducible refine' Gl.r_lenS ?hs ?_); (case hs => walk_at "side"))
  | ((with_reducible refine' Gl.r_isiT ?hs ?hi ?hj ?_); (case hs => walk_at "kd"); (case hi => decide); (case hj => decide))
  | ((with_reducible refine' Gl.r_isiF ?hs ?hi ?hj ?_); (case hs => walk_at "kd"); (case hi => decide); (case hj => decide))
  | (with_reducible refine iteT ?_)
  | (with_reducible refine iteF ?_)
  | (with_reducible refine Gl.iteNF ?_)
  | (with_reducible refine Gl.iteNT ?_)
  | (with_reducible refine Gl.e_oi ?_)
  | (with_reducible refine Gl.e_ob ?_)
  | (with_reducible refine Gl.e_i ?_)
  | (with_reducible refine Gl.e_b ?_)
  | (with_reducible refine Gl.e_s ?_)
  | (with_reducible refine Gl.e_ii ?_)
  | (with_reducible refine Gl.e_vv ?_)
  | (with_reducible refine Gl.e_vvv ?_)
  | (with_reducible refine Gl.e_cs ?_)
  | (with_reducible refine Gl.e_ss ?_))
local macro_rules | `(tactic| walk_at "r") => `(tactic| repeat (walk_at "r1"))
local macro_rules | `(tactic| walk_at "ra") => `(tactic| repeat (first
  | (walk_at "r1")
  | (with_reducible refine Gl.r_andV ?_)
  | (with_reducible refine Gl.r_orV ?_)))
local macro_rules | `(tactic| walk_at "dp") => `(tactic| first
  | exact Dp.non
  | exact Dp.bl _
  | exact Dp.int _
  | exact Dp.str _
  | assumption
  | ((with_reducible refine' Dp.lst ?hlk ?hla); (case hlk => walk_at "sq"); (case hla => walk_at "dpa"))
  | ((with_reducible refine' Dp.tup ?hlk ?hla); (case hlk => walk_at "sq"); (case hla => walk_at "dpa")))
local macro_rules | `(tactic| walk_at "dpa") => `(tactic| first
  | exact DpAll.nil
  | assumption
  | ((with_reducible refine' DpAll.cons ?hlk ?hla); (case hlk => walk_at "dp"); (case hla => walk_at "dpa")))

local macro_rules | `(tactic| walk_at "cls") => `(tactic| first
  | exact Txt.sc_Grid (by assumption))
local macro_rules | `(tactic| walk_at "slot") => `(tactic| first
  | exact Txt.sl_Grid_own_name (by assumption)
  | exact Txt.sl_Grid_own_units (by assumption))
local macro_rules | `(tactic| walk_at "sq") => `(tactic| first
  | assumption
  | ((with_reducible refine' SqL.of ?hlk); (case hlk => walk_at "lk"))
  | ((with_reducible refine' SqT.of ?hlk); (case hlk => walk_at "lk"))
  | exact Txt.t_GRIDS (by assumption) _
  | exact Txt.t_SQUARE_UNITS (by assumption) _
  | exact Txt.t_TRIANGLE_UNITS (by assumption) _
  | exact Txt.t_SQUARE_UNITS_0 (by assumption) _
  | exact Txt.t_SQUARE_UNITS_1 (by assumption) _
  | exact Txt.t_SQUARE_UNITS_2 (by assumption) _
  | exact Txt.t_SQUARE_UNITS_3 (by assumption) _
  | exact Txt.t_TRIANGLE_UNITS_0 (by assumption) _
  | exact Txt.t_TRIANGLE_UNITS_1 (by assumption) _
  | exact Txt.t_TRIANGLE_UNITS_2 (by assumption) _
  | exact Txt.t_TRIANGLE_UNITS_3 (by assumption) _
  | exact Txt.t_TRIANGLE_UNITS_4 (by assumption) _
  | exact Txt.t_TRIANGLE_UNITS_5 (by assumption) _)
local macro_rules | `(tactic| walk_at "slt") => `(tactic| first
  | assumption
  | exact Gl.sltS (by assumption) (by assumption))
local macro_rules | `(tactic| walk_at "fl") => `(tactic| first | exact rfl | decide)
local macro_rules | `(tactic| walk_at "r2") => `(tactic| first
  | (with_reducible refine Gl.r_slE ?_)
  | ((with_reducible refine' Gl.r_slGet ?h1 ?h2 ?h3 ?h4 ?_); (case h1 => walk_at "slt"); (case h2 => walk_at "cls"); (case h3 => walk_at "slot"); (case h4 => exact rfl))
  | (with_reducible refine Gl.r_slS ?_)
  | ((with_reducible refine' Gl.r_slSet ?h1 ?h2 ?h3 ?_); (case h1 => walk_at "slt"); (case h2 => walk_at "cls"); (case h3 => walk_at "slot"))
  | (with_reducible refine Gl.r_methE ?_)
  | ((with_reducible refine' Gl.r_meth ?h1 ?_); (case h1 => walk_at "slt"))
  | (with_reducible refine Gl.r_propE ?_)
  | ((with_reducible refine' Gl.r_prop ?h1 ?_); (case h1 => walk_at "slt"))
  | (with_reducible refine Gl.r_makeE ?_)
  | ((with_reducible refine' Gl.r_inT ?h1 ?h2 ?h3 ?_); (case h1 => walk_at "sq"); (case h2 => walk_at "fl"); (case h3 => walk_at "fl"))
  | ((with_reducible refine' Gl.r_ninT ?h1 ?h2 ?h3 ?_); (case h1 => walk_at "sq"); (case h2 => walk_at "fl"); (case h3 => walk_at "fl"))
  | (with_reducible refine Gl.r_dgetE ?_)
  | ((with_reducible refine' Gl.r_dgetS ?h1 ?h2 ?_); (case h1 => walk_at "lk"); (case h2 => first | assumption | exact rfl | decide))
  | ((with_reducible refine' Gl.r_dgetI ?h1 ?h2 ?_); (case h1 => walk_at "lk"); (case h2 => first | assumption | exact rfl | decide))
  | ((with_reducible refine' Gl.r_i ?hc ?_); (case hc => exact Gl.cmulS (by assumption) (by assumption))))
local macro_rules | `(tactic| walk_at "r") => `(tactic| repeat (first | (walk_at "r1") | (walk_at "r2")))
local macro_rules | `(tactic| walk_at "ra") => `(tactic| repeat (first
  | (walk_at "r1")
  | (walk_at "r2")
  | (with_reducible refine Gl.r_andV ?_)
  | (with_reducible refine Gl.r_orV ?_)))
local macro_rules | `(tactic| walk_at "r3") => `(tactic| first
  | (with_reducible refine Gl.r_par3 ?_)
  | (with_reducible refine Gl.r_lenX ?_)
  | (with_reducible refine Gl.r_lenXK ?_)
  | (with_reducible refine Gl.r_lenSetD ?_)
  | (with_reducible refine Gl.r_star ?_)
  | ((with_reducible refine' Gl.r_starT ?h1 ?_); (case h1 => walk_at "sq"))
  | ((with_reducible refine' Gl.r_starL ?h1 ?_); (case h1 => walk_at "sq"))
  | ((with_reducible refine' Gl.r_lenOwn ?h1 ?_); (case h1 => walk_at "slt"))
  | ((with_reducible refine' Gl.r_unl ?h1 ?h2 ?_); (case h1 => walk_at "sq"); (case h2 => exact rfl))
  | ((with_reducible refine' Gl.r_ext ?h1 ?h2 ?h3 ?_); (case h1 => walk_at "lk"); (case h2 => walk_at "lk"); (case h3 => walk_at "len")))
local macro_rules | `(tactic| walk_at "r") => `(tactic| repeat (first | (walk_at "r1") | (walk_at "r2") | (walk_at "r3")))
local macro_rules | `(tactic| walk_at "ra") => `(tactic| repeat (first
  | (walk_at "r1")
  | (walk_at "r2")
  | (walk_at "r3")
  | (with_reducible refine Gl.r_andV ?_)
  | (with_reducible refine Gl.r_orV ?_)))

/-! ### bounds -/
theorem isI_nat (n : Int) : isI (.int n) = decide (n.natAbs < 10 ^ 400) := by
  have e : LIM = ((10 ^ 400 : Nat) : Int) := by unfold LIM; decide +kernel
  show (decide (-LIM < n) && decide (n < LIM)) = _
  rw [e]
  generalize (10 ^ 400 : Nat) = B
  by_cases h : n.natAbs < B
  · rw [decide_eq_true h, decide_eq_true (show -(B : Int) < n by omega), decide_eq_true (show n < (B : Int) by omega)]; rfl
  · rw [decide_eq_false h, Bool.and_eq_false_iff, decide_eq_false_iff_not, decide_eq_false_iff_not]
    omega
theorem isI_lt {x : Int} : IsI x ↔ x.natAbs < 10 ^ 400 := by
  unfold IsI
  rw [isI_nat]
  exact decide_eq_true_iff
theorem abs_mul_lt {a c : Int} {B : Nat} (h1 : a.natAbs < B) (h2 : c.natAbs < B) : (a * c).natAbs < B * B := by
  rw [Int.natAbs_mul]
  exact Nat.mul_lt_mul'' h1 h2
theorem mulX_lt {a b c d : Int} {B : Nat} (ha : a.natAbs < B) (hb : b.natAbs < B) (hc : c.natAbs < B) (hd : d.natAbs < B) : (mulX a b c d).natAbs < 3 * (B * B) := by
  have h1 := abs_mul_lt ha hc
  have h2 := abs_mul_lt hb hd
  unfold mulX
  generalize a * c = x at *
  generalize b * d = y at *
  omega
theorem mulY_lt {tri : Bool} {a b c d : Int} {B : Nat} (ha : a.natAbs < B) (hb : b.natAbs < B) (hc : c.natAbs < B) (hd : d.natAbs < B) : (mulY tri a b c d).natAbs < 3 * (B * B) := by
  have h1 := abs_mul_lt ha hd
  have h2 := abs_mul_lt hb hc
  have h3 := abs_mul_lt hb hd
  unfold mulY
  generalize a * d = x at *
  generalize b * c = y at *
  generalize b * d = z at *
  split <;> omega
theorem nrm_lt {tri : Bool} {a b : Int} {B : Nat} (ha : a.natAbs < B) (hb : b.natAbs < B) : (nrm tri a b).natAbs < 3 * (B * B) := by
  have h1 := abs_mul_lt ha ha
  have h2 := abs_mul_lt hb hb
  have h3 := abs_mul_lt ha hb
  unfold nrm
  generalize a * a = x at *
  generalize b * b = y at *
  generalize a * b = z at *
  split <;> omega
theorem flX_lt {tri : Bool} {a b : Int} {B : Nat} (ha : a.natAbs < B) (hb : b.natAbs < B) : (flX tri a b).natAbs < 2 * B := by
  unfold flX
  split <;> omega
theorem wide400 {x : Int} (h : x.natAbs < 3 * (10 ^ 400 * 10 ^ 400)) : x.natAbs < 10 ^ 4300 := Nat.lt_trans h (by decide +kernel)
theorem wide1 {x : Int} (h : x.natAbs < 2 * 10 ^ 400) : x.natAbs < 10 ^ 4300 := Nat.lt_trans h (by decide +kernel)
theorem sm_nat {x : Int} {B : Nat} (h : x.natAbs < B) (hB : B ≤ 2 ^ 90000) : Sm x := Sm.of (Nat.lt_of_lt_of_le h hB) (by decide) (by decide)

theorem sm_u (tri : Bool) (r : Int) : Sm (uX tri r) ∧ Sm (uY tri r) := by
  have h : ∀ x : Int, x = 0 ∨ x = 1 ∨ x = -1 → Sm x := fun x hx => sm_nat (B := 5) (by omega) (by decide +kernel)
  constructor
  · refine h _ ?_
    unfold uX; repeat' split
    all_goals omega
  · refine h _ ?_
    unfold uY; repeat' split
    all_goals omega
def sp_Grid_turned_by (K : PySem.W.Frag) (A : Ad) : Sp := fun vs H Q _ => ∃ (g : Addr) (tri : Bool) (v1 : V) (a b n : Int), vs = [.ref g, v1, .int n] ∧ GridAt A H g tri ∧ PtAt K H v1 a b ∧
  Sm a ∧ Sm b ∧ ∀ p H', H p = none → Same H H' → H' p = some (.tup [.int (mulX a b (uX tri (n % nUn tri)) (uY tri (n % nUn tri))), .int (mulY tri a b (uX tri (n % nUn tri)) (uY tri (n % nUn tri)))]) → Q (.ref p) H'
def sp_Grid_turned (K : PySem.W.Frag) (A : Ad) : Sp := fun vs H Q _ => ∃ (g : Addr) (tri : Bool) (v1 : V) (a b n : Int), vs = [.ref g, v1, .int n] ∧ GridAt A H g tri ∧ PtAt K H v1 a b ∧
  IsI a ∧ IsI b ∧ IsI n ∧ ∀ p H', H p = none → Same H H' → H' p = some (.tup [.int (mulX a b (uX tri (n % nUn tri)) (uY tri (n % nUn tri))), .int (mulY tri a b (uX tri (n % nUn tri)) (uY tri (n % nUn tri)))]) → Q (.ref p) H'
section
variable {P : Program} {w : World} {K : PySem.W.Frag} {mg : Str → Option Value} {base : Heap} {A : Ad} {D : Fd}
theorem ok_Grid_turned_by (T : Txt K mg A D) : FnOk P w K mg base CX0 3 A.a_Grid_turned_by D.d_Grid_turned_by ["self", "point", "turn"] (sp_Grid_turned_by K A) := by
  have R_Grid_modulo := FnOk.pos (ok_Grid_modulo (P := P) (w := w) (base := base) T) T.b_Grid_modulo
  have R_Grid_product_of := FnOk.pos (ok_Grid_product_of (P := P) (w := w) (base := base) T) T.b_Grid_product_of
  refine T.F_Grid_turned_by.ok sc_Grid_turned_by (fun vs H Q E h => ?_) (fun cdv Ar outer s H vs Q E hr h => ?_)
  · obtain ⟨g, tri, v1, a, b, n, rfl, _⟩ := h
    rfl
  · obtain ⟨g, tri, v1, a, b, n, rfl, hg, h1, sa, sb, k⟩ := h
    obtain ⟨dx, hgs⟩ := id hg
    have us := units_sq T tri H
    have ua := units_at A tri (mod_in tri n).1 (mod_in tri n).2
    have up := unit_pt T tri (mod_in tri n).1 (mod_in tri n).2 H
    refine ⟨_,
      (pss_one (ps_ret (SlX.pe_methSl (pv 0) T.sc_Grid T.m_Grid_product_of R_Grid_product_of (hr.mono (by decide)) pass0 (pa_cons (pv 1) (pa_cons (pe_ix ix_tup (SlX.pe_sl (pv 0)) (SlX.pe_methSl (pv 0) T.sc_Grid T.m_Grid_modulo R_Grid_modulo (hr.mono (by decide)) pass0 (pa_cons (pv 2) pa_nil)) (fun _ _ => rfl)) pa_nil))))), ?_⟩
    walk_at "r"
    refine ⟨g, tri, n, rfl, hg, ?_⟩
    walk_at "r"
    exact ⟨g, tri, v1, _, a, b, _, _, rfl, hg, h1, ⟨_, rfl, up⟩, sa, sb, (sm_u _ _).1, (sm_u _ _).2, k⟩
theorem ok_Grid_turned (T : Txt K mg A D) : FnOk P w K mg base CX0 5 A.a_Grid_turned D.d_Grid_turned ["self", "point", "turn"] (sp_Grid_turned K A) := by
  have G_require_point := ok_require_point (P := P) (w := w) (base := base) T
  have G_require_integer := ok_require_integer (P := P) (w := w) (base := base) T
  have R_Grid_turned_by := FnOk.pos (ok_Grid_turned_by (P := P) (w := w) (base := base) T) T.b_Grid_turned_by
  refine T.F_Grid_turned.ok sc_Grid_turned (fun vs H Q E h => ?_) (fun cdv Ar outer s H vs Q E hr h => ?_)
  · obtain ⟨g, tri, v1, a, b, n, rfl, _⟩ := h
    rfl
  · obtain ⟨g, tri, v1, a, b, n, rfl, hg, h1, sa, sb, sn, k⟩ := h
    obtain ⟨dx, hgs⟩ := id hg
    refine ⟨_,
      (pss_cons (ps_expr (pe_call G_require_point (hr.mono (by decide)) (by rfl) T.g_require_point T.F_require_point.kp T.b_require_point .nil pass0 (pa_cons (pv 1) pa_nil)))
        (pss_cons (ps_expr (pe_call G_require_integer (hr.mono (by decide)) (by rfl) T.g_require_integer T.F_require_integer.kp T.b_require_integer .nil pass0 (pa_cons (pv 2) pa_nil)))
        (pss_one (ps_ret (SlX.pe_methSl (pv 0) T.sc_Grid T.m_Grid_turned_by R_Grid_turned_by (hr.mono (by decide)) pass0 (pa_cons (pv 1) (pa_cons (pv 2) pa_nil))))))), ?_⟩
    walk_at "r"
    refine ⟨v1, a, b, rfl, h1, sa, sb, ?_⟩
    walk_at "r"
    refine ⟨n, rfl, sn, ?_⟩
    walk_at "r"
    exact ⟨g, tri, v1, a, b, n, rfl, hg, h1, sm_isI sa, sm_isI sb, k⟩
end

/-! ### alternate pairs -/
def altR (s t u : Int) : Bool := !(decide (cnt4 0 s t u < 4)) && (decide (t < s) != decide (u < s))
def alt (n a b c d : Int) : Bool := altR ((b - a) % n) ((c - a) % n) ((d - a) % n)
def sp_Grid_are_alternate (K : PySem.W.Frag) (A : Ad) : Sp := fun vs H Q _ => ∃ (g : Addr) (tri : Bool) (v1 v2 : V) (a b c d : Int), vs = [.ref g, v1, v2] ∧ GridAt A H g tri ∧ PtAt K H v1 a b ∧ PtAt K H v2 c d ∧
  ∀ H', Same H H' → Q (.bl (alt (nUn tri) a b c d)) H'
def sp_Grid_alternate (K : PySem.W.Frag) (A : Ad) : Sp := fun vs H Q _ => ∃ (g : Addr) (tri : Bool) (v1 v2 : V) (a b c d : Int), vs = [.ref g, v1, v2] ∧ GridAt A H g tri ∧ PtAt K H v1 a b ∧ PtAt K H v2 c d ∧
  IsI a ∧ IsI b ∧ IsI c ∧ IsI d ∧ ∀ H', Same H H' → Q (.bl (alt (nUn tri) a b c d)) H'
def modBy (n a : Int) : V → V
  | .int x => .int ((x - a) % n)
  | v => v
theorem bl_ne (x y : Bool) : (!decide (V.bl x = V.bl y)) = (x != y) := by cases x <;> cases y <;> rfl
section
variable {P : Program} {w : World} {K : PySem.W.Frag} {mg : Str → Option Value} {base : Heap} {A : Ad} {D : Fd}
theorem ok_Grid_are_alternate (T : Txt K mg A D) : FnOk P w K mg base CX0 3 A.a_Grid_are_alternate D.d_Grid_are_alternate ["self", "ends", "others"] (sp_Grid_are_alternate K A) := by
  have R_Grid_modulo := FnOk.pos (ok_Grid_modulo (P := P) (w := w) (base := base) T) T.b_Grid_modulo
  refine okC T.F_Grid_are_alternate sc_Grid_are_alternate (fun vs H Q E h => ?_) (fun cdv Ar outer s H vs Q E hcode hr h => ?_)
  · obtain ⟨g, tri, v1, v2, a, b, c, d, rfl, _⟩ := h
    rfl
  · obtain ⟨g, tri, v1, v2, a, b, c, d, rfl, hg, ⟨q1, rfl, h1⟩, ⟨q2, rfl, h2⟩, k⟩ := h
    obtain ⟨dx, hgs⟩ := id hg
    refine ⟨_,
      (pss_cons (ps_asg (pe_lc (own := [("direction", 7)]) (g := gName 7) (by rfl) sc_Grid_are_alternate.nd (pi_tup (pe_tup (StX.pa_star (pv 1) (StX.pa_star (pv 2) pa_nil)))) (blkOk_by (own := [("direction", 7)]) (N := ["self", "ends", "others", "first", "second", "third", "fourth", "direction"]) (sc := defScope s_Grid_are_alternate) (by decide +kernel)) (fun _ _ _ _ _ => (pg_name (i := 7) sc_Grid_are_alternate.nd rfl (Or.inl rfl))) (fun _ _ _ _ _ => pts_nil) (fun _ _ _ _ _ => (SlX.pe_methSl (pv 0) T.sc_Grid T.m_Grid_modulo R_Grid_modulo (hr.mono (by decide)) pass0 (pa_cons (pe_op op_sub (pv 7) (pe_ix (ix_tupK (K := K) rfl) (pv 1) pe_int (fun _ _ => rfl))) pa_nil)))) (pg_unl (by rfl) (pgs_cons (pg_name (i := 3) sc_Grid_are_alternate.nd rfl (.inl rfl)) (pgs_cons (pg_name (i := 4) sc_Grid_are_alternate.nd rfl (.inl rfl)) (pgs_cons (pg_name (i := 5) sc_Grid_are_alternate.nd rfl (.inl rfl)) (pgs_cons (pg_name (i := 6) sc_Grid_are_alternate.nd rfl (.inl rfl)) pgs_nil))))))
        (pss_cons (ps_if (pt_cmpR op_lt (pe_lenX hcode (by rfl) T.z_len (pv 3) (pv 4) (pv 5) (pv 6)) pe_int (nomark _))
        (pss_one (ps_ret pe_bl))
        pss_nil)
        (pss_one (ps_ret (pe_cmpR op_ne (pe_cmpR op_lt (pv 5) (pv 4) (nomark _)) (pe_cmpR op_lt (pv 6) (pv 4) (nomark _)) (nomark _)))))), ?_⟩
    walk_at "r"
    refine r_newT (xs := [.int a, .int b, .int c, .int d]) (by walk_at "len") fun p1 H1 n1 s1 e1 => ?_
    have h1' := sqTS s1 h1
    walk_at "r"
    refine lk_mapT (modBy (nUn tri) a) (SqT.of e1) (by show 4 ≤ 100000; decide) (fun _ => rfl) (fun x hx H2 s2 Q' q => ?_) fun p2 H2 n2 s2 e2 => ?_
    · have : ∃ y, x = .int y := by
        simp only [List.mem_cons, List.not_mem_nil, or_false] at hx
        rcases hx with h | h | h | h <;> exact ⟨_, h⟩
      obtain ⟨y, rfl⟩ := this
      have S := s1.trans s2
      have g2 := sltS S hgs
      have h3 := sqTS S h1
      walk_at "r"
      exact ⟨g, tri, _, rfl, hg.same S, q⟩
    have e2' : H2 p2 = some (.lst [.int ((a - a) % nUn tri), .int ((b - a) % nUn tri), .int ((c - a) % nUn tri), .int ((d - a) % nUn tri)]) := e2
    rw [Int.sub_self, Int.zero_emod] at e2'
    clear e2
    have S2 := s1.trans s2
    replace k := k _ S2
    unfold alt altR at k
    walk_at "r"
    refine r_it2 (fun z => ?_) (fun z => ?_)
    · walk_at "r"
      rw [show decide (cnt4 0 ((b - a) % nUn tri) ((c - a) % nUn tri) ((d - a) % nUn tri) < 4) = true by
        rw [decide_eq_true_iff] at z ⊢
        exact Int.ofNat_lt.mp z] at k
      exact k
    · walk_at "r"
      rw [show decide (cnt4 0 ((b - a) % nUn tri) ((c - a) % nUn tri) ((d - a) % nUn tri) < 4) = false by
        rw [decide_eq_false_iff_not] at z ⊢
        exact fun y => z (Int.ofNat_lt.mpr y)] at k
      rw [bl_ne]
      exact k
theorem ok_Grid_alternate (T : Txt K mg A D) : FnOk P w K mg base CX0 5 A.a_Grid_alternate D.d_Grid_alternate ["self", "ends", "others"] (sp_Grid_alternate K A) := by
  have G_are_ends := ok_are_ends (P := P) (w := w) (base := base) T
  have R_Grid_are_alternate := FnOk.pos (ok_Grid_are_alternate (P := P) (w := w) (base := base) T) T.b_Grid_are_alternate
  refine T.F_Grid_alternate.ok sc_Grid_alternate (fun vs H Q E h => ?_) (fun cdv Ar outer s H vs Q E hr h => ?_)
  · obtain ⟨g, tri, v1, v2, a, b, c, d, rfl, _⟩ := h
    rfl
  · obtain ⟨g, tri, v1, v2, a, b, c, d, rfl, hg, h1, h2, i1, i2, i3, i4, k⟩ := h
    obtain ⟨dx, hgs⟩ := id hg
    refine ⟨_,
      (pss_cons (ps_if (PW.pt (pw_or (pt_not (pt_val (pe_call G_are_ends (hr.mono (by decide)) (by rfl) T.g_are_ends T.F_are_ends.kp T.b_are_ends .nil pass0 (pa_cons (pv 1) pa_nil)))) (pw_or1 (pt_not (pt_val (pe_call G_are_ends (hr.mono (by decide)) (by rfl) T.g_are_ends T.F_are_ends.kp T.b_are_ends .nil pass0 (pa_cons (pv 2) pa_nil)))))))
        (pss_one ps_never)
        pss_nil)
        (pss_one (ps_ret (SlX.pe_methSl (pv 0) T.sc_Grid T.m_Grid_are_alternate R_Grid_are_alternate (hr.mono (by decide)) pass0 (pa_cons (pv 1) (pa_cons (pv 2) pa_nil)))))), ?_⟩
    walk_at "r"
    refine ⟨_, _, _, rfl, h1, i1, i2, ?_⟩
    walk_at "r"
    refine ⟨_, _, _, rfl, h2, i3, i4, ?_⟩
    walk_at "r"
    exact ⟨g, tri, _, _, _, _, _, _, rfl, hg, h1, h2, k⟩
end

end Law

set_option Elab.async false
set_option maxRecDepth 100000
set_option maxHeartbeats 4000000
set_option linter.all false
namespace Law
open PySem L2 Gl
local macro_rules | `(tactic| walk_at "lk") => `(tactic| first
  | assumption
  | (with_reducible exact upd_same)
  | ((with_reducible refine' Gl.lk_ne ?nlk ?lkk); (case nlk => walk_at "ne"); (case lkk => walk_at "lk")))
local macro_rules | `(tactic| walk_at "ne") => `(tactic| first
  | assumption
  | exact Ne.symm (by assumption)
  | exact ne_of_none (by assumption) (by assumption)
  | exact (ne_of_none (by assumption) (by assumption)).symm)
local macro_rules | `(tactic| walk_at "sq") => `(tactic| first
  | assumption
  | ((with_reducible refine' SqL.of ?hlk); (case hlk => walk_at "lk"))
  | ((with_reducible refine' SqT.of ?hlk); (case hlk => walk_at "lk")))
local macro_rules | `(tactic| walk_at "at") => `(tactic| first
  | exact at_0
  | exact at_1
  | exact at_2
  | exact at_3
  | exact ix_0
  | exact ix_1
  | exact ix_2
  | exact rfl
  | assumption)
local macro_rules | `(tactic| walk_at "len") => `(tactic| first
  | (simp only [List.length_cons, List.length_nil]; decide)
  | (refine Nat.le_trans (?_ : _ ≤ 1000) (by decide); first | assumption | omega | (simp; omega)))
local macro_rules | `(tactic| walk_at "lenlt") => `(tactic| first
  | (refine Nat.lt_of_le_of_lt (?_ : _ ≤ 100000) (by decide); first | assumption | omega | (simp only [List.length_cons, List.length_nil, List.length_append]; omega) | (simp; omega)))
local macro_rules | `(tactic| walk_at "kd") => `(tactic| first
  | assumption
  | exact Knd.non
  | exact Knd.bl _
  | exact Knd.int _
  | exact Knd.str _
  | ((with_reducible refine' Knd.tup ?hlk); (case hlk => walk_at "sq"))
  | ((with_reducible refine' Knd.lst ?hlk); (case hlk => walk_at "sq"))
  | ((with_reducible refine' Knd.dK ?hlk); (case hlk => walk_at "lk")))
local macro_rules | `(tactic| walk_at "om") => `(tactic| first | omega | decide | decide +kernel)
local macro_rules | `(tactic| walk_at "side") => `(tactic| first
  | assumption
  | (with_reducible refine Gl.cdiv ?_ ?_ <;> first | omega | decide +kernel)
  | (with_reducible refine Gl.cmulL ?_ ?_ <;> first | omega | decide +kernel)
  | (with_reducible refine Gl.cmulR ?_ ?_ <;> first | omega | decide +kernel)
  | (refine Nat.le_trans (?_ : _ ≤ 1000) (by decide); first | assumption | omega | (simp only [List.length_cons, List.length_nil]; omega))
  | (show (0 : Int) < _; omega)
  | (show (0 : Int) < _; decide +kernel)
  | (exact Or.inr (by unfold CMulW; decide +kernel))
  | (exact ⟨by decide, by decide +kernel⟩))
local macro_rules | `(tactic| walk_at "r1") => `(tactic| first
  | ((with_reducible refine' Gl.r_var ?hv ?_); (case hv => exact rfl))
  | (with_reducible refine Gl.r_c ?_)
  | (with_reducible refine Gl.r_op ?_)
  | (with_reducible refine Gl.r_i0 ?_)
  | ((with_reducible refine Gl.r_i ?hc ?_); (case hc => walk_at "side"))
  | (with_reducible refine Gl.r_cons ?_)
  | (with_reducible refine Gl.r_nil ?_)
  | (with_reducible refine Gl.r_call ?_)
  | (with_reducible refine Gl.r_cb ?_)
  | (with_reducible refine Gl.r_seq ?_)
  | (with_reducible refine Gl.r_asg ?_)
  | (with_reducible refine Gl.r_gname ?_)
  | (with_reducible refine Gl.r_ret ?_)
  | (with_reducible refine Gl.r_if ?_)
  | (with_reducible refine Gl.r_test ?_)
  | (with_reducible refine Gl.r_bl ?_)
  | (with_reducible refine Gl.r_B ?_)
  | ((with_reducible refine Gl.r_eq ?hc ?_); (case hc => exact rfl))
  | ((with_reducible refine Gl.r_ne ?hc ?_); (case hc => exact rfl))
  | ((with_reducible refine' Gl.r_ixL ?hs ?hi ?_); (case hs => walk_at "sq"); (case hi => walk_at "at"))
  | ((with_reducible refine' Gl.r_ixT ?hs ?hi ?_); (case hs => walk_at "sq"); (case hi => walk_at "at"))
  | (with_reducible refine Gl.r_un ?_)
  | (with_reducible refine Gl.r_u ?_)
  | (with_reducible refine Gl.r_notV ?_)
  | (with_reducible refine Gl.r_ifE ?_)
  | (with_reducible refine Gl.r_chain ?_)
  | (with_reducible refine Gl.r_and ?_)
  | (with_reducible refine Gl.r_or ?_)
  | (with_reducible refine Gl.r_not ?_)
  | (with_reducible refine Gl.r_par ?_)
  | (with_reducible refine Gl.r_next ?_)
  | (with_reducible refine Gl.r_brk ?_)
  | (with_reducible refine Gl.r_cont ?_)
  | (with_reducible refine Gl.r_drop ?_)
  | (with_reducible refine Gl.r_retN ?_)
  | (with_reducible refine Gl.r_gsub ?_)
  | ((with_reducible refine' Gl.r_setL ?hs ?hi ?_); (case hs => walk_at "lk"); (case hi => walk_at "at"))
  | (with_reducible refine Gl.r_gnil ?_)
  | (with_reducible refine Gl.r_gcons ?_)
  | ((with_reducible refine' Gl.r_gtup ?hs ?hi ?_); (case hs => walk_at "sq"); (case hi => walk_at "at"))
  | (with_reducible refine Gl.r_tup ?_)
  | (with_reducible refine Gl.r_lst ?_)
  | (with_reducible refine Gl.r_bm ?_)
  | (with_reducible refine Gl.r_bm0 ?_)
  | (with_reducible refine Gl.r_yes ?_)
  | ((with_reducible refine Gl.r_wipe ?hs ?_); (case hs => exact rfl))
  | ((with_reducible refine' Gl.r_tyL ?hs ?_); (case hs => walk_at "sq"))
  | ((with_reducible refine' Gl.r_app ?hs ?hi ?_); (case hs => walk_at "lk"); (case hi => walk_at "lenlt"))
  | (with_reducible refine Gl.r_isB ?_)
  | (with_reducible refine Gl.r_notB ?_)
  | (with_reducible refine Gl.r_sl ?_)
  | (with_reducible refine Gl.r_noPart ?_)
  | (with_reducible refine Gl.r_part ?_)
  | (with_reducible refine Gl.r_partK ?_)
  | (with_reducible refine Gl.r_enum ?_)
  | ((with_reducible refine' Gl.r_enk ?hs ?_); (case hs => walk_at "sq"))
  | (with_reducible refine Gl.r_for ?_)
  | (with_reducible refine Gl.r_lc ?_)
  | (with_reducible refine Gl.r_rng1 ?_)
  | ((with_reducible refine Gl.r_rng1k ?hs ?hi ?_); (case hs => walk_at "om"); (case hi => walk_at "om"))
  | (with_reducible refine Gl.r_rng2 ?_)
  | ((with_reducible refine Gl.r_rng2k ?hs ?hi ?hs2 ?hi2 ?_); (case hs => walk_at "om"); (case hi => walk_at "om"); (case hs2 => walk_at "om"); (case hi2 => walk_at "om"))
  | (with_reducible refine Gl.r_iList ?_)
  | (with_reducible refine Gl.r_iTup ?_)
  | (with_reducible refine Gl.r_iStr ?_)
  | (with_reducible refine Gl.r_iSk ?_)
  | ((with_reducible refine' Gl.r_iLk ?hs ?_); (case hs => walk_at "sq"))
  | ((with_reducible refine' Gl.r_iTk ?hs ?_); (case hs => walk_at "sq"))
  | ((with_reducible refine' Gl.r_lenL ?hs ?_); (case hs => walk_at "sq"))
  | ((with_reducible refine' Gl.r_lenT ?hs ?_); (case hs => walk_at "sq"))
  | ((with_reducible refine' Gl.r_lenS ?hs ?_); (case hs => walk_at "side"))
  | ((with_reducible refine' Gl.r_isiT ?hs ?hi ?hj ?_); (case hs => walk_at "kd"); (case hi => decide); (case hj => decide))
  | ((with_reducible refine' Gl.r_isiF ?hs ?hi ?hj ?_); (case hs => walk_at "kd"); (case hi => decide); (case hj => decide))
  | (with_reducible refine iteT ?_)
  | (with_reducible refine iteF ?_)
  | (with_reducible refine Gl.iteNF ?_)
  | (with_reducible refine Gl.iteNT ?_)
  | (with_reducible refine Gl.e_oi ?_)
  | (with_reducible refine Gl.e_ob ?_)
  | (with_reducible refine Gl.e_i ?_)
  | (with_reducible refine Gl.e_b ?_)
  | (with_reducible refine Gl.e_s ?_)
  | (with_reducible refine Gl.e_ii ?_)
  | (with_reducible refine Gl.e_vv ?_)
  | (with_reducible refine Gl.e_vvv ?_)
  | (with_reducible refine Gl.e_cs ?_)
  | (with_reducible refine Gl.e_ss ?_))
local macro_rules | `(tactic| walk_at "r") => `(tactic| repeat (walk_at "r1"))
local macro_rules | `(tactic| walk_at "ra") => `(tactic| repeat (first
  | (walk_at "r1")
  | (with_reducible refine Gl.r_andV ?_)
  | (with_reducible refine Gl.r_orV ?_)))
local macro_rules | `(tactic| walk_at "dp") => `(tactic| first
  | exact Dp.non
  | exact Dp.bl _
  | exact Dp.int _
  | exact Dp.str _
  | assumption
  | ((with_reducible refine' Dp.lst ?hlk ?hla); (case hlk => walk_at "sq"); (case hla => walk_at "dpa"))
  | ((with_reducible refine' Dp.tup ?hlk ?hla); (case hlk => walk_at "sq"); (case hla => walk_at "dpa")))
local macro_rules | `(tactic| walk_at "dpa") => `(tactic| first
  | exact DpAll.nil
  | assumption
  | ((with_reducible refine' DpAll.cons ?hlk ?hla); (case hlk => walk_at "dp"); (case hla => walk_at "dpa")))

local macro_rules | `(tactic| walk_at "cls") => `(tactic| first
  | exact Txt.sc_Grid (by assumption))
local macro_rules | `(tactic| walk_at "slot") => `(tactic| first
  | exact Txt.sl_Grid_own_name (by assumption)
  | exact Txt.sl_Grid_own_units (by assumption))
local macro_rules | `(tactic| walk_at "sq") => `(tactic| first
  | assumption
  | ((with_reducible refine' SqL.of ?hlk); (case hlk => walk_at "lk"))
  | ((with_reducible refine' SqT.of ?hlk); (case hlk => walk_at "lk"))
  | exact Txt.t_GRIDS (by assumption) _
  | exact Txt.t_SQUARE_UNITS (by assumption) _
  | exact Txt.t_TRIANGLE_UNITS (by assumption) _
  | exact Txt.t_SQUARE_UNITS_0 (by assumption) _
  | exact Txt.t_SQUARE_UNITS_1 (by assumption) _
  | exact Txt.t_SQUARE_UNITS_2 (by assumption) _
  | exact Txt.t_SQUARE_UNITS_3 (by assumption) _
  | exact Txt.t_TRIANGLE_UNITS_0 (by assumption) _
  | exact Txt.t_TRIANGLE_UNITS_1 (by assumption) _
  | exact Txt.t_TRIANGLE_UNITS_2 (by assumption) _
  | exact Txt.t_TRIANGLE_UNITS_3 (by assumption) _
  | exact Txt.t_TRIANGLE_UNITS_4 (by assumption) _
  | exact Txt.t_TRIANGLE_UNITS_5 (by assumption) _)
local macro_rules | `(tactic| walk_at "slt") => `(tactic| first
  | assumption
  | exact Gl.sltS (by assumption) (by assumption))
local macro_rules | `(tactic| walk_at "fl") => `(tactic| first | exact rfl | decide)
local macro_rules | `(tactic| walk_at "r2") => `(tactic| first
  | (with_reducible refine Gl.r_slE ?_)
  | ((with_reducible refine' Gl.r_slGet ?h1 ?h2 ?h3 ?h4 ?_); (case h1 => walk_at "slt"); (case h2 => walk_at "cls"); (case h3 => walk_at "slot"); (case h4 => exact rfl))
  | (with_reducible refine Gl.r_slS ?_)
  | ((with_reducible refine' Gl.r_slSet ?h1 ?h2 ?h3 ?_); (case h1 => walk_at "slt"); (case h2 => walk_at "cls"); (case h3 => walk_at "slot"))
  | (with_reducible refine Gl.r_methE ?_)
  | ((with_reducible refine' Gl.r_meth ?h1 ?_); (case h1 => walk_at "slt"))
  | (with_reducible refine Gl.r_propE ?_)
  | ((with_reducible refine' Gl.r_prop ?h1 ?_); (case h1 => walk_at "slt"))
  | (with_reducible refine Gl.r_makeE ?_)
  | ((with_reducible refine' Gl.r_inT ?h1 ?h2 ?h3 ?_); (case h1 => walk_at "sq"); (case h2 => walk_at "fl"); (case h3 => walk_at "fl"))
  | ((with_reducible refine' Gl.r_ninT ?h1 ?h2 ?h3 ?_); (case h1 => walk_at "sq"); (case h2 => walk_at "fl"); (case h3 => walk_at "fl"))
  | (with_reducible refine Gl.r_dgetE ?_)
  | ((with_reducible refine' Gl.r_dgetS ?h1 ?h2 ?_); (case h1 => walk_at "lk"); (case h2 => first | assumption | exact rfl | decide))
  | ((with_reducible refine' Gl.r_dgetI ?h1 ?h2 ?_); (case h1 => walk_at "lk"); (case h2 => first | assumption | exact rfl | decide))
  | ((with_reducible refine' Gl.r_i ?hc ?_); (case hc => exact Gl.cmulS (by assumption) (by assumption))))
local macro_rules | `(tactic| walk_at "r") => `(tactic| repeat (first | (walk_at "r1") | (walk_at "r2")))
local macro_rules | `(tactic| walk_at "ra") => `(tactic| repeat (first
  | (walk_at "r1")
  | (walk_at "r2")
  | (with_reducible refine Gl.r_andV ?_)
  | (with_reducible refine Gl.r_orV ?_)))
local macro_rules | `(tactic| walk_at "r3") => `(tactic| first
  | (with_reducible refine Gl.r_par3 ?_)
  | (with_reducible refine Gl.r_lenX ?_)
  | (with_reducible refine Gl.r_lenXK ?_)
  | (with_reducible refine Gl.r_lenSetD ?_)
  | (with_reducible refine Gl.r_star ?_)
  | ((with_reducible refine' Gl.r_starT ?h1 ?_); (case h1 => walk_at "sq"))
  | ((with_reducible refine' Gl.r_starL ?h1 ?_); (case h1 => walk_at "sq"))
  | ((with_reducible refine' Gl.r_lenOwn ?h1 ?_); (case h1 => walk_at "slt"))
  | ((with_reducible refine' Gl.r_unl ?h1 ?h2 ?_); (case h1 => walk_at "sq"); (case h2 => exact rfl))
  | ((with_reducible refine' Gl.r_ext ?h1 ?h2 ?h3 ?_); (case h1 => walk_at "lk"); (case h2 => walk_at "lk"); (case h3 => walk_at "len")))
local macro_rules | `(tactic| walk_at "r") => `(tactic| repeat (first | (walk_at "r1") | (walk_at "r2") | (walk_at "r3")))
local macro_rules | `(tactic| walk_at "ra") => `(tactic| repeat (first
  | (walk_at "r1")
  | (walk_at "r2")
  | (walk_at "r3")
  | (with_reducible refine Gl.r_andV ?_)
  | (with_reducible refine Gl.r_orV ?_)))

/-! ### the public methods -/
def sp_Grid_norm_of (K : PySem.W.Frag) (A : Ad) : Sp := fun vs H Q _ => ∃ (g : Addr) (tri : Bool) (v1 : V) (a b : Int), vs = [.ref g, v1] ∧ GridAt A H g tri ∧ PtAt K H v1 a b ∧ IsI a ∧ IsI b ∧ Q (.int (nrm tri a b)) H
def sp_Grid_conjugate_of (K : PySem.W.Frag) (A : Ad) : Sp := fun vs H Q _ => ∃ (g : Addr) (tri : Bool) (v1 : V) (a b : Int), vs = [.ref g, v1] ∧ GridAt A H g tri ∧ PtAt K H v1 a b ∧ IsI a ∧ IsI b ∧
  ∀ p H', H p = none → Same H H' → H' p = some (.tup [.int (flX tri a b), .int (-b)]) → Q (.ref p) H'
section
variable {P : Program} {w : World} {K : PySem.W.Frag} {mg : Str → Option Value} {base : Heap} {A : Ad} {D : Fd}
theorem ok_Grid_norm_of (T : Txt K mg A D) : FnOk P w K mg base CX0 4 A.a_Grid_norm_of D.d_Grid_norm_of ["self", "point"] (sp_Grid_norm_of K A) := by
  have G_require_point := ok_require_point (P := P) (w := w) (base := base) T
  have R_Grid_square_of := FnOk.pos (ok_Grid_square_of (P := P) (w := w) (base := base) T) T.b_Grid_square_of
  refine T.F_Grid_norm_of.ok sc_Grid_norm_of (fun vs H Q E h => ?_) (fun cdv Ar outer s H vs Q E hr h => ?_)
  · obtain ⟨g, tri, v1, a, b, rfl, _⟩ := h
    rfl
  · obtain ⟨g, tri, v1, a, b, rfl, hg, h1, ia, ib, k⟩ := h
    obtain ⟨dx, hgs⟩ := id hg
    refine ⟨_,
      (pss_cons (ps_expr (pe_call G_require_point (hr.mono (by decide)) (by rfl) T.g_require_point T.F_require_point.kp T.b_require_point .nil pass0 (pa_cons (pv 1) pa_nil)))
        (pss_one (ps_ret (SlX.pe_methSl (pv 0) T.sc_Grid T.m_Grid_square_of R_Grid_square_of (hr.mono (by decide)) pass0 (pa_cons (pv 1) pa_nil))))), ?_⟩
    walk_at "r"
    refine ⟨v1, a, b, rfl, h1, ia, ib, ?_⟩
    walk_at "r"
    exact ⟨g, tri, v1, a, b, rfl, hg, h1, sm_isI ia, sm_isI ib, k⟩
theorem ok_Grid_conjugate_of (T : Txt K mg A D) : FnOk P w K mg base CX0 4 A.a_Grid_conjugate_of D.d_Grid_conjugate_of ["self", "point"] (sp_Grid_conjugate_of K A) := by
  have G_require_point := ok_require_point (P := P) (w := w) (base := base) T
  have R_Grid_flipped := FnOk.pos (ok_Grid_flipped (P := P) (w := w) (base := base) T) T.b_Grid_flipped
  refine T.F_Grid_conjugate_of.ok sc_Grid_conjugate_of (fun vs H Q E h => ?_) (fun cdv Ar outer s H vs Q E hr h => ?_)
  · obtain ⟨g, tri, v1, a, b, rfl, _⟩ := h
    rfl
  · obtain ⟨g, tri, v1, a, b, rfl, hg, h1, ia, ib, k⟩ := h
    obtain ⟨dx, hgs⟩ := id hg
    refine ⟨_,
      (pss_cons (ps_expr (pe_call G_require_point (hr.mono (by decide)) (by rfl) T.g_require_point T.F_require_point.kp T.b_require_point .nil pass0 (pa_cons (pv 1) pa_nil)))
        (pss_one (ps_ret (SlX.pe_methSl (pv 0) T.sc_Grid T.m_Grid_flipped R_Grid_flipped (hr.mono (by decide)) pass0 (pa_cons (pv 1) pa_nil))))), ?_⟩
    walk_at "r"
    refine ⟨v1, a, b, rfl, h1, ia, ib, ?_⟩
    walk_at "r"
    exact ⟨g, tri, v1, a, b, rfl, hg, h1, k⟩
end

/-! ### the law's own words -/
/-- the law's plain grid -/
def PlainAt (H : Hp) (v : V) (tri : Bool) : Prop := ∃ q, v = .ref q ∧ H q = some (.dK [(Sum.inr "grid", .str (nameOf tri))])
theorem PlainAt.same {H H' : Hp} {v : V} {tri : Bool} (s : Same H H') (h : PlainAt H v tri) : PlainAt H' v tri := let ⟨q, e, h⟩ := h; ⟨q, e, s _ _ h⟩
theorem PlainAt.went {H H' : Hp} {d : Addr} {v : V} {tri : Bool} (hd : DiceAt H d) (s : Went d H H') (h : PlainAt H v tri) : PlainAt H' v tri := by
  obtain ⟨q, e, h⟩ := h
  obtain ⟨_, _, _, ed⟩ := hd
  exact ⟨q, e, s.keep _ _ (ne_of h ed (by intro z; cases z)) h⟩
theorem valGrid (tri : Bool) : valV ([(Sum.inr (Str.ofString "grid"), V.str (nameOf tri))] : List (Key × V)) (Sum.inr (Str.ofString "grid")) = some (V.str (nameOf tri)) := by
  unfold valV
  rw [List.find?_cons_of_pos (by exact decide_eq_true rfl)]
  rfl

def sp__law_times (K : PySem.W.Frag) : Sp := fun vs H Q _ => ∃ (tri : Bool) (v0 v1 v2 : V) (a b c d : Int), vs = [v0, v1, v2] ∧ PlainAt H v0 tri ∧ PtAt K H v1 a b ∧ PtAt K H v2 c d ∧ Sm a ∧ Sm b ∧ Sm c ∧ Sm d ∧
  ∀ p H', H p = none → Same H H' → H' p = some (.tup [.int (mulX a b c d), .int (mulY tri a b c d)]) → Q (.ref p) H'
section
variable {P : Program} {w : World} {K : PySem.W.Frag} {mg : Str → Option Value} {base : Heap} {A : Ad} {D : Fd}
theorem ok__law_times (T : Txt K mg A D) : FnOk P w K mg base CX0 1 A.a__law_times D.d__law_times ["_law_plain", "_law_one", "_law_other"] (sp__law_times K) := by
  refine T.F__law_times.ok sc__law_times (fun vs H Q E h => ?_) (fun cdv Ar outer s H vs Q E hr h => ?_)
  · obtain ⟨tri, v0, v1, v2, a, b, c, d, rfl, _⟩ := h
    rfl
  · obtain ⟨tri, v0, v1, v2, a, b, c, d, rfl, ⟨q0, rfl, h0⟩, ⟨q1, rfl, h1⟩, ⟨q2, rfl, h2⟩, sa, sb, sc, sd, k⟩ := h
    have hu := hu_of hr
    have hv := valGrid tri
    refine ⟨_,
      (pss_cons (ps_set (i := 3) sc__law_times.nd rfl (.inl rfl) (pe_op op_mulA (pe_ix ix_tup (pv 1) pe_int (fun _ _ => rfl)) (pe_ix ix_tup (pv 2) pe_int (fun _ _ => rfl))))
        (pss_cons (ps_set (i := 4) sc__law_times.nd rfl (.inl rfl) (pe_ifExp (pt_cmpR op_eq (pe_dget hu (pv 0) pe_str (fun _ _ => rfl)) pe_str (nomark _)) (pv 3) pe_int))
        (pss_one (ps_ret (pe_tup (pa_cons (pe_op op_sub (pe_op op_mulA (pe_ix ix_tup (pv 1) pe_int (fun _ _ => rfl)) (pe_ix ix_tup (pv 2) pe_int (fun _ _ => rfl))) (pv 3)) (pa_cons (pe_op op_add (pe_op op_add (pe_op op_mulA (pe_ix ix_tup (pv 1) pe_int (fun _ _ => rfl)) (pe_ix ix_tup (pv 2) pe_int (fun _ _ => rfl))) (pe_op op_mulA (pe_ix ix_tup (pv 1) pe_int (fun _ _ => rfl)) (pe_ix ix_tup (pv 2) pe_int (fun _ _ => rfl)))) (pv 4)) pa_nil))))))), ?_⟩
    walk_at "r"
    rw [isTri]
    cases tri
    · walk_at "r"
      exact r_newT (by walk_at "len") k
    · walk_at "r"
      exact r_newT (by walk_at "len") k
end

def sp__law_grid_plain : Sp := fun vs H Q _ => ∃ (d : Addr), vs = [.ref d] ∧ DiceAt H d ∧ ∀ (tri : Bool) (v : V) (H' : Hp), Went d H H' → PlainAt H' v tri → Q v H'
section
variable {P : Program} {w : World} {K : PySem.W.Frag} {mg : Str → Option Value} {base : Heap} {A : Ad} {D : Fd}
theorem ok__law_grid_plain (T : Txt K mg A D) : FnOk P w K mg base CX0 4 A.a__law_grid_plain D.d__law_grid_plain ["_law_dice_here"] sp__law_grid_plain := by
  have G__law_pick := ok__law_pick (P := P) (w := w) (base := base) T
  refine T.F__law_grid_plain.ok sc__law_grid_plain (fun vs H Q E h => ?_) (fun cdv Ar outer s H vs Q E hr h => ?_)
  · obtain ⟨d, rfl, _⟩ := h
    rfl
  · obtain ⟨d, rfl, hd, k⟩ := h
    refine ⟨_,
      (pss_one (ps_ret (pe_disp (pps_cons pe_str (pe_call G__law_pick (hr.mono (by decide)) (by rfl) T.g__law_pick T.F__law_pick.kp T.b__law_pick .nil pass0 (pa_cons (pv 0) (pa_cons (pe_lst (pa_cons pe_str (pa_cons pe_str pa_nil))) pa_nil))) pps_nil) (by rfl) (by rfl) (fun z => by cases z) (by decide)))), ?_⟩
    walk_at "r"
    refine r_dispE fun p H1 np s1 e1 => ?_
    walk_at "r"
    refine r_newL (by walk_at "len") fun q H2 nq s2 e2 => ?_
    walk_at "r"
    have hd2 := (hd.same s1).same s2
    refine ⟨d, q, _, rfl, hd2, (hd.same s1).ne nq, e2, by simp, by simp, fun v H3 hv w3 => ?_⟩
    have npd := hd.ne np
    obtain ⟨tri, rfl⟩ : ∃ tri, v = .str (nameOf tri) := by
      simp only [List.mem_cons, List.not_mem_nil, or_false] at hv
      rcases hv with h | h
      · exact ⟨false, h⟩
      · exact ⟨true, h⟩
    refine r_dispk (w3.keep _ _ npd (s2 _ _ e1)) ?_
    refine k tri _ _ ?_ ⟨p, rfl, upd_same⟩
    exact ((((Went.refl hd).same s1).same s2).trans w3).mut np npd
end

def sp__law_around : Sp := fun vs H Q _ => ∃ (tri : Bool) (v0 : V), vs = [v0] ∧ PlainAt H v0 tri ∧ Q (.int (nUn tri)) H
def sp__law_unit : Sp := fun vs H Q _ => ∃ (tri : Bool) (v0 : V) (n : Int), vs = [v0, .int n] ∧ PlainAt H v0 tri ∧
  ∀ p H', Same H H' → H' p = some (.tup [.int (uX tri (n % nUn tri)), .int (uY tri (n % nUn tri))]) → Q (.ref p) H'
section
variable {P : Program} {w : World} {K : PySem.W.Frag} {mg : Str → Option Value} {base : Heap} {A : Ad} {D : Fd}
theorem ok__law_around (T : Txt K mg A D) : FnOk P w K mg base CX0 1 A.a__law_around D.d__law_around ["_law_plain"] sp__law_around := by
  refine T.F__law_around.ok sc__law_around (fun vs H Q E h => ?_) (fun cdv Ar outer s H vs Q E hr h => ?_)
  · obtain ⟨tri, v0, rfl, _⟩ := h
    rfl
  · obtain ⟨tri, v0, rfl, ⟨q0, rfl, h0⟩, k⟩ := h
    have hu := hu_of hr
    have hv := valGrid tri
    refine ⟨_,
      (pss_one (ps_ret (pe_ifExp (pt_cmpR op_eq (pe_dget hu (pv 0) pe_str (fun _ _ => rfl)) pe_str (nomark _)) pe_int pe_int))), ?_⟩
    walk_at "r"
    rw [isSq]
    cases tri
    · walk_at "r"
      exact k
    · walk_at "r"
      exact k
theorem ok__law_unit (T : Txt K mg A D) : FnOk P w K mg base CX0 1 A.a__law_unit D.d__law_unit ["_law_plain", "_law_direction"] sp__law_unit := by
  refine T.F__law_unit.ok sc__law_unit (fun vs H Q E h => ?_) (fun cdv Ar outer s H vs Q E hr h => ?_)
  · obtain ⟨tri, v0, n, rfl, _⟩ := h
    rfl
  · obtain ⟨tri, v0, n, rfl, ⟨q0, rfl, h0⟩, k⟩ := h
    have hu := hu_of hr
    have hv := valGrid tri
    refine ⟨_,
      (pss_cons (ps_if (pt_cmpR op_eq (pe_dget hu (pv 0) pe_str (fun _ _ => rfl)) pe_str (nomark _))
        (pss_one (ps_ret (pe_ix ix_list (pe_lst (pa_cons (pe_tup (pa_cons pe_int (pa_cons pe_int pa_nil))) (pa_cons (pe_tup (pa_cons pe_int (pa_cons pe_int pa_nil))) (pa_cons (pe_tup (pa_cons (pe_op op_sub pe_int pe_int) (pa_cons pe_int pa_nil))) (pa_cons (pe_tup (pa_cons pe_int (pa_cons (pe_op op_sub pe_int pe_int) pa_nil))) pa_nil))))) (pe_op op_mod (pv 1) pe_int) (fun _ _ => rfl))))
        pss_nil)
        (pss_one (ps_ret (pe_ix ix_list (pe_lst (pa_cons (pe_tup (pa_cons pe_int (pa_cons pe_int pa_nil))) (pa_cons (pe_tup (pa_cons pe_int (pa_cons pe_int pa_nil))) (pa_cons (pe_tup (pa_cons (pe_op op_sub pe_int pe_int) (pa_cons pe_int pa_nil))) (pa_cons (pe_tup (pa_cons (pe_op op_sub pe_int pe_int) (pa_cons pe_int pa_nil))) (pa_cons (pe_tup (pa_cons pe_int (pa_cons (pe_op op_sub pe_int pe_int) pa_nil))) (pa_cons (pe_tup (pa_cons pe_int (pa_cons (pe_op op_sub pe_int pe_int) pa_nil))) pa_nil))))))) (pe_op op_mod (pv 1) pe_int) (fun _ _ => rfl))))), ?_⟩
    walk_at "r"
    rw [isSq]
    cases tri
    · walk_at "r"
      refine r_newT (by walk_at "len") fun p0 H0 n0 s0 e0 => ?_
      walk_at "r"
      refine r_newT (by walk_at "len") fun p1 H1 n1 s1 e1 => ?_
      walk_at "r"
      refine r_newT (by walk_at "len") fun p2 H2 n2 s2 e2 => ?_
      walk_at "r"
      refine r_newT (by walk_at "len") fun p3 H3 n3 s3 e3 => ?_
      walk_at "r"
      refine r_newL (by walk_at "len") fun p4 H4 n4 s4 e4 => ?_
      have S := (((s0.trans s1).trans s2).trans s3).trans s4
      have m := mod_in false n
      have k := fun p => k p H4 S
      change 0 ≤ n % 4 ∧ n % 4 < 4 at m
      change ∀ p, H4 p = some (.tup [.int (uX false (n % 4)), .int (uY false (n % 4))]) → Q (.ref p) H4 at k
      walk_at "r"
      generalize n % 4 = r at *
      rcases fin_cases m.1 m.2 (by decide) with rfl | rfl | rfl | rfl | rfl | rfl
      · walk_at "r"
        exact k _ (s4 _ _ (s3 _ _ (s2 _ _ (s1 _ _ e0))))
      · walk_at "r"
        exact k _ (s4 _ _ (s3 _ _ (s2 _ _ e1)))
      · walk_at "r"
        exact k _ (s4 _ _ (s3 _ _ e2))
      · walk_at "r"
        exact k _ (s4 _ _ e3)
      · omega
      · omega
    · walk_at "r"
      refine r_newT (by walk_at "len") fun p0 H0 n0 s0 e0 => ?_
      walk_at "r"
      refine r_newT (by walk_at "len") fun p1 H1 n1 s1 e1 => ?_
      walk_at "r"
      refine r_newT (by walk_at "len") fun p2 H2 n2 s2 e2 => ?_
      walk_at "r"
      refine r_newT (by walk_at "len") fun p3 H3 n3 s3 e3 => ?_
      walk_at "r"
      refine r_newT (by walk_at "len") fun p5 H5 n5 s5 e5 => ?_
      walk_at "r"
      refine r_newT (by walk_at "len") fun p6 H6 n6 s6 e6 => ?_
      walk_at "r"
      refine r_newL (by walk_at "len") fun p4 H4 n4 s4 e4 => ?_
      have S := (((((s0.trans s1).trans s2).trans s3).trans s5).trans s6).trans s4
      have m := mod_in true n
      have k := fun p => k p H4 S
      change 0 ≤ n % 6 ∧ n % 6 < 6 at m
      change ∀ p, H4 p = some (.tup [.int (uX true (n % 6)), .int (uY true (n % 6))]) → Q (.ref p) H4 at k
      walk_at "r"
      generalize n % 6 = r at *
      rcases fin_cases m.1 m.2 (by decide) with rfl | rfl | rfl | rfl | rfl | rfl
      · walk_at "r"
        exact k _ (s4 _ _ (s6 _ _ (s5 _ _ (s3 _ _ (s2 _ _ (s1 _ _ e0))))))
      · walk_at "r"
        exact k _ (s4 _ _ (s6 _ _ (s5 _ _ (s3 _ _ (s2 _ _ e1)))))
      · walk_at "r"
        exact k _ (s4 _ _ (s6 _ _ (s5 _ _ (s3 _ _ e2))))
      · walk_at "r"
        exact k _ (s4 _ _ (s6 _ _ (s5 _ _ e3)))
      · walk_at "r"
        exact k _ (s4 _ _ (s6 _ _ e5))
      · walk_at "r"
        exact k _ (s4 _ _ e6)
end

def sp__law_spun (K : PySem.W.Frag) : Sp := fun vs H Q _ => ∃ (tri : Bool) (v0 v1 : V) (a b n : Int), vs = [v0, v1, .int n] ∧ PlainAt H v0 tri ∧ PtAt K H v1 a b ∧ Sm a ∧ Sm b ∧
  ∀ p H', H p = none → Same H H' → H' p = some (.tup [.int (mulX a b (uX tri (n % nUn tri)) (uY tri (n % nUn tri))), .int (mulY tri a b (uX tri (n % nUn tri)) (uY tri (n % nUn tri)))]) → Q (.ref p) H'
section
variable {P : Program} {w : World} {K : PySem.W.Frag} {mg : Str → Option Value} {base : Heap} {A : Ad} {D : Fd}
theorem ok__law_spun (T : Txt K mg A D) : FnOk P w K mg base CX0 2 A.a__law_spun D.d__law_spun ["_law_plain", "_law_place", "_law_turn"] (sp__law_spun K) := by
  have G__law_times := ok__law_times (P := P) (w := w) (base := base) T
  have G__law_unit := ok__law_unit (P := P) (w := w) (base := base) T
  have G__law_around := ok__law_around (P := P) (w := w) (base := base) T
  refine T.F__law_spun.ok sc__law_spun (fun vs H Q E h => ?_) (fun cdv Ar outer s H vs Q E hr h => ?_)
  · obtain ⟨tri, v0, v1, a, b, n, rfl, _⟩ := h
    rfl
  · obtain ⟨tri, v0, v1, a, b, n, rfl, h0, h1, sa, sb, k⟩ := h
    refine ⟨_,
      (pss_one (ps_ret (pe_call G__law_times (hr.mono (by decide)) (by rfl) T.g__law_times T.F__law_times.kp T.b__law_times .nil pass0 (pa_cons (pv 0) (pa_cons (pv 1) (pa_cons (pe_call G__law_unit (hr.mono (by decide)) (by rfl) T.g__law_unit T.F__law_unit.kp T.b__law_unit .nil pass0 (pa_cons (pv 0) (pa_cons (pe_op op_mod (pv 2) (pe_call G__law_around (hr.mono (by decide)) (by rfl) T.g__law_around T.F__law_around.kp T.b__law_around .nil pass0 (pa_cons (pv 0) pa_nil))) pa_nil))) pa_nil)))))), ?_⟩
    walk_at "r"
    refine ⟨tri, v0, rfl, h0, ?_⟩
    have np := nUn_pos tri
    refine r_i np ?_
    walk_at "r"
    refine ⟨tri, v0, _, rfl, h0, fun p1 H1 s1 e1 => ?_⟩
    rw [Int.emod_emod_of_dvd _ (Int.dvd_refl _)] at e1
    walk_at "r"
    exact ⟨tri, v0, v1, _, a, b, _, _, rfl, h0.same s1, h1.same s1, .of e1, sa, sb, (sm_u _ _).1, (sm_u _ _).2, fun p H' n s e => k p H' (s1.free n) (s1.trans s) e⟩
end

end Law

set_option Elab.async false
set_option maxRecDepth 100000
set_option maxHeartbeats 4000000
set_option linter.all false
namespace Law
open PySem L2 Gl
local macro_rules | `(tactic| walk_at "lk") => `(tactic| first
  | assumption
  | (with_reducible exact upd_same)
  | ((with_reducible refine' Gl.lk_ne ?nlk ?lkk); (case nlk => walk_at "ne"); (case lkk => walk_at "lk")))
local macro_rules | `(tactic| walk_at "ne") => `(tactic| first
  | assumption
  | exact Ne.symm (by assumption)
  | exact ne_of_none (by assumption) (by assumption)
  | exact (ne_of_none (by assumption) (by assumption)).symm)
local macro_rules | `(tactic| walk_at "sq") => `(tactic| first
  | assumption
  | ((with_reducible refine' SqL.of ?hlk); (case hlk => walk_at "lk"))
  | ((with_reducible refine' SqT.of ?hlk); (case hlk => walk_at "lk")))
local macro_rules | `(tactic| walk_at "at") => `(tactic| first
  | exact at_0
  | exact at_1
  | exact at_2
  | exact at_3
  | exact ix_0
  | exact ix_1
  | exact ix_2
  | exact rfl
  | assumption)
local macro_rules | `(tactic| walk_at "len") => `(tactic| first
  | (simp only [List.length_cons, List.length_nil]; decide)
  | (refine Nat.le_trans (?_ : _ ≤ 1000) (by decide); first | assumption | omega | (simp; omega)))
local macro_rules | `(tactic| walk_at "lenlt") => `(tactic| first
  | (refine Nat.lt_of_le_of_lt (?_ : _ ≤ 100000) (by decide); first | assumption | omega | (simp only [List.length_cons, List.length_nil, List.length_append]; omega) | (simp; omega)))
local macro_rules | `(tactic| walk_at "kd") => `(tactic| first
  | assumption
  | exact Knd.non
  | exact Knd.bl _
  | exact Knd.int _
  | exact Knd.str _
  | ((with_reducible refine' Knd.tup ?hlk); (case hlk => walk_at "sq"))
  | ((with_reducible refine' Knd.lst ?hlk); (case hlk => walk_at "sq"))
  | ((with_reducible refine' Knd.dK ?hlk); (case hlk => walk_at "lk")))
local macro_rules | `(tactic| walk_at "om") => `(tactic| first | omega | decide | decide +kernel)
local macro_rules | `(tactic| walk_at "side") => `(tactic| first
  | assumption
  | (with_reducible refine Gl.cdiv ?_ ?_ <;> first | omega | decide +kernel)
  | (with_reducible refine Gl.cmulL ?_ ?_ <;> first | omega | decide +kernel)
  | (with_reducible refine Gl.cmulR ?_ ?_ <;> first | omega | decide +kernel)
  | (refine Nat.le_trans (?_ : _ ≤ 1000) (by decide); first | assumption | omega | (simp only [List.length_cons, List.length_nil]; omega))
  | (show (0 : Int) < _; omega)
  | (show (0 : Int) < _; decide +kernel)
  | (exact Or.inr (by unfold CMulW; decide +kernel))
  | (exact ⟨by decide, by decide +kernel⟩))
local macro_rules | `(tactic| walk_at "r1") => `(tactic| first
  | ((with_reducible refine' Gl.r_var ?hv ?_); (case hv => exact rfl))
  | (with_reducible refine Gl.r_c ?_)
  | (with_reducible refine Gl.r_op ?_)
  | (with_reducible refine Gl.r_i0 ?_)
  | ((with_reducible refine Gl.r_i ?hc ?_); (case hc => walk_at "side"))
  | (with_reducible refine Gl.r_cons ?_)
  | (with_reducible refine Gl.r_nil ?_)
  | (with_reducible refine Gl.r_call ?_)
  | (with_reducible refine Gl.r_cb ?_)
  | (with_reducible refine Gl.r_seq ?_)
  | (with_reducible refine Gl.r_asg ?_)
  | (with_reducible refine Gl.r_gname ?_)
  | (with_reducible refine Gl.r_ret ?_)
  | (with_reducible refine Gl.r_if ?_)
  | (with_reducible refine Gl.r_test ?_)
  | (with_reducible refine Gl.r_bl ?_)
  | (with_reducible refine Gl.r_B ?_)
  | ((with_reducible refine Gl.r_eq ?hc ?_); (case hc => exact rfl))
  | ((with_reducible refine Gl.r_ne ?hc ?_); (case hc => exact rfl))
  | ((with_reducible refine' Gl.r_ixL ?hs ?hi ?_); (case hs => walk_at "sq"); (case hi => walk_at "at"))
  | ((with_reducible refine' Gl.r_ixT ?hs ?hi ?_); (case hs => walk_at "sq"); (case hi => walk_at "at"))
  | (with_reducible refine Gl.r_un ?_)
  | (with_reducible refine Gl.r_u ?_)
  | (with_reducible refine Gl.r_notV ?_)
  | (with_reducible refine Gl.r_ifE ?_)
  | (with_reducible refine Gl.r_chain ?_)
  | (with_reducible refine Gl.r_and ?_)
  | (with_reducible refine Gl.r_or ?_)
  | (with_reducible refine Gl.r_not ?_)
  | (with_reducible refine Gl.r_par ?_)
  | (with_reducible refine Gl.r_next ?_)
  | (with_reducible refine Gl.r_brk ?_)
  | (with_reducible refine Gl.r_cont ?_)
  | (with_reducible refine Gl.r_drop ?_)
  | (with_reducible refine Gl.r_retN ?_)
  | (with_reducible refine Gl.r_gsub ?_)
  | ((with_reducible refine' Gl.r_setL ?hs ?hi ?_); (case hs => walk_at "lk"); (case hi => walk_at "at"))
  | (with_reducible refine Gl.r_gnil ?_)
  | (with_reducible refine Gl.r_gcons ?_)
  | ((with_reducible refine' Gl.r_gtup ?hs ?hi ?_); (case hs => walk_at "sq"); (case hi => walk_at "at"))
  | (with_reducible refine Gl.r_tup ?_)
  | (with_reducible refine Gl.r_lst ?_)
  | (with_reducible refine Gl.r_bm ?_)
  | (with_reducible refine Gl.r_bm0 ?_)
  | (with_reducible refine Gl.r_yes ?_)
  | ((with_reducible refine Gl.r_wipe ?hs ?_); (case hs => exact rfl))
  | ((with_reducible refine' Gl.r_tyL ?hs ?_); (case hs => walk_at "sq"))
  | ((with_reducible refine' Gl.r_app ?hs ?hi ?_); (case hs => walk_at "lk"); (case hi => walk_at "lenlt"))
  | (with_reducible refine Gl.r_isB ?_)
  | (with_reducible refine Gl.r_notB ?_)
  | (with_reducible refine Gl.r_sl ?_)
  | (with_reducible refine Gl.r_noPart ?_)
  | (with_reducible refine Gl.r_part ?_)
  | (with_reducible refine Gl.r_partK ?_)
  | (with_reducible refine Gl.r_enum ?_)
  | ((with_reducible refine' Gl.r_enk ?hs ?_); (case hs => walk_at "sq"))
  | (with_reducible refine Gl.r_for ?_)
  | (with_reducible refine Gl.r_lc ?_)
  | (with_reducible refine Gl.r_rng1 ?_)
  | ((with_reducible refine Gl.r_rng1k ?hs ?hi ?_); (case hs => walk_at "om"); (case hi => walk_at "om"))
  | (with_reducible refine Gl.r_rng2 ?_)
  | ((with_reducible refine Gl.r_rng2k ?hs ?hi ?hs2 ?hi2 ?_); (case hs => walk_at "om"); (case hi => walk_at "om"); (case hs2 => walk_at "om"); (case hi2 => walk_at "om"))
  | (with_reducible refine Gl.r_iList ?_)
  | (with_reducible refine Gl.r_iTup ?_)
  | (with_reducible refine Gl.r_iStr ?_)
  | (with_reducible refine Gl.r_iSk ?_)
  | ((with_reducible refine' Gl.r_iLk ?hs ?_); (case hs => walk_at "sq"))
  | ((with_reducible refine' Gl.r_iTk ?hs ?_); (case hs => walk_at "sq"))
  | ((with_reducible refine' Gl.r_lenL ?hs ?_); (case hs => walk_at "sq"))
  | ((with_reducible refine' Gl.r_lenT ?hs ?_); (case hs => walk_at "sq"))
  | ((with_reducible refine' Gl.r_lenS ?hs ?_); (case hs => walk_at "side"))
  | ((with_reducible refine' Gl.r_isiT ?hs ?hi ?hj ?_); (case hs => walk_at "kd"); (case hi => decide); (case hj => decide))
  | ((with_reducible refine' Gl.r_isiF ?hs ?hi ?hj ?_); (case hs => walk_at "kd"); (case hi => decide); (case hj => decide))
  | (with_reducible refine iteT ?_)
  | (with_reducible refine iteF ?_)
  | (with_reducible refine Gl.iteNF ?_)
  | (with_reducible refine Gl.iteNT ?_)
  | (with_reducible refine Gl.e_oi ?_)
  | (with_reducible refine Gl.e_ob ?_)
  | (with_reducible refine Gl.e_i ?_)
  | (with_reducible refine Gl.e_b ?_)
  | (with_reducible refine Gl.e_s ?_)
  | (with_reducible refine Gl.e_ii ?_)
  | (with_reducible refine Gl.e_vv ?_)
  | (with_reducible refine Gl.e_vvv ?_)
  | (with_reducible refine Gl.e_cs ?_)
  | (with_reducible refine Gl.e_ss ?_))
local macro_rules | `(tactic| walk_at "r") => `(tactic| repeat (walk_at "r1"))
local macro_rules | `(tactic| walk_at "ra") => `(tactic| repeat (first
  | (walk_at "r1")
  | (with_reducible refine Gl.r_andV ?_)
  | (with_reducible refine Gl.r_orV ?_)))
local macro_rules | `(tactic| walk_at "dp") => `(tactic| first
  | exact Dp.non
  | exact Dp.bl _
  | exact Dp.int _
  | exact Dp.str _
  | assumption
  | ((with_reducible refine' Dp.lst ?hlk ?hla); (case hlk => walk_at "sq"); (case hla => walk_at "dpa"))
  | ((with_reducible refine' Dp.tup ?hlk ?hla); (case hlk => walk_at "sq"); (case hla => walk_at "dpa")))
local macro_rules | `(tactic| walk_at "dpa") => `(tactic| first
  | exact DpAll.nil
  | assumption
  | ((with_reducible refine' DpAll.cons ?hlk ?hla); (case hlk => walk_at "dp"); (case hla => walk_at "dpa")))

local macro_rules | `(tactic| walk_at "cls") => `(tactic| first
  | exact Txt.sc_Grid (by assumption))
local macro_rules | `(tactic| walk_at "slot") => `(tactic| first
  | exact Txt.sl_Grid_own_name (by assumption)
  | exact Txt.sl_Grid_own_units (by assumption))
local macro_rules | `(tactic| walk_at "sq") => `(tactic| first
  | assumption
  | ((with_reducible refine' SqL.of ?hlk); (case hlk => walk_at "lk"))
  | ((with_reducible refine' SqT.of ?hlk); (case hlk => walk_at "lk"))
  | exact Txt.t_GRIDS (by assumption) _
  | exact Txt.t_SQUARE_UNITS (by assumption) _
  | exact Txt.t_TRIANGLE_UNITS (by assumption) _
  | exact Txt.t_SQUARE_UNITS_0 (by assumption) _
  | exact Txt.t_SQUARE_UNITS_1 (by assumption) _
  | exact Txt.t_SQUARE_UNITS_2 (by assumption) _
  | exact Txt.t_SQUARE_UNITS_3 (by assumption) _
  | exact Txt.t_TRIANGLE_UNITS_0 (by assumption) _
  | exact Txt.t_TRIANGLE_UNITS_1 (by assumption) _
  | exact Txt.t_TRIANGLE_UNITS_2 (by assumption) _
  | exact Txt.t_TRIANGLE_UNITS_3 (by assumption) _
  | exact Txt.t_TRIANGLE_UNITS_4 (by assumption) _
  | exact Txt.t_TRIANGLE_UNITS_5 (by assumption) _)
local macro_rules | `(tactic| walk_at "slt") => `(tactic| first
  | assumption
  | exact Gl.sltS (by assumption) (by assumption))
local macro_rules | `(tactic| walk_at "fl") => `(tactic| first | exact rfl | decide)
local macro_rules | `(tactic| walk_at "r2") => `(tactic| first
  | (with_reducible refine Gl.r_slE ?_)
  | ((with_reducible refine' Gl.r_slGet ?h1 ?h2 ?h3 ?h4 ?_); (case h1 => walk_at "slt"); (case h2 => walk_at "cls"); (case h3 => walk_at "slot"); (case h4 => exact rfl))
  | (with_reducible refine Gl.r_slS ?_)
  | ((with_reducible refine' Gl.r_slSet ?h1 ?h2 ?h3 ?_); (case h1 => walk_at "slt"); (case h2 => walk_at "cls"); (case h3 => walk_at "slot"))
  | (with_reducible refine Gl.r_methE ?_)
  | ((with_reducible refine' Gl.r_meth ?h1 ?_); (case h1 => walk_at "slt"))
  | (with_reducible refine Gl.r_propE ?_)
  | ((with_reducible refine' Gl.r_prop ?h1 ?_); (case h1 => walk_at "slt"))
  | (with_reducible refine Gl.r_makeE ?_)
  | ((with_reducible refine' Gl.r_inT ?h1 ?h2 ?h3 ?_); (case h1 => walk_at "sq"); (case h2 => walk_at "fl"); (case h3 => walk_at "fl"))
  | ((with_reducible refine' Gl.r_ninT ?h1 ?h2 ?h3 ?_); (case h1 => walk_at "sq"); (case h2 => walk_at "fl"); (case h3 => walk_at "fl"))
  | (with_reducible refine Gl.r_dgetE ?_)
  | ((with_reducible refine' Gl.r_dgetS ?h1 ?h2 ?_); (case h1 => walk_at "lk"); (case h2 => first | assumption | exact rfl | decide))
  | ((with_reducible refine' Gl.r_dgetI ?h1 ?h2 ?_); (case h1 => walk_at "lk"); (case h2 => first | assumption | exact rfl | decide))
  | ((with_reducible refine' Gl.r_i ?hc ?_); (case hc => exact Gl.cmulS (by assumption) (by assumption))))
local macro_rules | `(tactic| walk_at "r") => `(tactic| repeat (first | (walk_at "r1") | (walk_at "r2")))
local macro_rules | `(tactic| walk_at "ra") => `(tactic| repeat (first
  | (walk_at "r1")
  | (walk_at "r2")
  | (with_reducible refine Gl.r_andV ?_)
  | (with_reducible refine Gl.r_orV ?_)))
local macro_rules | `(tactic| walk_at "r3") => `(tactic| first
  | (with_reducible refine Gl.r_par3 ?_)
  | (with_reducible refine Gl.r_lenX ?_)
  | (with_reducible refine Gl.r_lenXK ?_)
  | (with_reducible refine Gl.r_lenSetD ?_)
  | (with_reducible refine Gl.r_star ?_)
  | ((with_reducible refine' Gl.r_starT ?h1 ?_); (case h1 => walk_at "sq"))
  | ((with_reducible refine' Gl.r_starL ?h1 ?_); (case h1 => walk_at "sq"))
  | ((with_reducible refine' Gl.r_lenOwn ?h1 ?_); (case h1 => walk_at "slt"))
  | ((with_reducible refine' Gl.r_unl ?h1 ?h2 ?_); (case h1 => walk_at "sq"); (case h2 => exact rfl))
  | ((with_reducible refine' Gl.r_ext ?h1 ?h2 ?h3 ?_); (case h1 => walk_at "lk"); (case h2 => walk_at "lk"); (case h3 => walk_at "len")))
local macro_rules | `(tactic| walk_at "r") => `(tactic| repeat (first | (walk_at "r1") | (walk_at "r2") | (walk_at "r3")))
local macro_rules | `(tactic| walk_at "ra") => `(tactic| repeat (first
  | (walk_at "r1")
  | (walk_at "r2")
  | (walk_at "r3")
  | (with_reducible refine Gl.r_andV ?_)
  | (with_reducible refine Gl.r_orV ?_)))

/-! ### the law's own pairs -/
def cE (n i : Int) (l : List Int) : Nat := (l.filter fun y => decide (y % n = i)).length
def metStep (n : Int) (a b c d : Int) (i : Nat) : List Int := List.replicate (cE n i [a, b]) 0 ++ List.replicate (cE n i [c, d]) 1
def metTo (n : Int) (a b c d : Int) : Nat → List Int
  | 0 => []
  | i + 1 => metTo n a b c d i ++ metStep n a b c d i
def plc (n : Int) (a b c d : Int) : List Int := [a % n, b % n, c % n, d % n]
def doAlt (n a b c d : Int) : Bool := decide ((PyProof.Rows.firstMet (fun i => (plc n a b c d).getD i 0) (plc n a b c d).length).length = 4) && (decide (metTo n a b c d n.toNat = [0, 1, 0, 1]) || decide (metTo n a b c d n.toNat = [1, 0, 1, 0]))
def sp__law_do_alternate (K : PySem.W.Frag) : Sp := fun vs H Q _ => ∃ (tri : Bool) (v1 v2 : V) (a b c d : Int), vs = [.int (nUn tri), v1, v2] ∧ PtAt K H v1 a b ∧ PtAt K H v2 c d ∧
  ∀ H', Same H H' → Q (.bl (doAlt (nUn tri) a b c d)) H'
def isAt (n i : Int) : V → Bool
  | .int y => decide (V.int (y % n) = V.int i)
  | _ => false
theorem fil_at (n i : Int) (l : List Int) : (((l.map V.int).filter (isAt n i)).map id).length = cE n i l := by
  rw [List.length_map]
  unfold cE
  induction l with
  | nil => rfl
  | cons x l ih =>
    have e : isAt n i (.int x) = decide (x % n = i) := by
      show decide (V.int (x % n) = V.int i) = _
      by_cases h : x % n = i
      · rw [h, decide_eq_true rfl, decide_eq_true rfl]
      · rw [decide_eq_false h, decide_eq_false (fun z => h (V.int.inj z))]
    rw [List.map_cons, List.filter_cons, List.filter_cons, e]
    split
    · rw [List.length_cons, List.length_cons, ih]
    · exact ih
theorem cE_le (n i : Int) (l : List Int) : cE n i l ≤ l.length := List.length_filter_le _ _
theorem metStep_len (n a b c d : Int) (i : Nat) : (metStep n a b c d i).length ≤ 4 := by
  unfold metStep
  rw [List.length_append, List.length_replicate, List.length_replicate]
  have h1 := cE_le n i [a, b]
  have h2 := cE_le n i [c, d]
  have h3 : [a, b].length = 2 := rfl
  have h4 : [c, d].length = 2 := rfl
  omega
theorem metTo_len (n a b c d : Int) : ∀ i : Nat, (metTo n a b c d i).length ≤ 4 * i
  | 0 => Nat.le_refl _
  | i + 1 => by
    show (metTo n a b c d i ++ metStep n a b c d i).length ≤ _
    rw [List.length_append]
    have := metTo_len n a b c d i
    have := metStep_len n a b c d i
    omega
theorem rep_int (k : Nat) (x : Int) : (List.replicate (k : Int).toNat [V.int x]).flatten = (List.replicate k x).map V.int := by
  rw [Int.toNat_natCast]
  induction k with
  | zero => rfl
  | succ k ih => rw [List.replicate_succ, List.replicate_succ, List.flatten_cons, ih]; rfl
def modV (n : Int) : V → V
  | .int x => .int (x % n)
  | v => v
theorem int_dec (x y : Int) : decide (V.int x = V.int y) = decide (x = y) := by
  by_cases h : x = y
  · rw [h, decide_eq_true rfl, decide_eq_true rfl]
  · rw [decide_eq_false h, decide_eq_false (fun z => h (V.int.inj z))]
theorem dpInts {K : PySem.W.Frag} {H : Hp} : ∀ l : List Int, DpAll K H (l.map V.int) (l.map PyData.int)
  | [] => .nil
  | x :: l => .cons (.int x) (dpInts l)
theorem canInts : ∀ l : List Int, PyData.canLayAll0 (l.map PyData.int) = true
  | [] => rfl
  | x :: l => by
    show (true && PyData.canLayAll0 (l.map PyData.int)) = true
    rw [canInts l]; rfl
theorem depthInts : ∀ l : List Int, PyData.depthAll (l.map PyData.int) ≤ 1
  | [] => by decide
  | x :: l => by
    have h := depthInts l
    show max _ (PyData.depthAll (l.map PyData.int)) ≤ 1
    exact Nat.max_le.mpr ⟨by show 0 ≤ 1; decide, h⟩
theorem shapedInts (l : List Int) : SeqAt.shaped (.list (l.map PyData.int)) = true := by
  unfold SeqAt.shaped
  have h := depthInts l
  rw [Bool.and_eq_true, decide_eq_true_iff]
  refine ⟨canInts l, ?_⟩
  show PyData.depthAll (l.map PyData.int) + 1 ≤ 64
  omega
theorem eqvIntsA : ∀ l m : List Int, PyData.eqvAll (l.map PyData.int) (m.map PyData.int) = decide (m = l)
  | [], [] => rfl
  | [], y :: m => rfl
  | x :: l, [] => rfl
  | x :: l, y :: m => by
    show (PyData.eqv (.int x) (.int y) && PyData.eqvAll (l.map PyData.int) (m.map PyData.int)) = _
    rw [eqvIntsA l m, show PyData.eqv (.int x) (.int y) = decide (x = y) by simp only [PyData.eqv, Bool.beq_eq_decide_eq]]
    by_cases h1 : x = y
    · subst h1
      by_cases h2 : m = l
      · subst h2
        rw [decide_eq_true rfl, decide_eq_true rfl, decide_eq_true rfl]; rfl
      · rw [decide_eq_true rfl, decide_eq_false h2, decide_eq_false (fun z => h2 (List.cons.inj z).2)]; rfl
    · rw [decide_eq_false h1, decide_eq_false (fun z => h1 (List.cons.inj z).1.symm)]; rfl
theorem eqvInts (l m : List Int) : PyData.eqv (.list (l.map PyData.int)) (.list (m.map PyData.int)) = decide (m = l) := by
  rw [← eqvIntsA]
  simp only [PyData.eqv]
section
variable {P : Program} {w : World} {K : PySem.W.Frag} {mg : Str → Option Value} {base : Heap} {A : Ad} {D : Fd}
theorem ok__law_do_alternate (T : Txt K mg A D) : FnOk P w K mg base CX0 2 A.a__law_do_alternate D.d__law_do_alternate ["_law_around_here", "_law_ends", "_law_others"] (sp__law_do_alternate K) := by
  refine T.F__law_do_alternate.ok sc__law_do_alternate (fun vs H Q E h => ?_) (fun cdv Ar outer s H vs Q E hr h => ?_)
  · obtain ⟨tri, v1, v2, a, b, c, d, rfl, _⟩ := h
    rfl
  · obtain ⟨tri, v1, v2, a, b, c, d, rfl, ⟨q1, rfl, h1⟩, ⟨q2, rfl, h2⟩, k⟩ := h
    have np := nUn_pos tri
    have n6 : nUn tri ≤ 6 := by cases tri <;> decide
    refine ⟨_,
      (pss_cons (ps_set (i := 3) sc__law_do_alternate.nd rfl (.inl rfl) (pe_lst pa_nil))
        (pss_cons (ps_for PassesOwn.never rfl (pi_range1 (by rfl) T.z_range (pa_cons (pv 0) pa_nil)) (pg_name (i := 4) sc__law_do_alternate.nd rfl (.inr rfl))
        (pss_cons (ps_expr (pe_bm PySem.F.plainAttrs_list PySem.F.slot_list_extend PySem.F.type_list_extend mt_extend (pv 3) (pa_cons (pe_op op_rep (pe_lst (pa_cons pe_int pa_nil)) (pe_callB call_lenA (by rfl) T.z_len (by decide +kernel) (pa_cons (pe_lc (own := [("_law_one", 6)]) (g := gName 6) (by rfl) sc__law_do_alternate.nd (pi_tup (pv 1)) (blkOk_by (own := [("_law_one", 6)]) (N := ["_law_around_here", "_law_ends", "_law_others", "_law_met", "_law_direction", "_law_places", "_law_one"]) (sc := defScope s__law_do_alternate) (by decide +kernel)) (fun _ _ _ _ _ => (pg_name (i := 6) sc__law_do_alternate.nd rfl (Or.inl rfl))) (fun _ _ _ _ _ => (pts_one (pt_cmpR op_eq (pe_op op_mod (pv 6) (pv 0)) (pv 4) (nomark _)))) (fun _ _ _ _ _ => (pv 6))) pa_nil))) pa_nil)))
        (pss_one (ps_expr (pe_bm PySem.F.plainAttrs_list PySem.F.slot_list_extend PySem.F.type_list_extend mt_extend (pv 3) (pa_cons (pe_op op_rep (pe_lst (pa_cons pe_int pa_nil)) (pe_callB call_lenA (by rfl) T.z_len (by decide +kernel) (pa_cons (pe_lc (own := [("_law_one", 6)]) (g := gName 6) (by rfl) sc__law_do_alternate.nd (pi_tup (pv 2)) (blkOk_by (own := [("_law_one", 6)]) (N := ["_law_around_here", "_law_ends", "_law_others", "_law_met", "_law_direction", "_law_places", "_law_one"]) (sc := defScope s__law_do_alternate) (by decide +kernel)) (fun _ _ _ _ _ => (pg_name (i := 6) sc__law_do_alternate.nd rfl (Or.inl rfl))) (fun _ _ _ _ _ => (pts_one (pt_cmpR op_eq (pe_op op_mod (pv 6) (pv 0)) (pv 4) (nomark _)))) (fun _ _ _ _ _ => (pv 6))) pa_nil))) pa_nil))))))
        (pss_cons (ps_setLc (i := 5) (own := [("_law_one", 6)]) (g := gName 6) (by rfl) sc__law_do_alternate.nd rfl rfl (sw_true rfl rfl rfl (by decide +kernel)) (pi_tup (pe_op op_catA (pv 1) (pv 2))) (blkOk_by (own := [("_law_one", 6)]) (N := ["_law_around_here", "_law_ends", "_law_others", "_law_met", "_law_direction", "_law_places", "_law_one"]) (sc := defScope s__law_do_alternate) (by decide +kernel)) (fun _ _ _ _ _ => (pg_name (i := 6) sc__law_do_alternate.nd rfl (Or.inl rfl))) (fun _ _ _ _ _ => pts_nil) (fun _ _ _ _ _ => (pe_op op_mod (pv 6) (pv 0))))
        (pss_one (ps_ret (pe_and (pe_cmpR op_eq (pe_lenSetD (by rfl) (by rfl) T.z_len (by rfl) T.z_set (pv 5)) pe_int (nomark _)) (pe_one (pe_cmpR (op_inDT (in_room hr)) (pv 3) (pe_tup (pa_cons (pe_lst (pa_cons pe_int (pa_cons pe_int (pa_cons pe_int (pa_cons pe_int pa_nil))))) (pa_cons (pe_lst (pa_cons pe_int (pa_cons pe_int (pa_cons pe_int (pa_cons pe_int pa_nil))))) pa_nil))) (by rfl))))))))), ?_⟩
    walk_at "r"
    refine r_newL (by walk_at "len") fun M H1 n1 s1 e1 => ?_
    walk_at "r"
    refine fk_rng (fun i σ H' => ∃ x4 x5 x6, σ = [some (.int (nUn tri)), some (.ref q1), some (.ref q2), some (.ref M), x4, x5, x6] ∧ Same H H' ∧ H' M = some (.lst ((metTo (nUn tri) a b c d i).map V.int))) ⟨_, _, _, rfl, s1, e1⟩ ?_ ?_
    · rintro i σ Hi hi ⟨x4, x5, x6, rfl, si, ei⟩
      have hiN : i ≤ 6 := by omega
      walk_at "r"
      refine r_newL (by walk_at "len") fun p1 Ha na sa ea => ?_
      have Sa := si.trans sa
      have h1a := sqTS Sa h1
      walk_at "r"
      refine lk_filT (isAt (nUn tri) (0 + (i : Nat))) id h1a (by show 2 ≤ 100000; decide) (fun _ => rfl) (fun x hx H2 s2 R r => ?_) (fun x hx _ H2 s2 Q' q => ?_) fun p2 Hb nb sb eb => ?_
      · have : ∃ y, x = .int y := by
          simp only [List.mem_cons, List.not_mem_nil, or_false] at hx
          rcases hx with h | h <;> exact ⟨_, h⟩
        obtain ⟨y, rfl⟩ := this
        walk_at "r"
        exact r
      · walk_at "r"
        exact q
      have Sb := Sa.trans sb
      replace eb : Hb p2 = some (.lst ((List.filter (isAt (nUn tri) (0 + (i : Nat))) ([a, b].map V.int)).map id)) := eb
      have lb := fil_at (nUn tri) (0 + (i : Nat)) [a, b]
      have cb := cE_le (nUn tri) (0 + (i : Nat)) [a, b]
      walk_at "r"
      rw [lb]
      refine r_rep (sb _ _ ea) (by omega) (by simp only [List.length_cons, List.length_nil] at cb; omega) (by decide) fun p3 Hc nc sc ec => ?_
      rw [rep_int] at ec
      have eM := sc _ _ (sb _ _ (sa _ _ ei))
      have Sc := Sb.trans sc
      have ml := metTo_len (nUn tri) a b c d i
      walk_at "r"
      refine r_ext eM ec ?_ ?_
      · rw [List.length_map, List.length_map, List.length_replicate]
        refine Nat.le_trans (?_ : _ ≤ 1000) (by decide)
        simp only [List.length_cons, List.length_nil] at cb
        omega
      have hM : H M = none := n1
      have Sd := sameMut (o := .lst ((metTo (nUn tri) a b c d i).map V.int ++ (List.replicate (cE (nUn tri) (0 + (i : Nat)) [a, b]) 0).map V.int)) Sc hM
      have ed : upd Hc M (.lst ((metTo (nUn tri) a b c d i).map V.int ++ (List.replicate (cE (nUn tri) (0 + (i : Nat)) [a, b]) 0).map V.int)) M = _ := upd_same
      generalize upd Hc M (.lst ((metTo (nUn tri) a b c d i).map V.int ++ (List.replicate (cE (nUn tri) (0 + (i : Nat)) [a, b]) 0).map V.int)) = Hd at Sd ed
      clear eM ec nc sc eb nb sb ea na sa
      walk_at "r"
      refine r_newL (by walk_at "len") fun p4 He ne se ee => ?_
      have Se := Sd.trans se
      have h2e := sqTS Se h2
      walk_at "r"
      refine lk_filT (isAt (nUn tri) (0 + (i : Nat))) id h2e (by show 2 ≤ 100000; decide) (fun _ => rfl) (fun x hx H2 s2 R r => ?_) (fun x hx _ H2 s2 Q' q => ?_) fun p5 Hf nf sf ef => ?_
      · have : ∃ y, x = .int y := by
          simp only [List.mem_cons, List.not_mem_nil, or_false] at hx
          rcases hx with h | h <;> exact ⟨_, h⟩
        obtain ⟨y, rfl⟩ := this
        walk_at "r"
        exact r
      · walk_at "r"
        exact q
      have Sf := Se.trans sf
      replace ef : Hf p5 = some (.lst ((List.filter (isAt (nUn tri) (0 + (i : Nat))) ([c, d].map V.int)).map id)) := ef
      have lf := fil_at (nUn tri) (0 + (i : Nat)) [c, d]
      have cf := cE_le (nUn tri) (0 + (i : Nat)) [c, d]
      walk_at "r"
      rw [lf]
      refine r_rep (sf _ _ ee) (by omega) (by simp only [List.length_cons, List.length_nil] at cf; omega) (by decide) fun p6 Hg ng sg eg => ?_
      rw [rep_int] at eg
      have eM := sg _ _ (sf _ _ (se _ _ ed))
      have Sg := Sf.trans sg
      walk_at "r"
      refine r_ext eM eg ?_ ?_
      · rw [List.length_append, List.length_map, List.length_map, List.length_map, List.length_replicate, List.length_replicate]
        refine Nat.le_trans (?_ : _ ≤ 1000) (by decide)
        simp only [List.length_cons, List.length_nil] at cb cf
        omega
      walk_at "r"
      refine ⟨_, _, _, rfl, sameMut Sg hM, ?_⟩
      rw [upd_same]
      show _ = some (HO.lst ((metTo (nUn tri) a b c d i ++ metStep (nUn tri) a b c d i).map V.int))
      unfold metStep
      rw [List.map_append, List.map_append, List.append_assoc, Int.zero_add]
    · rintro σ Hi ⟨x4, x5, x6, rfl, si, ei⟩
      have h1i := sqTS si h1
      have h2i := sqTS si h2
      walk_at "r"
      refine r_catT h1i h2i (by show 4 ≤ _; decide) (fun z => by cases z) (fun z => by cases z) fun p1 Ha na sa ea => ?_
      replace ea : Ha p1 = some (.tup [.int a, .int b, .int c, .int d]) := ea
      walk_at "r"
      refine lk_mapT (modV (nUn tri)) (SqT.of ea) (by show 4 ≤ 100000; decide) (fun _ => rfl) (fun x hx H2 s2 Q' q => ?_) fun p2 Hb nb sb eb => ?_
      · have : ∃ y, x = .int y := by
          simp only [List.mem_cons, List.not_mem_nil, or_false] at hx
          rcases hx with h | h | h | h <;> exact ⟨_, h⟩
        obtain ⟨y, rfl⟩ := this
        walk_at "r"
        exact q
      replace eb : Hb p2 = some (.lst ((plc (nUn tri) a b c d).map V.int)) := eb
      have Sb := (si.trans sa).trans sb
      walk_at "ra"
      refine ⟨p2, plc (nUn tri) a b c d, rfl, SqL.of eb, by show 4 < 64; decide, ?_⟩
      have em := sb _ _ (sa _ _ ei)
      unfold doAlt at k
      walk_at "ra"
      rw [int_dec]
      refine r_it2 (fun z => ?_) (fun z => ?_)
      · walk_at "ra"
        refine r_newL (by walk_at "len") fun p3 Hc nc sc ec => ?_
        walk_at "ra"
        refine r_newL (by walk_at "len") fun p4 Hd nd sd ed => ?_
        walk_at "ra"
        refine r_newT (by walk_at "len") fun p5 He ne se ee => ?_
        have ec' := se _ _ (sd _ _ ec)
        have ed' := se _ _ ed
        have em' := se _ _ (sd _ _ (sc _ _ em))
        walk_at "ra"
        refine ⟨.list ((metTo (nUn tri) a b c d (nUn tri).toNat).map .int), [.list ([0, 1, 0, 1].map .int), .list ([1, 0, 1, 0].map .int)], .lst (SqL.of em') (dpInts _), .tup (SqT.of ee) (.cons (.lst (SqL.of ec') (dpInts [0, 1, 0, 1])) (.cons (.lst (SqL.of ed') (dpInts [1, 0, 1, 0])) .nil)), shapedInts _, rfl, ?_⟩
        have k' := k _ (((Sb.trans sc).trans sd).trans se)
        have z' : decide ((PyProof.Rows.firstMet (fun i => (plc (nUn tri) a b c d).getD i 0) (plc (nUn tri) a b c d).length).length = 4) = true := by
          rw [decide_eq_true_iff] at z ⊢
          omega
        rw [z'] at k'
        rw [List.any_cons, List.any_cons, List.any_nil, eqvInts, eqvInts, Bool.or_false]
        exact k'
      · have z' : decide ((PyProof.Rows.firstMet (fun i => (plc (nUn tri) a b c d).getD i 0) (plc (nUn tri) a b c d).length).length = 4) = false := by
          rw [decide_eq_false_iff_not] at z ⊢
          omega
        rw [z'] at k
        walk_at "ra"
        exact k _ Sb
end

end Law

set_option Elab.async false
set_option maxRecDepth 100000
set_option maxHeartbeats 4000000
set_option linter.all false
namespace Law
open PySem L2 Gl
local macro_rules | `(tactic| walk_at "lk") => `(tactic| first
  | assumption
  | (with_reducible exact upd_same)
  | ((with_reducible refine' Gl.lk_ne ?nlk ?lkk); (case nlk => walk_at "ne"); (case lkk => walk_at "lk")))
local macro_rules | `(tactic| walk_at "ne") => `(tactic| first
  | assumption
  | exact Ne.symm (by assumption)
  | exact ne_of_none (by assumption) (by assumption)
  | exact (ne_of_none (by assumption) (by assumption)).symm)
local macro_rules | `(tactic| walk_at "sq") => `(tactic| first
  | assumption
  | ((with_reducible refine' SqL.of ?hlk); (case hlk => walk_at "lk"))
  | ((with_reducible refine' SqT.of ?hlk); (case hlk => walk_at "lk")))
local macro_rules | `(tactic| walk_at "at") => `(tactic| first
  | exact at_0
  | exact at_1
  | exact at_2
  | exact at_3
  | exact ix_0
  | exact ix_1
  | exact ix_2
  | exact rfl
  | assumption)
local macro_rules | `(tactic| walk_at "len") => `(tactic| first
  | (simp only [List.length_cons, List.length_nil]; decide)
  | (refine Nat.le_trans (?_ : _ ≤ 1000) (by decide); first | assumption | omega | (simp; omega)))
local macro_rules | `(tactic| walk_at "lenlt") => `(tactic| first
  | (refine Nat.lt_of_le_of_lt (?_ : _ ≤ 100000) (by decide); first | assumption | omega | (simp only [List.length_cons, List.length_nil, List.length_append]; omega) | (simp; omega)))
local macro_rules | `(tactic| walk_at "kd") => `(tactic| first
  | assumption
  | exact Knd.non
  | exact Knd.bl _
  | exact Knd.int _
  | exact Knd.str _
  | ((with_reducible refine' Knd.tup ?hlk); (case hlk => walk_at "sq"))
  | ((with_reducible refine' Knd.lst ?hlk); (case hlk => walk_at "sq"))
  | ((with_reducible refine' Knd.dK ?hlk); (case hlk => walk_at "lk")))
local macro_rules | `(tactic| walk_at "om") => `(tactic| first | omega | decide | decide +kernel)
local macro_rules | `(tactic| walk_at "side") => `(tactic| first
  | assumption
  | (with_reducible refine Gl.cdiv ?_ ?_ <;> first | omega | decide +kernel)
  | (with_reducible refine Gl.cmulL ?_ ?_ <;> first | omega | decide +kernel)
  | (with_reducible refine Gl.cmulR ?_ ?_ <;> first | omega | decide +kernel)
  | (refine Nat.le_trans (?_ : _ ≤ 1000) (by decide); first | assumption | omega | (simp only [List.length_cons, List.length_nil]; omega))
  | (show (0 : Int) < _; omega)
  | (show (0 : Int) < _; decide +kernel)
  | (exact Or.inr (by unfold CMulW; decide +kernel))
  | (exact ⟨by decide, by decide +kernel⟩))
local macro_rules | `(tactic| walk_at "r1") => `(tactic| first
  | ((with_reducible refine' Gl.r_var ?hv ?_); (case hv => exact rfl))
  | (with_reducible refine Gl.r_c ?_)
  | (with_reducible refine Gl.r_op ?_)
  | (with_reducible refine Gl.r_i0 ?_)
  | ((with_reducible refine Gl.r_i ?hc ?_); (case hc => walk_at "side"))
  | (with_reducible refine Gl.r_cons ?_)
  | (with_reducible refine Gl.r_nil ?_)
  | (with_reducible refine Gl.r_call ?_)
  | (with_reducible refine Gl.r_cb ?_)
  | (with_reducible refine Gl.r_seq ?_)
  | (with_reducible refine Gl.r_asg ?_)
  | (with_reducible refine Gl.r_gname ?_)
  | (with_reducible refine Gl.r_ret ?_)
  | (with_reducible refine Gl.r_if ?_)
  | (with_reducible refine Gl.r_test ?_)
  | (with_reducible refine Gl.r_bl ?_)
  | (with_reducible refine Gl.r_B ?_)
  | ((with_reducible refine Gl.r_eq ?hc ?_); (case hc => exact rfl))
  | ((with_reducible refine Gl.r_ne ?hc ?_); (case hc => exact rfl))
  | ((with_reducible refine' Gl.r_ixL ?hs ?hi ?_); (case hs => walk_at "sq"); (case hi => walk_at "at"))
  | ((with_reducible refine' Gl.r_ixT ?hs ?hi ?_); (case hs => walk_at "sq"); (case hi => walk_at "at"))
  | (with_reducible refine Gl.r_un ?_)
  | (with_reducible refine Gl.r_u ?_)
  | (with_reducible refine Gl.r_notV ?_)
  | (with_reducible refine Gl.r_ifE ?_)
  | (with_reducible refine Gl.r_chain ?_)
  | (with_reducible refine Gl.r_and ?_)
  | (with_reducible refine Gl.r_or ?_)
  | (with_reducible refine Gl.r_not ?_)
  | (with_reducible refine Gl.r_par ?_)
  | (with_reducible refine Gl.r_next ?_)
  | (with_reducible refine Gl.r_brk ?_)
  | (with_reducible refine Gl.r_cont ?_)
  | (with_reducible refine Gl.r_drop ?_)
  | (with_reducible refine Gl.r_retN ?_)
  | (with_reducible refine Gl.r_gsub ?_)
  | ((with_reducible refine' Gl.r_setL ?hs ?hi ?_); (case hs => walk_at "lk"); (case hi => walk_at "at"))
  | (with_reducible refine Gl.r_gnil ?_)
  | (with_reducible refine Gl.r_gcons ?_)
  | ((with_reducible refine' Gl.r_gtup ?hs ?hi ?_); (case hs => walk_at "sq"); (case hi => walk_at "at"))
  | (with_reducible refine Gl.r_tup ?_)
  | (with_reducible refine Gl.r_lst ?_)
  | (with_reducible refine Gl.r_bm ?_)
  | (with_reducible refine Gl.r_bm0 ?_)
  | (with_reducible refine Gl.r_yes ?_)
  | ((with_reducible refine Gl.r_wipe ?hs ?_); (case hs => exact rfl))
  | ((with_reducible refine' Gl.r_tyL ?hs ?_); (case hs => walk_at "sq"))
  | ((with_reducible refine' Gl.r_app ?hs ?hi ?_); (case hs => walk_at "lk"); (case hi => walk_at "lenlt"))
  | (with_reducible refine Gl.r_isB ?_)
  | (with_reducible refine Gl.r_notB ?_)
  | (with_reducible refine Gl.r_sl ?_)
  | (with_reducible refine Gl.r_noPart ?_)
  | (with_reducible refine Gl.r_part ?_)
  | (with_reducible refine Gl.r_partK ?_)
  | (with_reducible refine Gl.r_enum ?_)
  | ((with_reducible refine' Gl.r_enk ?hs ?_); (case hs => walk_at "sq"))
  | (with_reducible refine Gl.r_for ?_)
  | (with_reducible refine Gl.r_lc ?_)
  | (with_reducible refine Gl.r_rng1 ?_)
  | ((with_reducible refine Gl.r_rng1k ?hs ?hi ?_); (case hs => walk_at "om"); (case hi => walk_at "om"))
  | (with_reducible refine Gl.r_rng2 ?_)
  | ((with_reducible refine Gl.r_rng2k ?hs ?hi ?hs2 ?hi2 ?_); (case hs => walk_at "om"); (case hi => walk_at "om"); (case hs2 => walk_at "om"); (case hi2 => walk_at "om"))
  | (with_reducible refine Gl.r_iList ?_)
  | (with_reducible refine Gl.r_iTup ?_)
  | (with_reducible refine Gl.r_iStr ?_)
  | (with_reducible refine Gl.r_iSk ?_)
  | ((with_reducible refine' Gl.r_iLk ?hs ?_); (case hs => walk_at "sq"))
  | ((with_reducible refine' Gl.r_iTk ?hs ?_); (case hs => walk_at "sq"))
  | ((with_reducible refine' Gl.r_lenL ?hs ?_); (case hs => walk_at "sq"))
  | ((with_reducible refine' Gl.r_lenT ?hs ?_); (case hs => walk_at "sq"))
  | ((with_reducible refine' Gl.r_lenS ?hs ?_); (case hs => walk_at "side"))
  | ((with_reducible refine' Gl.r_isiT ?hs ?hi ?hj ?_); (case hs => walk_at "kd"); (case hi => decide); (case hj => decide))
  | ((with_reducible refine' Gl.r_isiF ?hs ?hi ?hj ?_); (case hs => walk_at "kd"); (case hi => decide); (case hj => decide))
  | (with_reducible refine iteT ?_)
  | (with_reducible refine iteF ?_)
  | (with_reducible refine Gl.iteNF ?_)
  | (with_reducible refine Gl.iteNT ?_)
  | (with_reducible refine Gl.e_oi ?_)
  | (with_reducible refine Gl.e_ob ?_)
  | (with_reducible refine Gl.e_i ?_)
  | (with_reducible refine Gl.e_b ?_)
  | (with_reducible refine Gl.e_s ?_)
  | (with_reducible refine Gl.e_ii ?_)
  | (with_reducible refine Gl.e_vv ?_)
  | (with_reducible refine Gl.e_vvv ?_)
  | (with_reducible refine Gl.e_cs ?_)
  | (with_reducible refine Gl.e_ss ?_))
local macro_rules | `(tactic| walk_at "r") => `(tactic| repeat (walk_at "r1"))
local macro_rules | `(tactic| walk_at "ra") => `(tactic| repeat (first
  | (walk_at "r1")
  | (with_reducible refine Gl.r_andV ?_)
  | (with_reducible refine Gl.r_orV ?_)))
local macro_rules | `(tactic| walk_at "dp") => `(tactic| first
  | exact Dp.non
  | exact Dp.bl _
  | exact Dp.int _
  | exact Dp.str _
  | assumption
  | ((with_reducible refine' Dp.lst ?hlk ?hla); (case hlk => walk_at "sq"); (case hla => walk_at "dpa"))
  | ((with_reducible refine' Dp.tup ?hlk ?hla); (case hlk => walk_at "sq"); (case hla => walk_at "dpa")))
local macro_rules | `(tactic| walk_at "dpa") => `(tactic| first
  | exact DpAll.nil
  | assumption
  | ((with_reducible refine' DpAll.cons ?hlk ?hla); (case hlk => walk_at "dp"); (case hla => walk_at "dpa")))

local macro_rules | `(tactic| walk_at "cls") => `(tactic| first
  | exact Txt.sc_Grid (by assumption))
local macro_rules | `(tactic| walk_at "slot") => `(tactic| first
  | exact Txt.sl_Grid_own_name (by assumption)
  | exact Txt.sl_Grid_own_units (by assumption))
local macro_rules | `(tactic| walk_at "sq") => `(tactic| first
  | assumption
  | ((with_reducible refine' SqL.of ?hlk); (case hlk => walk_at "lk"))
  | ((with_reducible refine' SqT.of ?hlk); (case hlk => walk_at "lk"))
  | exact Txt.t_GRIDS (by assumption) _
  | exact Txt.t_SQUARE_UNITS (by assumption) _
  | exact Txt.t_TRIANGLE_UNITS (by assumption) _
  | exact Txt.t_SQUARE_UNITS_0 (by assumption) _
  | exact Txt.t_SQUARE_UNITS_1 (by assumption) _
  | exact Txt.t_SQUARE_UNITS_2 (by assumption) _
  | exact Txt.t_SQUARE_UNITS_3 (by assumption) _
  | exact Txt.t_TRIANGLE_UNITS_0 (by assumption) _
  | exact Txt.t_TRIANGLE_UNITS_1 (by assumption) _
  | exact Txt.t_TRIANGLE_UNITS_2 (by assumption) _
  | exact Txt.t_TRIANGLE_UNITS_3 (by assumption) _
  | exact Txt.t_TRIANGLE_UNITS_4 (by assumption) _
  | exact Txt.t_TRIANGLE_UNITS_5 (by assumption) _)
local macro_rules | `(tactic| walk_at "slt") => `(tactic| first
  | assumption
  | exact Gl.sltS (by assumption) (by assumption))
local macro_rules | `(tactic| walk_at "fl") => `(tactic| first | exact rfl | decide)
local macro_rules | `(tactic| walk_at "r2") => `(tactic| first
  | (with_reducible refine Gl.r_slE ?_)
  | ((with_reducible refine' Gl.r_slGet ?h1 ?h2 ?h3 ?h4 ?_); (case h1 => walk_at "slt"); (case h2 => walk_at "cls"); (case h3 => walk_at "slot"); (case h4 => exact rfl))
  | (with_reducible refine Gl.r_slS ?_)
  | ((with_reducible refine' Gl.r_slSet ?h1 ?h2 ?h3 ?_); (case h1 => walk_at "slt"); (case h2 => walk_at "cls"); (case h3 => walk_at "slot"))
  | (with_reducible refine Gl.r_methE ?_)
  | ((with_reducible refine' Gl.r_meth ?h1 ?_); (case h1 => walk_at "slt"))
  | (with_reducible refine Gl.r_propE ?_)
  | ((with_reducible refine' Gl.r_prop ?h1 ?_); (case h1 => walk_at "slt"))
  | (with_reducible refine Gl.r_makeE ?_)
  | ((with_reducible refine' Gl.r_inT ?h1 ?h2 ?h3 ?_); (case h1 => walk_at "sq"); (case h2 => walk_at "fl"); (case h3 => walk_at "fl"))
  | ((with_reducible refine' Gl.r_ninT ?h1 ?h2 ?h3 ?_); (case h1 => walk_at "sq"); (case h2 => walk_at "fl"); (case h3 => walk_at "fl"))
  | (with_reducible refine Gl.r_dgetE ?_)
  | ((with_reducible refine' Gl.r_dgetS ?h1 ?h2 ?_); (case h1 => walk_at "lk"); (case h2 => first | assumption | exact rfl | decide))
  | ((with_reducible refine' Gl.r_dgetI ?h1 ?h2 ?_); (case h1 => walk_at "lk"); (case h2 => first | assumption | exact rfl | decide))
  | ((with_reducible refine' Gl.r_i ?hc ?_); (case hc => exact Gl.cmulS (by assumption) (by assumption))))
local macro_rules | `(tactic| walk_at "r") => `(tactic| repeat (first | (walk_at "r1") | (walk_at "r2")))
local macro_rules | `(tactic| walk_at "ra") => `(tactic| repeat (first
  | (walk_at "r1")
  | (walk_at "r2")
  | (with_reducible refine Gl.r_andV ?_)
  | (with_reducible refine Gl.r_orV ?_)))
local macro_rules | `(tactic| walk_at "r3") => `(tactic| first
  | (with_reducible refine Gl.r_par3 ?_)
  | (with_reducible refine Gl.r_lenX ?_)
  | (with_reducible refine Gl.r_lenXK ?_)
  | (with_reducible refine Gl.r_lenSetD ?_)
  | (with_reducible refine Gl.r_star ?_)
  | ((with_reducible refine' Gl.r_starT ?h1 ?_); (case h1 => walk_at "sq"))
  | ((with_reducible refine' Gl.r_starL ?h1 ?_); (case h1 => walk_at "sq"))
  | ((with_reducible refine' Gl.r_lenOwn ?h1 ?_); (case h1 => walk_at "slt"))
  | ((with_reducible refine' Gl.r_unl ?h1 ?h2 ?_); (case h1 => walk_at "sq"); (case h2 => exact rfl))
  | ((with_reducible refine' Gl.r_ext ?h1 ?h2 ?h3 ?_); (case h1 => walk_at "lk"); (case h2 => walk_at "lk"); (case h3 => walk_at "len")))
local macro_rules | `(tactic| walk_at "r") => `(tactic| repeat (first | (walk_at "r1") | (walk_at "r2") | (walk_at "r3")))
local macro_rules | `(tactic| walk_at "ra") => `(tactic| repeat (first
  | (walk_at "r1")
  | (walk_at "r2")
  | (walk_at "r3")
  | (with_reducible refine Gl.r_andV ?_)
  | (with_reducible refine Gl.r_orV ?_)))

/-! ### the algebra of points -/
theorem mulX_comm (a b c d : Int) : mulX c d a b = mulX a b c d := by unfold mulX; grind
theorem mulY_comm (tri : Bool) (a b c d : Int) : mulY tri c d a b = mulY tri a b c d := by unfold mulY; cases tri <;> grind
theorem nrm_mul (tri : Bool) (a b c d : Int) : nrm tri (mulX a b c d) (mulY tri a b c d) = nrm tri a b * nrm tri c d := by
  unfold nrm mulX mulY; cases tri <;> simp only [if_true, Bool.false_eq_true, if_false] <;> grind
theorem conj2 (tri : Bool) (a b : Int) : flX tri (flX tri a b) (-b) = a := by unfold flX; cases tri <;> grind
theorem self_conj (tri : Bool) (a b : Int) : mulX a b (flX tri a b) (-b) = nrm tri a b ∧ mulY tri a b (flX tri a b) (-b) = 0 := by
  unfold nrm mulX mulY flX; cases tri <;> simp only [if_true, Bool.false_eq_true, if_false] <;> constructor <;> grind
theorem conj_mul (tri : Bool) (a b c d : Int) : flX tri (mulX a b c d) (mulY tri a b c d) = mulX (flX tri a b) (-b) (flX tri c d) (-d) ∧ -(mulY tri a b c d) = mulY tri (flX tri a b) (-b) (flX tri c d) (-d) := by
  unfold mulX mulY flX; cases tri <;> simp only [if_true, Bool.false_eq_true, if_false] <;> constructor <;> grind
theorem assoc (tri : Bool) (a b c d e f : Int) : mulX (mulX a b c d) (mulY tri a b c d) e f = mulX a b (mulX c d e f) (mulY tri c d e f) ∧
    mulY tri (mulX a b c d) (mulY tri a b c d) e f = mulY tri a b (mulX c d e f) (mulY tri c d e f) := by
  unfold mulX mulY; cases tri <;> simp only [if_true, Bool.false_eq_true, if_false] <;> constructor <;> grind
theorem dist (tri : Bool) (a b c d e f : Int) : mulX (a + c) (b + d) e f = mulX a b e f + mulX c d e f ∧ mulY tri (a + c) (b + d) e f = mulY tri a b e f + mulY tri c d e f := by
  unfold mulX mulY; cases tri <;> simp only [if_true, Bool.false_eq_true, if_false] <;> constructor <;> grind
/-- times the divisor and its conjugate -/
theorem back (tri : Bool) (x y c d : Int) : mulX (mulX x y c d) (mulY tri x y c d) (flX tri c d) (-d) = x * nrm tri c d ∧ mulY tri (mulX x y c d) (mulY tri x y c d) (flX tri c d) (-d) = y * nrm tri c d := by
  unfold nrm mulX mulY flX; cases tri <;> simp only [if_true, Bool.false_eq_true, if_false] <;> constructor <;> grind
/-- (p * conj d) * d = N p -/
theorem forth (tri : Bool) (a b c d : Int) : mulX (mulX a b (flX tri c d) (-d)) (mulY tri a b (flX tri c d) (-d)) c d = nrm tri c d * a ∧ mulY tri (mulX a b (flX tri c d) (-d)) (mulY tri a b (flX tri c d) (-d)) c d = nrm tri c d * b := by
  unfold nrm mulX mulY flX; cases tri <;> simp only [if_true, Bool.false_eq_true, if_false] <;> constructor <;> grind
theorem scale (tri : Bool) (n x y c d : Int) : mulX (n * x) (n * y) c d = n * mulX x y c d ∧ mulY tri (n * x) (n * y) c d = n * mulY tri x y c d := by
  unfold mulX mulY; cases tri <;> simp only [if_true, Bool.false_eq_true, if_false] <;> constructor <;> grind
theorem nrm_pos (tri : Bool) (c d : Int) (h : ¬ (c = 0 ∧ d = 0)) : 0 < nrm tri c d := by
  have sq : ∀ x : Int, 0 ≤ x * x := fun x => by
    rcases Int.le_total 0 x with h | h
    · exact Int.mul_nonneg h h
    · have := Int.mul_nonneg (Int.neg_nonneg_of_nonpos h) (Int.neg_nonneg_of_nonpos h)
      rwa [Int.neg_mul_neg] at this
  have sp : ∀ x : Int, x ≠ 0 → 0 < x * x := fun x hx => by
    have h1 := sq x
    have h2 : x * x ≠ 0 := fun z => hx ((Int.mul_eq_zero.mp z).elim id id)
    omega
  unfold nrm
  cases tri with
  | false =>
    simp only [Bool.false_eq_true, if_false]
    by_cases hc : c = 0
    · have := sp d (fun z => h ⟨hc, z⟩); have := sq c; omega
    · have := sp c hc; have := sq d; omega
  | true =>
    simp only [if_true]
    have e : 2 * (c * c + d * d + c * d) = c * c + d * d + (c + d) * (c + d) := by grind
    have h3 := sq (c + d)
    by_cases hc : c = 0
    · have := sp d (fun z => h ⟨hc, z⟩); have := sq c; omega
    · have := sp c hc; have := sq d; omega
/-- a quotient is one exactly if it is whole -/
theorem quot_yes {tri : Bool} {a b c d : Int} (h : ¬ (c = 0 ∧ d = 0)) (z1 : mulX a b (flX tri c d) (-d) % nrm tri c d = 0) (z2 : mulY tri a b (flX tri c d) (-d) % nrm tri c d = 0) :
    mulX (mulX a b (flX tri c d) (-d) / nrm tri c d) (mulY tri a b (flX tri c d) (-d) / nrm tri c d) c d = a ∧ mulY tri (mulX a b (flX tri c d) (-d) / nrm tri c d) (mulY tri a b (flX tri c d) (-d) / nrm tri c d) c d = b := by
  have n0 := nrm_pos tri c d h
  have f := forth tri a b c d
  generalize hX : mulX a b (flX tri c d) (-d) = X at *
  generalize hY : mulY tri a b (flX tri c d) (-d) = Y at *
  generalize hN : nrm tri c d = N at *
  have e1 : X = N * (X / N) := by have := Int.emod_add_mul_ediv X N; omega
  have e2 : Y = N * (Y / N) := by have := Int.emod_add_mul_ediv Y N; omega
  have s := scale tri N (X / N) (Y / N) c d
  rw [← e1, ← e2] at s
  have g1 : N * mulX (X / N) (Y / N) c d = N * a := s.1.symm.trans f.1
  have g2 : N * mulY tri (X / N) (Y / N) c d = N * b := s.2.symm.trans f.2
  exact ⟨Int.eq_of_mul_eq_mul_left (by omega) g1, Int.eq_of_mul_eq_mul_left (by omega) g2⟩
theorem quot_only {tri : Bool} {a b c d x y : Int} (h : ¬ (c = 0 ∧ d = 0)) (e1 : mulX x y c d = a) (e2 : mulY tri x y c d = b) :
    (mulX a b (flX tri c d) (-d) % nrm tri c d = 0 ∧ mulY tri a b (flX tri c d) (-d) % nrm tri c d = 0) ∧ x = mulX a b (flX tri c d) (-d) / nrm tri c d ∧ y = mulY tri a b (flX tri c d) (-d) / nrm tri c d := by
  have n0 := nrm_pos tri c d h
  have f := back tri x y c d
  rw [e1, e2] at f
  rw [f.1, f.2]
  have nz : nrm tri c d ≠ 0 := by omega
  exact ⟨⟨Int.mul_emod_left _ _, Int.mul_emod_left _ _⟩, (Int.mul_ediv_cancel _ nz).symm, (Int.mul_ediv_cancel _ nz).symm⟩

/-! ### bounds, by figures -/
def Bd (n : Nat) (x : Int) : Prop := x.natAbs < 10 ^ n
theorem Bd.up {n m : Nat} {x : Int} (h : Bd n x) (e : n ≤ m) : Bd m x := Nat.lt_of_lt_of_le h (Nat.pow_le_pow_right (by decide) e)
theorem bd3 (n : Nat) : 3 * (10 ^ n * 10 ^ n) ≤ 10 ^ (2 * n + 1) := by
  rw [Nat.pow_succ, Nat.two_mul, Nat.pow_add]
  omega
theorem bd2 (n : Nat) : 2 * 10 ^ n ≤ 10 ^ (n + 1) := by
  rw [Nat.pow_succ]; omega
theorem Bd.mulX {n : Nat} {a b c d : Int} (ha : Bd n a) (hb : Bd n b) (hc : Bd n c) (hd : Bd n d) : Bd (2 * n + 1) (mulX a b c d) := Nat.lt_of_lt_of_le (mulX_lt ha hb hc hd) (bd3 n)
theorem Bd.mulY {n : Nat} {tri : Bool} {a b c d : Int} (ha : Bd n a) (hb : Bd n b) (hc : Bd n c) (hd : Bd n d) : Bd (2 * n + 1) (mulY tri a b c d) := Nat.lt_of_lt_of_le (mulY_lt ha hb hc hd) (bd3 n)
theorem Bd.nrm {n : Nat} {tri : Bool} {a b : Int} (ha : Bd n a) (hb : Bd n b) : Bd (2 * n + 1) (nrm tri a b) := Nat.lt_of_lt_of_le (nrm_lt ha hb) (bd3 n)
theorem Bd.flX {n : Nat} {tri : Bool} {a b : Int} (ha : Bd n a) (hb : Bd n b) : Bd (n + 1) (flX tri a b) := Nat.lt_of_lt_of_le (flX_lt ha hb) (bd2 n)
theorem Bd.add {n : Nat} {a b : Int} (ha : Bd n a) (hb : Bd n b) : Bd (n + 1) (a + b) := by
  refine Nat.lt_of_lt_of_le ?_ (bd2 n)
  unfold Bd at ha hb
  generalize 10 ^ n = B at *
  omega
theorem Bd.neg {n : Nat} {a : Int} (ha : Bd n a) : Bd n (-a) := by
  unfold Bd; rw [Int.natAbs_neg]; exact ha
theorem Bd.isI {n : Nat} {a : Int} (ha : Bd n a) (e : n ≤ 400) : IsI a := isI_lt.mpr (ha.up e)
theorem Bd.sm {n : Nat} {a : Int} (ha : Bd n a) (e : n ≤ 400) : Sm a := sm_isI (ha.isI e)
theorem Bd.div {n : Nat} {a b : Int} (ha : Bd n a) (hb : 0 < b) : Bd (n + 1) (a / b) := by
  refine Nat.lt_of_lt_of_le ?_ (bd2 n)
  unfold Bd at ha
  have e : (a / b).natAbs ≤ a.natAbs := Int.natAbs_ediv_le_natAbs a b
  generalize 10 ^ n = B at *
  omega
theorem Bd.wide {n : Nat} {a : Int} (ha : Bd n a) (e : n ≤ 4300) : a.natAbs < 10 ^ 4300 := ha.up e
theorem bd20 {x : Int} (h : x.natAbs ≤ 20) : Bd 2 x := Nat.lt_of_le_of_lt h (by decide)

theorem eqv_pt (a b c d : Int) : PyData.eqv (.tuple [.int a, .int b]) (.tuple [.int c, .int d]) = (decide (a = c) && decide (b = d)) := by
  have e : PyData.eqv (.tuple [.int a, .int b]) (.tuple [.int c, .int d]) = ((a == c) && ((b == d) && true)) := by
    simp only [PyData.eqv, PyData.eqvAll]
  rw [e, Bool.and_true, Bool.beq_eq_decide_eq, Bool.beq_eq_decide_eq]
theorem r_eqPt {K : PySem.W.Frag} {H : Hp} {v1 v2 : V} {a b c d : Int} {Q : VK} (h1 : PtAt K H v1 a b) (h2 : PtAt K H v2 c d) (h : Q (.bl (decide (a = c) && decide (b = d))) H) : rEqD K v1 v2 H Q :=
  ⟨_, _, h1.dp, h2.dp, rfl, rfl, by rw [eqv_pt]; exact h⟩
theorem r_nePt {K : PySem.W.Frag} {H : Hp} {v1 v2 : V} {a b c d : Int} {Q : VK} (h1 : PtAt K H v1 a b) (h2 : PtAt K H v2 c d) (h : Q (.bl (!(decide (a = c) && decide (b = d)))) H) : rNeD K v1 v2 H Q :=
  ⟨_, _, h1.dp, h2.dp, rfl, rfl, by rw [eqv_pt]; exact h⟩
theorem r_eqPtT {K : PySem.W.Frag} {H : Hp} {v1 v2 : V} {a b c d : Int} {Q : VK} (h1 : PtAt K H v1 a b) (h2 : PtAt K H v2 c d) (e1 : a = c) (e2 : b = d) (h : Q (.bl true) H) : rEqD K v1 v2 H Q := by
  refine r_eqPt h1 h2 ?_
  rw [decide_eq_true e1, decide_eq_true e2]
  exact h
theorem r_nePtF {K : PySem.W.Frag} {H : Hp} {v1 v2 : V} {a b c d : Int} {Q : VK} (h1 : PtAt K H v1 a b) (h2 : PtAt K H v2 c d) (e1 : a = c) (e2 : b = d) (h : Q (.bl false) H) : rNeD K v1 v2 H Q := by
  refine r_nePt h1 h2 ?_
  rw [decide_eq_true e1, decide_eq_true e2]
  exact h

/-! ### turning -/
def rX (tri : Bool) (a b n : Int) : Int := mulX a b (uX tri (n % nUn tri)) (uY tri (n % nUn tri))
def rY (tri : Bool) (a b n : Int) : Int := mulY tri a b (uX tri (n % nUn tri)) (uY tri (n % nUn tri))
theorem all_r {tri : Bool} {n : Int} {Q : Bool → Int → Prop} (h4 : ∀ r : Fin 4, Q false r.val) (h6 : ∀ r : Fin 6, Q true r.val) : Q tri (n % nUn tri) := by
  have m := mod_in tri n
  cases tri
  · have e := h4 ⟨(n % nUn false).toNat, by change 0 ≤ n % 4 ∧ n % 4 < 4 at m; show (n % 4).toNat < 4; omega⟩
    rwa [show (((n % nUn false).toNat : Nat) : Int) = n % nUn false from Int.toNat_of_nonneg m.1] at e
  · have e := h6 ⟨(n % nUn true).toNat, by change 0 ≤ n % 6 ∧ n % 6 < 6 at m; show (n % 6).toNat < 6; omega⟩
    rwa [show (((n % nUn true).toNat : Nat) : Int) = n % nUn true from Int.toNat_of_nonneg m.1] at e
theorem nrm_u (tri : Bool) (n : Int) : nrm tri (uX tri (n % nUn tri)) (uY tri (n % nUn tri)) = 1 :=
  all_r (Q := fun tri r => nrm tri (uX tri r) (uY tri r) = 1) (by decide +kernel) (by decide +kernel)
theorem nrm_r (tri : Bool) (a b n : Int) : nrm tri (rX tri a b n) (rY tri a b n) = nrm tri a b := by
  unfold rX rY
  rw [nrm_mul, nrm_u, Int.mul_one]
theorem u_add (tri : Bool) (m n : Int) : mulX (uX tri (m % nUn tri)) (uY tri (m % nUn tri)) (uX tri (n % nUn tri)) (uY tri (n % nUn tri)) = uX tri ((m + n) % nUn tri) ∧ mulY tri (uX tri (m % nUn tri)) (uY tri (m % nUn tri)) (uX tri (n % nUn tri)) (uY tri (n % nUn tri)) = uY tri ((m + n) % nUn tri) := by
  rw [Int.add_emod]
  exact all_r (tri := tri) (n := m) (Q := fun tri r => mulX (uX tri r) (uY tri r) (uX tri (n % nUn tri)) (uY tri (n % nUn tri)) = uX tri ((r + n % nUn tri) % nUn tri) ∧ mulY tri (uX tri r) (uY tri r) (uX tri (n % nUn tri)) (uY tri (n % nUn tri)) = uY tri ((r + n % nUn tri) % nUn tri))
    (fun r => all_r (tri := false) (n := n) (Q := fun tri s => tri = false → mulX (uX false r.val) (uY false r.val) (uX false s) (uY false s) = uX false ((r.val + s) % nUn false) ∧ mulY false (uX false r.val) (uY false r.val) (uX false s) (uY false s) = uY false ((r.val + s) % nUn false)) (fun s _ => by revert r s; decide +kernel) (fun s z => by cases z) rfl)
    (fun r => all_r (tri := true) (n := n) (Q := fun tri s => tri = true → mulX (uX true r.val) (uY true r.val) (uX true s) (uY true s) = uX true ((r.val + s) % nUn true) ∧ mulY true (uX true r.val) (uY true r.val) (uX true s) (uY true s) = uY true ((r.val + s) % nUn true)) (fun s z => by cases z) (fun s _ => by revert r s; decide +kernel) rfl)
theorem r_add (tri : Bool) (a b m n : Int) : rX tri (rX tri a b m) (rY tri a b m) n = rX tri a b (m + n) ∧ rY tri (rX tri a b m) (rY tri a b m) n = rY tri a b (m + n) := by
  unfold rX rY
  have h := assoc tri a b (uX tri (m % nUn tri)) (uY tri (m % nUn tri)) (uX tri (n % nUn tri)) (uY tri (n % nUn tri))
  rw [(u_add tri m n).1, (u_add tri m n).2] at h
  exact h
theorem r_mod (tri : Bool) (a b n : Int) : rX tri a b (n % nUn tri) = rX tri a b n ∧ rY tri a b (n % nUn tri) = rY tri a b n := by
  unfold rX rY
  rw [Int.emod_emod_of_dvd _ (Int.dvd_refl _)]
  exact ⟨rfl, rfl⟩
theorem r_one (tri : Bool) (a b : Int) : rX tri a b (nUn tri) = a ∧ rY tri a b (nUn tri) = b := by
  unfold rX rY mulX mulY
  rw [Int.emod_self]
  cases tri <;> simp [uX, uY]
theorem r_half (tri : Bool) (a b : Int) : rX tri a b (nUn tri / 2) = 0 - a ∧ rY tri a b (nUn tri / 2) = 0 - b := by
  unfold rX rY mulX mulY
  cases tri <;> simp [uX, uY, nUn]
theorem u_conj (tri : Bool) (n : Int) : flX tri (uX tri (n % nUn tri)) (uY tri (n % nUn tri)) = uX tri ((0 - n) % nUn tri) ∧ -(uY tri (n % nUn tri)) = uY tri ((0 - n) % nUn tri) := by
  have e : (0 - n) % nUn tri = (0 - n % nUn tri) % nUn tri := by rw [Int.sub_emod, Int.sub_emod 0 (n % nUn tri), Int.emod_emod_of_dvd _ (Int.dvd_refl _)]
  rw [e]
  exact all_r (tri := tri) (n := n) (Q := fun tri r => flX tri (uX tri r) (uY tri r) = uX tri ((0 - r) % nUn tri) ∧ -(uY tri r) = uY tri ((0 - r) % nUn tri)) (by decide +kernel) (by decide +kernel)
theorem r_conj (tri : Bool) (a b n : Int) : flX tri (rX tri (flX tri a b) (-b) n) (rY tri (flX tri a b) (-b) n) = rX tri a b (0 - n) ∧ -(rY tri (flX tri a b) (-b) n) = rY tri a b (0 - n) := by
  have h := conj_mul tri (flX tri a b) (-b) (uX tri (n % nUn tri)) (uY tri (n % nUn tri))
  rw [conj2, Int.neg_neg, (u_conj tri n).1, (u_conj tri n).2] at h
  exact h
theorem r_id (tri : Bool) (n : Int) : rX tri 1 0 n = uX tri (n % nUn tri) ∧ rY tri 1 0 n = uY tri (n % nUn tri) := by
  unfold rX rY mulX mulY
  cases tri <;> constructor <;> simp
theorem Bd.u (tri : Bool) (r : Int) : Bd 1 (uX tri r) ∧ Bd 1 (uY tri r) := by
  have h : ∀ x : Int, x = 0 ∨ x = 1 ∨ x = -1 → Bd 1 x := fun x hx => by show x.natAbs < 10 ^ 1; omega
  constructor
  · refine h _ ?_
    unfold uX; repeat' split
    all_goals omega
  · refine h _ ?_
    unfold uY; repeat' split
    all_goals omega
theorem Bd.r {k : Nat} {tri : Bool} {a b : Int} (n : Int) (ha : Bd k a) (hb : Bd k b) (hk : 1 ≤ k) : Bd (2 * k + 1) (rX tri a b n) ∧ Bd (2 * k + 1) (rY tri a b n) :=
  ⟨Bd.mulX ha hb ((Bd.u _ _).1.up hk) ((Bd.u _ _).2.up hk), Bd.mulY ha hb ((Bd.u _ _).1.up hk) ((Bd.u _ _).2.up hk)⟩
/-! ### pairs -/
def goodP (n a b c d : Int) : Bool := (alt n a b c d == doAlt n a b c d) && (alt n c d a b == doAlt n a b c d) && (alt n b a c d == doAlt n a b c d) && (alt n (0 - a) (0 - b) (0 - c) (0 - d) == doAlt n a b c d)
theorem good4 : ∀ a b c d : Fin 4, goodP 4 a.val b.val c.val d.val = true := by decide +kernel
theorem good6 : ∀ a b c d : Fin 6, goodP 6 a.val b.val c.val d.val = true := by decide +kernel
theorem goodN (tri : Bool) {a b c d : Int} (ha : 0 ≤ a ∧ a < nUn tri) (hb : 0 ≤ b ∧ b < nUn tri) (hc : 0 ≤ c ∧ c < nUn tri) (hd : 0 ≤ d ∧ d < nUn tri) : goodP (nUn tri) a b c d = true := by
  have e : ∀ x : Int, 0 ≤ x → ((x.toNat : Nat) : Int) = x := fun x h => Int.toNat_of_nonneg h
  cases tri
  · change 0 ≤ a ∧ a < 4 at ha
    change 0 ≤ b ∧ b < 4 at hb
    change 0 ≤ c ∧ c < 4 at hc
    change 0 ≤ d ∧ d < 4 at hd
    have h := good4 ⟨a.toNat, by omega⟩ ⟨b.toNat, by omega⟩ ⟨c.toNat, by omega⟩ ⟨d.toNat, by omega⟩
    rwa [e a ha.1, e b hb.1, e c hc.1, e d hd.1] at h
  · change 0 ≤ a ∧ a < 6 at ha
    change 0 ≤ b ∧ b < 6 at hb
    change 0 ≤ c ∧ c < 6 at hc
    change 0 ≤ d ∧ d < 6 at hd
    have h := good6 ⟨a.toNat, by omega⟩ ⟨b.toNat, by omega⟩ ⟨c.toNat, by omega⟩ ⟨d.toNat, by omega⟩
    rwa [e a ha.1, e b hb.1, e c hc.1, e d hd.1] at h
theorem alt_sh (tri : Bool) {s : Int} (a b c d : Int) (hs : s % nUn tri = 0) : alt (nUn tri) (a + s) b c (d - nUn tri) = alt (nUn tri) a b c d := by
  unfold alt
  cases tri
  · change s % 4 = 0 at hs
    show altR ((b - (a + s)) % 4) ((c - (a + s)) % 4) ((d - 4 - (a + s)) % 4) = altR ((b - a) % 4) ((c - a) % 4) ((d - a) % 4)
    rw [show (b - (a + s)) % 4 = (b - a) % 4 by omega, show (c - (a + s)) % 4 = (c - a) % 4 by omega, show (d - 4 - (a + s)) % 4 = (d - a) % 4 by omega]
  · change s % 6 = 0 at hs
    show altR ((b - (a + s)) % 6) ((c - (a + s)) % 6) ((d - 6 - (a + s)) % 6) = altR ((b - a) % 6) ((c - a) % 6) ((d - a) % 6)
    rw [show (b - (a + s)) % 6 = (b - a) % 6 by omega, show (c - (a + s)) % 6 = (c - a) % 6 by omega, show (d - 6 - (a + s)) % 6 = (d - a) % 6 by omega]
theorem alt_pl (n a b c d : Int) : alt n (a + 1) (b + 1) (c + 1) (d + 1) = alt n a b c d := by
  unfold alt
  rw [show b + 1 - (a + 1) = b - a by omega, show c + 1 - (a + 1) = c - a by omega, show d + 1 - (a + 1) = d - a by omega]

end Law

set_option Elab.async false
set_option maxRecDepth 100000
set_option maxHeartbeats 4000000
set_option linter.all false
namespace Law
open PySem L2 Gl
local macro_rules | `(tactic| walk_at "lk") => `(tactic| first
  | assumption
  | (with_reducible exact upd_same)
  | ((with_reducible refine' Gl.lk_ne ?nlk ?lkk); (case nlk => walk_at "ne"); (case lkk => walk_at "lk")))
local macro_rules | `(tactic| walk_at "ne") => `(tactic| first
  | assumption
  | exact Ne.symm (by assumption)
  | exact ne_of_none (by assumption) (by assumption)
  | exact (ne_of_none (by assumption) (by assumption)).symm)
local macro_rules | `(tactic| walk_at "sq") => `(tactic| first
  | assumption
  | ((with_reducible refine' SqL.of ?hlk); (case hlk => walk_at "lk"))
  | ((with_reducible refine' SqT.of ?hlk); (case hlk => walk_at "lk")))
local macro_rules | `(tactic| walk_at "at") => `(tactic| first
  | exact at_0
  | exact at_1
  | exact at_2
  | exact at_3
  | exact ix_0
  | exact ix_1
  | exact ix_2
  | exact rfl
  | assumption)
local macro_rules | `(tactic| walk_at "len") => `(tactic| first
  | (simp only [List.length_cons, List.length_nil]; decide)
  | (refine Nat.le_trans (?_ : _ ≤ 1000) (by decide); first | assumption | omega | (simp; omega)))
local macro_rules | `(tactic| walk_at "lenlt") => `(tactic| first
  | (refine Nat.lt_of_le_of_lt (?_ : _ ≤ 100000) (by decide); first | assumption | omega | (simp only [List.length_cons, List.length_nil, List.length_append]; omega) | (simp; omega)))
local macro_rules | `(tactic| walk_at "kd") => `(tactic| first
  | assumption
  | exact Knd.non
  | exact Knd.bl _
  | exact Knd.int _
  | exact Knd.str _
  | ((with_reducible refine' Knd.tup ?hlk); (case hlk => walk_at "sq"))
  | ((with_reducible refine' Knd.lst ?hlk); (case hlk => walk_at "sq"))
  | ((with_reducible refine' Knd.dK ?hlk); (case hlk => walk_at "lk")))
local macro_rules | `(tactic| walk_at "om") => `(tactic| first | omega | decide | decide +kernel)
local macro_rules | `(tactic| walk_at "side") => `(tactic| first
  | assumption
  | (with_reducible refine Gl.cdiv ?_ ?_ <;> first | omega | decide +kernel)
  | (with_reducible refine Gl.cmulL ?_ ?_ <;> first | omega | decide +kernel)
  | (with_reducible refine Gl.cmulR ?_ ?_ <;> first | omega | decide +kernel)
  | (refine Nat.le_trans (?_ : _ ≤ 1000) (by decide); first | assumption | omega | (simp only [List.length_cons, List.length_nil]; omega))
  | (show (0 : Int) < _; omega)
  | (show (0 : Int) < _; decide +kernel)
  | (exact Or.inr (by unfold CMulW; decide +kernel))
  | (exact ⟨by decide, by decide +kernel⟩))
local macro_rules | `(tactic| walk_at "r1") => `(tactic| first
  | ((with_reducible refine' Gl.r_var ?hv ?_); (case hv => exact rfl))
  | (with_reducible refine Gl.r_c ?_)
  | (with_reducible refine Gl.r_op ?_)
  | (with_reducible refine Gl.r_i0 ?_)
  | ((with_reducible refine Gl.r_i ?hc ?_); (case hc => walk_at "side"))
  | (with_reducible refine Gl.r_cons ?_)
  | (with_reducible refine Gl.r_nil ?_)
  | (with_reducible refine Gl.r_call ?_)
  | (with_reducible refine Gl.r_cb ?_)
  | (with_reducible refine Gl.r_seq ?_)
  | (with_reducible refine Gl.r_asg ?_)
  | (with_reducible refine Gl.r_gname ?_)
  | (with_reducible refine Gl.r_ret ?_)
  | (with_reducible refine Gl.r_if ?_)
  | (with_reducible refine Gl.r_test ?_)
  | (with_reducible refine Gl.r_bl ?_)
  | (with_reducible refine Gl.r_B ?_)
  | ((with_reducible refine Gl.r_eq ?hc ?_); (case hc => exact rfl))
  | ((with_reducible refine Gl.r_ne ?hc ?_); (case hc => exact rfl))
  | ((with_reducible refine' Gl.r_ixL ?hs ?hi ?_); (case hs => walk_at "sq"); (case hi => walk_at "at"))
  | ((with_reducible refine' Gl.r_ixT ?hs ?hi ?_); (case hs => walk_at "sq"); (case hi => walk_at "at"))
  | (with_reducible refine Gl.r_un ?_)
  | (with_reducible refine Gl.r_u ?_)
  | (with_reducible refine Gl.r_notV ?_)
  | (with_reducible refine Gl.r_ifE ?_)
  | (with_reducible refine Gl.r_chain ?_)
  | (with_reducible refine Gl.r_and ?_)
  | (with_reducible refine Gl.r_or ?_)
  | (with_reducible refine Gl.r_not ?_)
  | (with_reducible refine Gl.r_par ?_)
  | (with_reducible refine Gl.r_next ?_)
  | (with_reducible refine Gl.r_brk ?_)
  | (with_reducible refine Gl.r_cont ?_)
  | (with_reducible refine Gl.r_drop ?_)
  | (with_reducible refine Gl.r_retN ?_)
  | (with_reducible refine Gl.r_gsub ?_)
  | ((with_reducible refine' Gl.r_setL ?hs ?hi ?_); (case hs => walk_at "lk"); (case hi => walk_at "at"))
  | (with_reducible refine Gl.r_gnil ?_)
  | (with_reducible refine Gl.r_gcons ?_)
  | ((with_reducible refine' Gl.r_gtup ?hs ?hi ?_); (case hs => walk_at "sq"); (case hi => walk_at "at"))
  | (with_reducible refine Gl.r_tup ?_)
  | (with_reducible refine Gl.r_lst ?_)
  | (with_reducible refine Gl.r_bm ?_)
  | (with_reducible refine Gl.r_bm0 ?_)
  | (with_reducible refine Gl.r_yes ?_)
  | ((with_reducible refine Gl.r_wipe ?hs ?_); (case hs => exact rfl))
  | ((with_reducible refine' Gl.r_tyL ?hs ?_); (case hs => walk_at "sq"))
  | ((with_reducible refine' Gl.r_app ?hs ?hi ?_); (case hs => walk_at "lk"); (case hi => walk_at "lenlt"))
  | (with_reducible refine Gl.r_isB ?_)
  | (with_reducible refine Gl.r_notB ?_)
  | (with_reducible refine Gl.r_sl ?_)
  | (with_reducible refine Gl.r_noPart ?_)
  | (with_reducible refine Gl.r_part ?_)
  | (with_reducible refine Gl.r_partK ?_)
  | (with_reducible refine Gl.r_enum ?_)
  | ((with_reducible refine' Gl.r_enk ?hs ?_); (case hs => walk_at "sq"))
  | (with_reducible refine Gl.r_for ?_)
  | (with_reducible refine Gl.r_lc ?_)
  | (with_reducible refine Gl.r_rng1 ?_)
  | ((with_reducible refine Gl.r_rng1k ?hs ?hi ?_); (case hs => walk_at "om"); (case hi => walk_at "om"))
  | (with_reducible refine Gl.r_rng2 ?_)
  | ((with_reducible refine Gl.r_rng2k ?hs ?hi ?hs2 ?hi2 ?_); (case hs => walk_at "om"); (case hi => walk_at "om"); (case hs2 => walk_at "om"); (case hi2 => walk_at "om"))
  | (with_reducible refine Gl.r_iList ?_)
  | (with_reducible refine Gl.r_iTup ?_)
  | (with_reducible refine Gl.r_iStr ?_)
  | (with_reducible refine Gl.r_iSk ?_)
  | ((with_reducible refine' Gl.r_iLk ?hs ?_); (case hs => walk_at "sq"))
  | ((with_reducible refine' Gl.r_iTk ?hs ?_); (case hs => walk_at "sq"))
  | ((with_reducible refine' Gl.r_lenL ?hs ?_); (case hs => walk_at "sq"))
  | ((with_reducible refine' Gl.r_lenT ?hs ?_); (case hs => walk_at "sq"))
  | ((with_reducible refine' Gl.r_lenS ?hs ?_); (case hs => walk_at "side"))
  | ((with_reducible refine' Gl.r_isiT ?hs ?hi ?hj ?_); (case hs => walk_at "kd"); (case hi => decide); (case hj => decide))
  | ((with_reducible refine' Gl.r_isiF ?hs ?hi ?hj ?_); (case hs => walk_at "kd"); (case hi => decide); (case hj => decide))
  | (with_reducible refine iteT ?_)
  | (with_reducible refine iteF ?_)
  | (with_reducible refine Gl.iteNF ?_)
  | (with_reducible refine Gl.iteNT ?_)
  | (with_reducible refine Gl.e_oi ?_)
  | (with_reducible refine Gl.e_ob ?_)
  | (with_reducible refine Gl.e_i ?_)
  | (with_reducible refine Gl.e_b ?_)
  | (with_reducible refine Gl.e_s ?_)
  | (with_reducible refine Gl.e_ii ?_)
  | (with_reducible refine Gl.e_vv ?_)
  | (with_reducible refine Gl.e_vvv ?_)
  | (with_reducible refine Gl.e_cs ?_)
  | (with_reducible refine Gl.e_ss ?_))
local macro_rules | `(tactic| walk_at "r") => `(tactic| repeat (walk_at "r1"))
local macro_rules | `(tactic| walk_at "ra") => `(tactic| repeat (first
  | (walk_at "r1")
  | (with_reducible refine Gl.r_andV ?_)
  | (with_reducible refine Gl.r_orV ?_)))
local macro_rules | `(tactic| walk_at "dp") => `(tactic| first
  | exact Dp.non
  | exact Dp.bl _
  | exact Dp.int _
  | exact Dp.str _
  | assumption
  | ((with_reducible refine' Dp.lst ?hlk ?hla); (case hlk => walk_at "sq"); (case hla => walk_at "dpa"))
  | ((with_reducible refine' Dp.tup ?hlk ?hla); (case hlk => walk_at "sq"); (case hla => walk_at "dpa")))
local macro_rules | `(tactic| walk_at "dpa") => `(tactic| first
  | exact DpAll.nil
  | assumption
  | ((with_reducible refine' DpAll.cons ?hlk ?hla); (case hlk => walk_at "dp"); (case hla => walk_at "dpa")))

local macro_rules | `(tactic| walk_at "cls") => `(tactic| first
  | exact Txt.sc_Grid (by assumption))
local macro_rules | `(tactic| walk_at "slot") => `(tactic| first
  | exact Txt.sl_Grid_own_name (by assumption)
  | exact Txt.sl_Grid_own_units (by assumption))
local macro_rules | `(tactic| walk_at "sq") => `(tactic| first
  | assumption
  | ((with_reducible refine' SqL.of ?hlk); (case hlk => walk_at "lk"))
  | ((with_reducible refine' SqT.of ?hlk); (case hlk => walk_at "lk"))
  | exact Txt.t_GRIDS (by assumption) _
  | exact Txt.t_SQUARE_UNITS (by assumption) _
  | exact Txt.t_TRIANGLE_UNITS (by assumption) _
  | exact Txt.t_SQUARE_UNITS_0 (by assumption) _
  | exact Txt.t_SQUARE_UNITS_1 (by assumption) _
  | exact Txt.t_SQUARE_UNITS_2 (by assumption) _
  | exact Txt.t_SQUARE_UNITS_3 (by assumption) _
  | exact Txt.t_TRIANGLE_UNITS_0 (by assumption) _
  | exact Txt.t_TRIANGLE_UNITS_1 (by assumption) _
  | exact Txt.t_TRIANGLE_UNITS_2 (by assumption) _
  | exact Txt.t_TRIANGLE_UNITS_3 (by assumption) _
  | exact Txt.t_TRIANGLE_UNITS_4 (by assumption) _
  | exact Txt.t_TRIANGLE_UNITS_5 (by assumption) _)
local macro_rules | `(tactic| walk_at "slt") => `(tactic| first
  | assumption
  | exact Gl.sltS (by assumption) (by assumption))
local macro_rules | `(tactic| walk_at "fl") => `(tactic| first | exact rfl | decide)
local macro_rules | `(tactic| walk_at "r2") => `(tactic| first
  | (with_reducible refine Gl.r_slE ?_)
  | ((with_reducible refine' Gl.r_slGet ?h1 ?h2 ?h3 ?h4 ?_); (case h1 => walk_at "slt"); (case h2 => walk_at "cls"); (case h3 => walk_at "slot"); (case h4 => exact rfl))
  | (with_reducible refine Gl.r_slS ?_)
  | ((with_reducible refine' Gl.r_slSet ?h1 ?h2 ?h3 ?_); (case h1 => walk_at "slt"); (case h2 => walk_at "cls"); (case h3 => walk_at "slot"))
  | (with_reducible refine Gl.r_methE ?_)
  | ((with_reducible refine' Gl.r_meth ?h1 ?_); (case h1 => walk_at "slt"))
  | (with_reducible refine Gl.r_propE ?_)
  | ((with_reducible refine' Gl.r_prop ?h1 ?_); (case h1 => walk_at "slt"))
  | (with_reducible refine Gl.r_makeE ?_)
  | ((with_reducible refine' Gl.r_inT ?h1 ?h2 ?h3 ?_); (case h1 => walk_at "sq"); (case h2 => walk_at "fl"); (case h3 => walk_at "fl"))
  | ((with_reducible refine' Gl.r_ninT ?h1 ?h2 ?h3 ?_); (case h1 => walk_at "sq"); (case h2 => walk_at "fl"); (case h3 => walk_at "fl"))
  | (with_reducible refine Gl.r_dgetE ?_)
  | ((with_reducible refine' Gl.r_dgetS ?h1 ?h2 ?_); (case h1 => walk_at "lk"); (case h2 => first | assumption | exact rfl | decide))
  | ((with_reducible refine' Gl.r_dgetI ?h1 ?h2 ?_); (case h1 => walk_at "lk"); (case h2 => first | assumption | exact rfl | decide))
  | ((with_reducible refine' Gl.r_i ?hc ?_); (case hc => exact Gl.cmulS (by assumption) (by assumption))))
local macro_rules | `(tactic| walk_at "r") => `(tactic| repeat (first | (walk_at "r1") | (walk_at "r2")))
local macro_rules | `(tactic| walk_at "ra") => `(tactic| repeat (first
  | (walk_at "r1")
  | (walk_at "r2")
  | (with_reducible refine Gl.r_andV ?_)
  | (with_reducible refine Gl.r_orV ?_)))
local macro_rules | `(tactic| walk_at "r3") => `(tactic| first
  | (with_reducible refine Gl.r_par3 ?_)
  | (with_reducible refine Gl.r_lenX ?_)
  | (with_reducible refine Gl.r_lenXK ?_)
  | (with_reducible refine Gl.r_lenSetD ?_)
  | (with_reducible refine Gl.r_star ?_)
  | ((with_reducible refine' Gl.r_starT ?h1 ?_); (case h1 => walk_at "sq"))
  | ((with_reducible refine' Gl.r_starL ?h1 ?_); (case h1 => walk_at "sq"))
  | ((with_reducible refine' Gl.r_lenOwn ?h1 ?_); (case h1 => walk_at "slt"))
  | ((with_reducible refine' Gl.r_unl ?h1 ?h2 ?_); (case h1 => walk_at "sq"); (case h2 => exact rfl))
  | ((with_reducible refine' Gl.r_ext ?h1 ?h2 ?h3 ?_); (case h1 => walk_at "lk"); (case h2 => walk_at "lk"); (case h3 => walk_at "len")))
local macro_rules | `(tactic| walk_at "r") => `(tactic| repeat (first | (walk_at "r1") | (walk_at "r2") | (walk_at "r3")))
local macro_rules | `(tactic| walk_at "ra") => `(tactic| repeat (first
  | (walk_at "r1")
  | (walk_at "r2")
  | (walk_at "r3")
  | (with_reducible refine Gl.r_andV ?_)
  | (with_reducible refine Gl.r_orV ?_)))

def sp__law_turns_right (K : PySem.W.Frag) (A : Ad) : Sp := fun vs H Q _ => ∃ (tri : Bool) (d : Addr) (v0 : V) (g : Addr), vs = [.ref d, v0, .ref g] ∧ DiceAt H d ∧ PlainAt H v0 tri ∧ GridAt A H g tri ∧ ∀ H', Went d H H' → Q (.bl true) H'
section
variable {P : Program} {w : World} {K : PySem.W.Frag} {mg : Str → Option Value} {base : Heap} {A : Ad} {D : Fd}
theorem ok__law_turns_right (T : Txt K mg A D) (nd : base.NoDigits) : FnG P w K mg base CX0 8 A.a__law_turns_right D.d__law_turns_right ["_law_dice_here", "_law_plain", "_law_grid"] (sp__law_turns_right K A) := by
  have R_Grid_turned := FnOk.pos (ok_Grid_turned (P := P) (w := w) (base := base) T) T.b_Grid_turned
  have R_Grid_norm_of := FnOk.pos (ok_Grid_norm_of (P := P) (w := w) (base := base) T) T.b_Grid_norm_of
  have R_Grid_conjugate_of := FnOk.pos (ok_Grid_conjugate_of (P := P) (w := w) (base := base) T) T.b_Grid_conjugate_of
  have R_Grid_unit := FnOk.pos (ok_Grid_unit (P := P) (w := w) (base := base) T) T.b_Grid_unit
  have R_Grid_half := FnOk.pos (ok_Grid_half (P := P) (w := w) (base := base) T) T.b_Grid_half
  have R_Grid___len__ := FnOk.pos (ok_Grid___len__ (P := P) (w := w) (base := base) T) T.b_Grid___len__
  have G__law_spun := ok__law_spun (P := P) (w := w) (base := base) T
  have G__law_part := ok__law_part (P := P) (w := w) (base := base) T
  have G__law_roll := ok__law_roll (P := P) (w := w) (base := base) T
  refine okG T.F__law_turns_right sc__law_turns_right (fun vs H Q E h => ?_) (fun cdv Ar outer s H vs Q E hG hr h => ?_)
  · obtain ⟨tri, d, v0, g, rfl, _⟩ := h
    rfl
  · obtain ⟨tri, d, v0, g, rfl, hd, h0, hg, k⟩ := h
    refine ⟨_,
      (pss_cons (ps_par3 (i := 3) (j := 4) (l := 5) (by rfl) sc__law_turns_right.nd rfl rfl rfl (by decide) (by decide) (by decide) rfl rfl rfl (pa_cons (pe_tup (pa_cons (pe_op op_sub (pe_call G__law_roll (hr.mono (by decide)) (by rfl) T.g__law_roll T.F__law_roll.kp T.b__law_roll .nil pass0 (pa_cons (pv 0) (pa_cons pe_int pa_nil))) pe_int) (pa_cons (pe_op op_sub (pe_call G__law_roll (hr.mono (by decide)) (by rfl) T.g__law_roll T.F__law_roll.kp T.b__law_roll .nil pass0 (pa_cons (pv 0) (pa_cons pe_int pa_nil))) pe_int) pa_nil))) (pa_cons (pe_call G__law_part (hr.mono (by decide)) (by rfl) T.g__law_part T.F__law_part.kp T.b__law_part .nil pass0 (pa_cons (pv 0) pa_nil)) (pa_cons (pe_op op_sub (pe_call G__law_roll (hr.mono (by decide)) (by rfl) T.g__law_roll T.F__law_roll.kp T.b__law_roll .nil pass0 (pa_cons (pv 0) (pa_cons pe_int pa_nil))) pe_int) pa_nil))) (by rfl))
        (pss_cons (ps_set (i := 6) sc__law_turns_right.nd rfl (.inl rfl) (SlX.pe_methSl (pv 2) T.sc_Grid T.m_Grid_turned R_Grid_turned (hr.mono (by decide)) pass0 (pa_cons (pv 3) (pa_cons (pv 4) pa_nil))))
        (pss_cons (ps_if (PW.pt (pw_or (pt_cmpR op_ne (pe_callB (call_reprW hr hG nd) (by rfl) T.z_repr (by decide +kernel) (pa_cons (pv 6) pa_nil)) (pe_callB (call_reprW hr hG nd) (by rfl) T.z_repr (by decide +kernel) (pa_cons (pe_call G__law_spun (hr.mono (by decide)) (by rfl) T.g__law_spun T.F__law_spun.kp T.b__law_spun .nil pass0 (pa_cons (pv 1) (pa_cons (pv 3) (pa_cons (pv 4) pa_nil)))) pa_nil)) (nomark _)) (pw_or1 (pt_cmpR op_ne (SlX.pe_methSl (pv 2) T.sc_Grid T.m_Grid_norm_of R_Grid_norm_of (hr.mono (by decide)) pass0 (pa_cons (pv 6) pa_nil)) (SlX.pe_methSl (pv 2) T.sc_Grid T.m_Grid_norm_of R_Grid_norm_of (hr.mono (by decide)) pass0 (pa_cons (pv 3) pa_nil)) (nomark _)))))
        (pss_one (ps_ret pe_bl))
        pss_nil)
        (pss_cons (ps_if (pt_cmpR (op_neD hr.units) (SlX.pe_methSl (pv 2) T.sc_Grid T.m_Grid_turned R_Grid_turned (hr.mono (by decide)) pass0 (pa_cons (pv 6) (pa_cons (pv 5) pa_nil))) (SlX.pe_methSl (pv 2) T.sc_Grid T.m_Grid_turned R_Grid_turned (hr.mono (by decide)) pass0 (pa_cons (pv 3) (pa_cons (pe_op op_mod (pe_op op_add (pv 4) (pv 5)) (pe_callB (call_lenOwn T.m_Grid___len__.1 T.m_Grid___len__.2 R_Grid___len__ (hr.mono (by decide)) pass0) (by rfl) T.z_len (by decide +kernel) (pa_cons (pv 2) pa_nil))) pa_nil))) (nomark _))
        (pss_one (ps_ret pe_bl))
        pss_nil)
        (pss_cons (ps_if (pt_cmpR (op_neD hr.units) (SlX.pe_methSl (pv 2) T.sc_Grid T.m_Grid_turned R_Grid_turned (hr.mono (by decide)) pass0 (pa_cons (pv 3) (pa_cons (pe_callB (call_lenOwn T.m_Grid___len__.1 T.m_Grid___len__.2 R_Grid___len__ (hr.mono (by decide)) pass0) (by rfl) T.z_len (by decide +kernel) (pa_cons (pv 2) pa_nil)) pa_nil))) (pv 3) (nomark _))
        (pss_one (ps_ret pe_bl))
        pss_nil)
        (pss_cons (ps_if (pt_cmpR (op_neD hr.units) (SlX.pe_methSl (pv 2) T.sc_Grid T.m_Grid_turned R_Grid_turned (hr.mono (by decide)) pass0 (pa_cons (pv 3) (pa_cons (SlX.pe_propSl (E := E0) (pv 2) T.sc_Grid T.pa_Grid_half T.pg_Grid_half T.pt_Grid_half T.pr_Grid_half R_Grid_half (hr.mono (by decide)) (fun _ _ _ _ z => z)) pa_nil))) (pe_tup (pa_cons (pe_op op_sub pe_int (pe_ix ix_tup (pv 3) pe_int (fun _ _ => rfl))) (pa_cons (pe_op op_sub pe_int (pe_ix ix_tup (pv 3) pe_int (fun _ _ => rfl))) pa_nil))) (nomark _))
        (pss_one (ps_ret pe_bl))
        pss_nil)
        (pss_cons (ps_set (i := 7) sc__law_turns_right.nd rfl (.inl rfl) (SlX.pe_methSl (pv 2) T.sc_Grid T.m_Grid_conjugate_of R_Grid_conjugate_of (hr.mono (by decide)) pass0 (pa_cons (SlX.pe_methSl (pv 2) T.sc_Grid T.m_Grid_turned R_Grid_turned (hr.mono (by decide)) pass0 (pa_cons (SlX.pe_methSl (pv 2) T.sc_Grid T.m_Grid_conjugate_of R_Grid_conjugate_of (hr.mono (by decide)) pass0 (pa_cons (pv 3) pa_nil)) (pa_cons (pv 5) pa_nil))) pa_nil)))
        (pss_one (ps_ret (pe_and (pe_cmpR (op_eqD hr.units) (pv 7) (SlX.pe_methSl (pv 2) T.sc_Grid T.m_Grid_turned R_Grid_turned (hr.mono (by decide)) pass0 (pa_cons (pv 3) (pa_cons (pe_op op_sub pe_int (pv 5)) pa_nil))) (nomark _)) (pe_one (pe_cmpR (op_eqD hr.units) (SlX.pe_methSl (pv 2) T.sc_Grid T.m_Grid_turned R_Grid_turned (hr.mono (by decide)) pass0 (pa_cons (pe_tup (pa_cons pe_int (pa_cons pe_int pa_nil))) (pa_cons (pv 4) pa_nil))) (SlX.pe_methSl (pv 2) T.sc_Grid T.m_Grid_unit R_Grid_unit (hr.mono (by decide)) pass0 (pa_cons (pv 4) pa_nil)) (nomark _))))))))))))), ?_⟩
    walk_at "r"
    refine ⟨d, _, rfl, hd, by decide, by decide, fun x H1 x0 x1 w1 => ?_⟩
    walk_at "r"
    refine ⟨d, _, rfl, w1.dice, by decide, by decide, fun y H2 y0 y1 w2 => ?_⟩
    have W2 := w1.trans w2
    walk_at "r"
    refine r_newT (by walk_at "len") fun p1 H3 n3 s3 e3 => ?_
    have W3 := W2.same s3
    walk_at "r"
    refine ⟨d, rfl, W3.dice, fun m H4 im w4 => ?_⟩
    have W4 := W3.trans w4
    walk_at "r"
    refine ⟨d, _, rfl, W4.dice, by decide, by decide, fun o H5 o0 o1 w5 => ?_⟩
    have W5 := W4.trans w5
    have e5 := w5.keep _ _ (W2.dice.ne n3) (w4.keep _ _ (W2.dice.ne n3) e3)
    have q1 : PtAt K H5 (.ref p1) (x - 49) (y - 49) := .of e5
    have ba : Bd 2 (x - 49) := by show (x - 49).natAbs < 10 ^ 2; omega
    have bb : Bd 2 (y - 49) := by show (y - 49).natAbs < 10 ^ 2; omega
    have bo : Bd 2 (o - 15) := by show (o - 15).natAbs < 10 ^ 2; omega
    replace hg := hg.went hd W5
    obtain ⟨dx, hgs⟩ := id hg
    walk_at "r"
    generalize x - 49 = a at *
    generalize y - 49 = b at *
    generalize o - 15 = t at *
    replace h0 := h0.went hd W5
    replace hd := W5.dice
    replace k := fun H' (s : Same H5 H') => k _ (W5.same s)
    clear W5 w5 e5 w4 W4 W3 s3 e3 n3 W2 w2 w1 x0 x1 y0 y1 o0 o1
    have t1 := q1
    obtain ⟨_, rfl_, t1⟩ := t1
    cases rfl_
    have ia := ba.isI (by decide)
    have ib := bb.isI (by decide)
    have io := bo.isI (by decide)
    replace im : IsI m := im
    have br := Bd.r (tri := tri) m ba bb (by decide)
    have np := nUn_pos tri
    walk_at "r"
    refine ⟨g, tri, _, _, _, _, rfl, hg, q1, ia, ib, im, fun p2 Ha na sa ea => ?_⟩
    have Sa := sa
    walk_at "r"
    refine r_reprW (.tuple [.int (rX tri a b m), .int (rY tri a b m)]) (PtAt.of ea).dp ⟨br.1.up (by decide), br.2.up (by decide), trivial⟩ (by show 1 ≤ 30; decide) (by simp only [wt, wtAll]; decide) ?_
    walk_at "r"
    refine ⟨tri, _, _, _, _, _, rfl, h0.same Sa, q1.same Sa, sm_isI ia, sm_isI ib, fun p3 Hb nb sb eb => ?_⟩
    have Sb := Sa.trans sb
    have gb := sltS Sb hgs
    walk_at "r"
    refine r_reprW (.tuple [.int (rX tri a b m), .int (rY tri a b m)]) (PtAt.of eb).dp ⟨br.1.up (by decide), br.2.up (by decide), trivial⟩ (by show 1 ≤ 30; decide) (by simp only [wt, wtAll]; decide) ?_
    walk_at "r"
    refine iteNS rfl ?_
    have ep := sb _ _ ea
    have ir1 := br.1.isI (by decide)
    have ir2 := br.2.isI (by decide)
    walk_at "r"
    refine ⟨g, tri, _, rX tri a b m, rY tri a b m, rfl, hg.same Sb, .of ep, ir1, ir2, ?_⟩
    walk_at "r"
    refine ⟨g, tri, _, _, _, rfl, hg.same Sb, q1.same Sb, ia, ib, ?_⟩
    walk_at "r"
    rw [nrm_r]
    refine iteNS rfl ?_
    walk_at "r"
    refine ⟨g, tri, _, rX tri a b m, rY tri a b m, _, rfl, hg.same Sb, .of ep, ir1, ir2, io, fun p4 Hc nc sc ec => ?_⟩
    have Sc := Sb.trans sc
    have gc := sltS Sc hgs
    walk_at "r"
    refine ⟨g, tri, rfl, hg.same Sc, _, rfl, by cases tri <;> decide, ?_⟩
    walk_at "r"
    have imo := mod_in tri (m + t)
    have iy : IsI ((m + t) % nUn tri) := isI_lt.mpr (by
      have n6 : nUn tri ≤ 6 := by cases tri <;> decide
      have : ((m + t) % nUn tri).natAbs < 7 := by omega
      exact Nat.lt_trans this (by decide +kernel))
    refine ⟨g, tri, _, _, _, _, rfl, hg.same Sc, q1.same Sc, ia, ib, iy, fun p5 Hd nd1 sd ed => ?_⟩
    have Sd := Sc.trans sd
    have gd := sltS Sd hgs
    walk_at "r"
    refine r_nePtF (.of (sd _ _ ec)) (.of ed) ((r_add tri a b m t).1.trans (r_mod tri a b (m + t)).1.symm) ((r_add tri a b m t).2.trans (r_mod tri a b (m + t)).2.symm) ?_
    walk_at "r"
    refine ⟨g, tri, rfl, hg.same Sd, _, rfl, by cases tri <;> decide, ?_⟩
    have i6 : IsI (nUn tri) := by cases tri <;> exact isI_lt.mpr (by decide +kernel)
    have ih : IsI (nUn tri / 2) := by cases tri <;> exact isI_lt.mpr (by decide +kernel)
    walk_at "r"
    refine ⟨g, tri, _, _, _, _, rfl, hg.same Sd, q1.same Sd, ia, ib, i6, fun p6 He ne se ee => ?_⟩
    have Se := Sd.trans se
    have ge := sltS Se hgs
    walk_at "r"
    refine r_nePtF (.of ee) (q1.same Se) (r_one tri a b).1 (r_one tri a b).2 ?_
    walk_at "r"
    refine ⟨g, tri, rfl, hg.same Se, ?_⟩
    walk_at "r"
    refine ⟨g, tri, _, _, _, _, rfl, hg.same Se, q1.same Se, ia, ib, ih, fun p7 Hf nf sf ef => ?_⟩
    have Sf := Se.trans sf
    have gf := sltS Sf hgs
    have tf := sqTS Sf t1
    walk_at "r"
    refine r_newT (by walk_at "len") fun p8 Hg ng sg eg => ?_
    have Sg := Sf.trans sg
    have gg := sltS Sg hgs
    walk_at "r"
    refine r_nePtF (.of (sg _ _ ef)) (.of eg) (r_half tri a b).1 (r_half tri a b).2 ?_
    walk_at "r"
    refine ⟨g, tri, _, _, _, rfl, hg.same Sg, q1.same Sg, ia, ib, fun p9 Hh nh sh eh => ?_⟩
    have Sh := Sg.trans sh
    have gh := sltS Sh hgs
    have bf := ba.flX (tri := tri) bb
    have bn := bb.neg
    walk_at "r"
    refine ⟨g, tri, _, _, _, _, rfl, hg.same Sh, .of eh, bf.isI (by decide), bn.isI (by decide), io, fun q2 Hi ni si ei => ?_⟩
    have Si := Sh.trans si
    have gi := sltS Si hgs
    have bq := Bd.r (tri := tri) t bf (bn.up (by decide)) (by decide)
    walk_at "r"
    refine ⟨g, tri, _, rX tri (flX tri a b) (-b) t, rY tri (flX tri a b) (-b) t, rfl, hg.same Si, .of ei, bq.1.isI (by decide), bq.2.isI (by decide), fun q3 Hj nj sj ej => ?_⟩
    have Sj := Si.trans sj
    have gj := sltS Sj hgs
    have bt : Bd 3 (0 - t) := by rw [Int.zero_sub]; exact bo.neg.up (by decide)
    walk_at "ra"
    refine ⟨g, tri, _, _, _, _, rfl, hg.same Sj, q1.same Sj, ia, ib, bt.isI (by decide), fun q4 Hk nk sk ek => ?_⟩
    have Sk := Sj.trans sk
    have gk := sltS Sk hgs
    walk_at "ra"
    refine r_eqPtT (.of (sk _ _ ej)) (.of ek) (r_conj tri a b t).1 (r_conj tri a b t).2 ?_
    walk_at "ra"
    refine r_newT (by walk_at "len") fun q5 Hl nl sl el => ?_
    have Sl := Sk.trans sl
    have gl := sltS Sl hgs
    have i1 : IsI 1 := isI_lt.mpr (by decide +kernel)
    have i0 : IsI 0 := isI_lt.mpr (by decide +kernel)
    walk_at "ra"
    refine ⟨g, tri, _, 1, 0, _, rfl, hg.same Sl, .of el, i1, i0, im, fun q6 Hm nm sm em => ?_⟩
    have Sm1 := Sl.trans sm
    have gm := sltS Sm1 hgs
    walk_at "ra"
    refine ⟨g, tri, _, rfl, hg.same Sm1, im, ?_⟩
    walk_at "ra"
    refine r_eqPtT (.of em) ⟨_, rfl, unit_pt T tri (mod_in tri m).1 (mod_in tri m).2 _⟩ (r_id tri m).1 (r_id tri m).2 ?_
    exact k _ Sm1
end

end Law

set_option Elab.async false
set_option maxRecDepth 100000
set_option maxHeartbeats 4000000
set_option linter.all false
namespace Law
open PySem L2 Gl
local macro_rules | `(tactic| walk_at "lk") => `(tactic| first
  | assumption
  | (with_reducible exact upd_same)
  | ((with_reducible refine' Gl.lk_ne ?nlk ?lkk); (case nlk => walk_at "ne"); (case lkk => walk_at "lk")))
local macro_rules | `(tactic| walk_at "ne") => `(tactic| first
  | assumption
  | exact Ne.symm (by assumption)
  | exact ne_of_none (by assumption) (by assumption)
  | exact (ne_of_none (by assumption) (by assumption)).symm)
local macro_rules | `(tactic| walk_at "sq") => `(tactic| first
  | assumption
  | ((with_reducible refine' SqL.of ?hlk); (case hlk => walk_at "lk"))
  | ((with_reducible refine' SqT.of ?hlk); (case hlk => walk_at "lk")))
local macro_rules | `(tactic| walk_at "at") => `(tactic| first
  | exact at_0
  | exact at_1
  | exact at_2
  | exact at_3
  | exact ix_0
  | exact ix_1
  | exact ix_2
  | exact rfl
  | assumption)
local macro_rules | `(tactic| walk_at "len") => `(tactic| first
  | (simp only [List.length_cons, List.length_nil]; decide)
  | (refine Nat.le_trans (?_ : _ ≤ 1000) (by decide); first | assumption | omega | (simp; omega)))
local macro_rules | `(tactic| walk_at "lenlt") => `(tactic| first
  | (refine Nat.lt_of_le_of_lt (?_ : _ ≤ 100000) (by decide); first | assumption | omega | (simp only [List.length_cons, List.length_nil, List.length_append]; omega) | (simp; omega)))
local macro_rules | `(tactic| walk_at "kd") => `(tactic| first
  | assumption
  | exact Knd.non
  | exact Knd.bl _
  | exact Knd.int _
  | exact Knd.str _
  | ((with_reducible refine' Knd.tup ?hlk); (case hlk => walk_at "sq"))
  | ((with_reducible refine' Knd.lst ?hlk); (case hlk => walk_at "sq"))
  | ((with_reducible refine' Knd.dK ?hlk); (case hlk => walk_at "lk")))
local macro_rules | `(tactic| walk_at "om") => `(tactic| first | omega | decide | decide +kernel)
local macro_rules | `(tactic| walk_at "side") => `(tactic| first
  | assumption
  | (with_reducible refine Gl.cdiv ?_ ?_ <;> first | omega | decide +kernel)
  | (with_reducible refine Gl.cmulL ?_ ?_ <;> first | omega | decide +kernel)
  | (with_reducible refine Gl.cmulR ?_ ?_ <;> first | omega | decide +kernel)
  | (refine Nat.le_trans (?_ : _ ≤ 1000) (by decide); first | assumption | omega | (simp only [List.length_cons, List.length_nil]; omega))
  | (show (0 : Int) < _; omega)
  | (show (0 : Int) < _; decide +kernel)
  | (exact Or.inr (by unfold CMulW; decide +kernel))
  | (exact ⟨by decide, by decide +kernel⟩))
local macro_rules | `(tactic| walk_at "r1") => `(tactic| first
  | ((with_reducible refine' Gl.r_var ?hv ?_); (case hv => exact rfl))
  | (with_reducible refine Gl.r_c ?_)
  | (with_reducible refine Gl.r_op ?_)
  | (with_reducible refine Gl.r_i0 ?_)
  | ((with_reducible refine Gl.r_i ?hc ?_); (case hc => walk_at "side"))
  | (with_reducible refine Gl.r_cons ?_)
  | (with_reducible refine Gl.r_nil ?_)
  | (with_reducible refine Gl.r_call ?_)
  | (with_reducible refine Gl.r_cb ?_)
  | (with_reducible refine Gl.r_seq ?_)
  | (with_reducible refine Gl.r_asg ?_)
  | (with_reducible refine Gl.r_gname ?_)
  | (with_reducible refine Gl.r_ret ?_)
  | (with_reducible refine Gl.r_if ?_)
  | (with_reducible refine Gl.r_test ?_)
  | (with_reducible refine Gl.r_bl ?_)
  | (with_reducible refine Gl.r_B ?_)
  | ((with_reducible refine Gl.r_eq ?hc ?_); (case hc => exact rfl))
  | ((with_reducible refine Gl.r_ne ?hc ?_); (case hc => exact rfl))
  | ((with_reducible refine' Gl.r_ixL ?hs ?hi ?_); (case hs => walk_at "sq"); (case hi => walk_at "at"))
  | ((with_reducible refine' Gl.r_ixT ?hs ?hi ?_); (case hs => walk_at "sq"); (case hi => walk_at "at"))
  | (with_reducible refine Gl.r_un ?_)
  | (with_reducible refine Gl.r_u ?_)
  | (with_reducible refine Gl.r_notV ?_)
  | (with_reducible refine Gl.r_ifE ?_)
  | (with_reducible refine Gl.r_chain ?_)
  | (with_reducible refine Gl.r_and ?_)
  | (with_reducible refine Gl.r_or ?_)
  | (with_reducible refine Gl.r_not ?_)
  | (with_reducible refine Gl.r_par ?_)
  | (with_reducible refine Gl.r_next ?_)
  | (with_reducible refine Gl.r_brk ?_)
  | (with_reducible refine Gl.r_cont ?_)
  | (with_reducible refine Gl.r_drop ?_)
  | (with_reducible refine Gl.r_retN ?_)
  | (with_reducible refine Gl.r_gsub ?_)
  | ((with_reducible refine' Gl.r_setL ?hs ?hi ?_); (case hs => walk_at "lk"); (case hi => walk_at "at"))
  | (with_reducible refine Gl.r_gnil ?_)
  | (with_reducible refine Gl.r_gcons ?_)
  | ((with_reducible refine' Gl.r_gtup ?hs ?hi ?_); (case hs => walk_at "sq"); (case hi => walk_at "at"))
  | (with_reducible refine Gl.r_tup ?_)
  | (with_reducible refine Gl.r_lst ?_)
  | (with_reducible refine Gl.r_bm ?_)
  | (with_reducible refine Gl.r_bm0 ?_)
  | (with_reducible refine Gl.r_yes ?_)
  | ((with_reducible refine Gl.r_wipe ?hs ?_); (case hs => exact rfl))
  | ((with_reducible refine' Gl.r_tyL ?hs ?_); (case hs => walk_at "sq"))
  | ((with_reducible refine' Gl.r_app ?hs ?hi ?_); (case hs => walk_at "lk"); (case hi => walk_at "lenlt"))
  | (with_reducible refine Gl.r_isB ?_)
  | (with_reducible refine Gl.r_notB ?_)
  | (with_reducible refine Gl.r_sl ?_)
  | (with_reducible refine Gl.r_noPart ?_)
  | (with_reducible refine Gl.r_part ?_)
  | (with_reducible refine Gl.r_partK ?_)
  | (with_reducible refine Gl.r_enum ?_)
  | ((with_reducible refine' Gl.r_enk ?hs ?_); (case hs => walk_at "sq"))
  | (with_reducible refine Gl.r_for ?_)
  | (with_reducible refine Gl.r_lc ?_)
  | (with_reducible refine Gl.r_rng1 ?_)
  | ((with_reducible refine Gl.r_rng1k ?hs ?hi ?_); (case hs => walk_at "om"); (case hi => walk_at "om"))
  | (with_reducible refine Gl.r_rng2 ?_)
  | ((with_reducible refine Gl.r_rng2k ?hs ?hi ?hs2 ?hi2 ?_); (case hs => walk_at "om"); (case hi => walk_at "om"); (case hs2 => walk_at "om"); (case hi2 => walk_at "om"))
  | (with_reducible refine Gl.r_iList ?_)
  | (with_reducible refine Gl.r_iTup ?_)
  | (with_reducible refine Gl.r_iStr ?_)
  | (with_reducible refine Gl.r_iSk ?_)
  | ((with_reducible refine' Gl.r_iLk ?hs ?_); (case hs => walk_at "sq"))
  | ((with_reducible refine' Gl.r_iTk ?hs ?_); (case hs => walk_at "sq"))
  | ((with_reducible refine' Gl.r_lenL ?hs ?_); (case hs => walk_at "sq"))
  | ((with_reducible refine' Gl.r_lenT ?hs ?_); (case hs => walk_at "sq"))
  | ((with_reducible refine' Gl.r_lenS ?hs ?_); (case hs => walk_at "side"))
  | ((with_reducible refine' Gl.r_isiT ?hs ?hi ?hj ?_); (case hs => walk_at "kd"); (case hi => decide); (case hj => decide))
  | ((with_reducible refine' Gl.r_isiF ?hs ?hi ?hj ?_); (case hs => walk_at "kd"); (case hi => decide); (case hj => decide))
  | (with_reducible refine iteT ?_)
  | (with_reducible refine iteF ?_)
  | (with_reducible refine Gl.iteNF ?_)
  | (with_reducible refine Gl.iteNT ?_)
  | (with_reducible refine Gl.e_oi ?_)
  | (with_reducible refine Gl.e_ob ?_)
  | (with_reducible refine Gl.e_i ?_)
  | (with_reducible refine Gl.e_b ?_)
  | (with_reducible refine Gl.e_s ?_)
  | (with_reducible refine Gl.e_ii ?_)
  | (with_reducible refine Gl.e_vv ?_)
  | (with_reducible refine Gl.e_vvv ?_)
  | (with_reducible refine Gl.e_cs ?_)
  | (with_reducible refine Gl.e_ss ?_))
local macro_rules | `(tactic| walk_at "r") => `(tactic| repeat (walk_at "r1"))
local macro_rules | `(tactic| walk_at "ra") => `(tactic| repeat (first
  | (walk_at "r1")
  | (with_reducible refine Gl.r_andV ?_)
  | (with_reducible refine Gl.r_orV ?_)))
local macro_rules | `(tactic| walk_at "dp") => `(tactic| first
  | exact Dp.non
  | exact Dp.bl _
  | exact Dp.int _
  | exact Dp.str _
  | assumption
  | ((with_reducible refine' Dp.lst ?hlk ?hla); (case hlk => walk_at "sq"); (case hla => walk_at "dpa"))
  | ((with_reducible refine' Dp.tup ?hlk ?hla); (case hlk => walk_at "sq"); (case hla => walk_at "dpa")))
local macro_rules | `(tactic| walk_at "dpa") => `(tactic| first
  | exact DpAll.nil
  | assumption
  | ((with_reducible refine' DpAll.cons ?hlk ?hla); (case hlk => walk_at "dp"); (case hla => walk_at "dpa")))

local macro_rules | `(tactic| walk_at "cls") => `(tactic| first
  | exact Txt.sc_Grid (by assumption))
local macro_rules | `(tactic| walk_at "slot") => `(tactic| first
  | exact Txt.sl_Grid_own_name (by assumption)
  | exact Txt.sl_Grid_own_units (by assumption))
local macro_rules | `(tactic| walk_at "sq") => `(tactic| first
  | assumption
  | ((with_reducible refine' SqL.of ?hlk); (case hlk => walk_at "lk"))
  | ((with_reducible refine' SqT.of ?hlk); (case hlk => walk_at "lk"))
  | exact Txt.t_GRIDS (by assumption) _
  | exact Txt.t_SQUARE_UNITS (by assumption) _
  | exact Txt.t_TRIANGLE_UNITS (by assumption) _
  | exact Txt.t_SQUARE_UNITS_0 (by assumption) _
  | exact Txt.t_SQUARE_UNITS_1 (by assumption) _
  | exact Txt.t_SQUARE_UNITS_2 (by assumption) _
  | exact Txt.t_SQUARE_UNITS_3 (by assumption) _
  | exact Txt.t_TRIANGLE_UNITS_0 (by assumption) _
  | exact Txt.t_TRIANGLE_UNITS_1 (by assumption) _
  | exact Txt.t_TRIANGLE_UNITS_2 (by assumption) _
  | exact Txt.t_TRIANGLE_UNITS_3 (by assumption) _
  | exact Txt.t_TRIANGLE_UNITS_4 (by assumption) _
  | exact Txt.t_TRIANGLE_UNITS_5 (by assumption) _)
local macro_rules | `(tactic| walk_at "slt") => `(tactic| first
  | assumption
  | exact Gl.sltS (by assumption) (by assumption))
local macro_rules | `(tactic| walk_at "fl") => `(tactic| first | exact rfl | decide)
local macro_rules | `(tactic| walk_at "r2") => `(tactic| first
  | (with_reducible refine Gl.r_slE ?_)
  | ((with_reducible refine' Gl.r_slGet ?h1 ?h2 ?h3 ?h4 ?_); (case h1 => walk_at "slt"); (case h2 => walk_at "cls"); (case h3 => walk_at "slot"); (case h4 => exact rfl))
  | (with_reducible refine Gl.r_slS ?_)
  | ((with_reducible refine' Gl.r_slSet ?h1 ?h2 ?h3 ?_); (case h1 => walk_at "slt"); (case h2 => walk_at "cls"); (case h3 => walk_at "slot"))
  | (with_reducible refine Gl.r_methE ?_)
  | ((with_reducible refine' Gl.r_meth ?h1 ?_); (case h1 => walk_at "slt"))
  | (with_reducible refine Gl.r_propE ?_)
  | ((with_reducible refine' Gl.r_prop ?h1 ?_); (case h1 => walk_at "slt"))
  | (with_reducible refine Gl.r_makeE ?_)
  | ((with_reducible refine' Gl.r_inT ?h1 ?h2 ?h3 ?_); (case h1 => walk_at "sq"); (case h2 => walk_at "fl"); (case h3 => walk_at "fl"))
  | ((with_reducible refine' Gl.r_ninT ?h1 ?h2 ?h3 ?_); (case h1 => walk_at "sq"); (case h2 => walk_at "fl"); (case h3 => walk_at "fl"))
  | (with_reducible refine Gl.r_dgetE ?_)
  | ((with_reducible refine' Gl.r_dgetS ?h1 ?h2 ?_); (case h1 => walk_at "lk"); (case h2 => first | assumption | exact rfl | decide))
  | ((with_reducible refine' Gl.r_dgetI ?h1 ?h2 ?_); (case h1 => walk_at "lk"); (case h2 => first | assumption | exact rfl | decide))
  | ((with_reducible refine' Gl.r_i ?hc ?_); (case hc => exact Gl.cmulS (by assumption) (by assumption))))
local macro_rules | `(tactic| walk_at "r") => `(tactic| repeat (first | (walk_at "r1") | (walk_at "r2")))
local macro_rules | `(tactic| walk_at "ra") => `(tactic| repeat (first
  | (walk_at "r1")
  | (walk_at "r2")
  | (with_reducible refine Gl.r_andV ?_)
  | (with_reducible refine Gl.r_orV ?_)))
local macro_rules | `(tactic| walk_at "r3") => `(tactic| first
  | (with_reducible refine Gl.r_par3 ?_)
  | (with_reducible refine Gl.r_lenX ?_)
  | (with_reducible refine Gl.r_lenXK ?_)
  | (with_reducible refine Gl.r_lenSetD ?_)
  | (with_reducible refine Gl.r_star ?_)
  | ((with_reducible refine' Gl.r_starT ?h1 ?_); (case h1 => walk_at "sq"))
  | ((with_reducible refine' Gl.r_starL ?h1 ?_); (case h1 => walk_at "sq"))
  | ((with_reducible refine' Gl.r_lenOwn ?h1 ?_); (case h1 => walk_at "slt"))
  | ((with_reducible refine' Gl.r_unl ?h1 ?h2 ?_); (case h1 => walk_at "sq"); (case h2 => exact rfl))
  | ((with_reducible refine' Gl.r_ext ?h1 ?h2 ?h3 ?_); (case h1 => walk_at "lk"); (case h2 => walk_at "lk"); (case h3 => walk_at "len")))
local macro_rules | `(tactic| walk_at "r") => `(tactic| repeat (first | (walk_at "r1") | (walk_at "r2") | (walk_at "r3")))
local macro_rules | `(tactic| walk_at "ra") => `(tactic| repeat (first
  | (walk_at "r1")
  | (walk_at "r2")
  | (walk_at "r3")
  | (with_reducible refine Gl.r_andV ?_)
  | (with_reducible refine Gl.r_orV ?_)))

theorem r_it2K {σ : L2.St} {H : Hp} {c : Bool} {ta tb : TE} {R : VK} (Pv : VK) (k : ∀ v H', Pv v H' → R v H') (h1 : c = true → ∀ R : VK, (∀ v H', Pv v H' → R v H') → ta σ H R) (h2 : c = false → ∀ R : VK, (∀ v H', Pv v H' → R v H') → tb σ H R) : if c = true then ta σ H R else tb σ H R :=
  r_it2 (fun z => h1 z R k) (fun z => h2 z R k)

def sp__law_pairs_right (K : PySem.W.Frag) (A : Ad) : Sp := fun vs H Q _ => ∃ (tri : Bool) (d : Addr) (v0 : V) (g : Addr), vs = [.ref d, v0, .ref g] ∧ DiceAt H d ∧ PlainAt H v0 tri ∧ GridAt A H g tri ∧ ∀ H', Went d H H' → Q (.bl true) H'
theorem sh_mod (tri : Bool) (b : Int) : (b - b % nUn tri) % nUn tri = 0 := by
  cases tri
  · show (b - b % 4) % 4 = 0; omega
  · show (b - b % 6) % 6 = 0; omega
section
variable {P : Program} {w : World} {K : PySem.W.Frag} {mg : Str → Option Value} {base : Heap} {A : Ad} {D : Fd}
theorem ok__law_pairs_right (T : Txt K mg A D) (nd : base.NoDigits) : FnG P w K mg base CX0 8 A.a__law_pairs_right D.d__law_pairs_right ["_law_dice_here", "_law_plain", "_law_grid"] (sp__law_pairs_right K A) := by
  have R_Grid_alternate := FnOk.pos (ok_Grid_alternate (P := P) (w := w) (base := base) T) T.b_Grid_alternate
  have G__law_around := ok__law_around (P := P) (w := w) (base := base) T
  have G__law_part := ok__law_part (P := P) (w := w) (base := base) T
  have G__law_roll := ok__law_roll (P := P) (w := w) (base := base) T
  have G__law_do_alternate := ok__law_do_alternate (P := P) (w := w) (base := base) T
  refine okG T.F__law_pairs_right sc__law_pairs_right (fun vs H Q E h => ?_) (fun cdv Ar outer s H vs Q E hG hr h => ?_)
  · obtain ⟨tri, d, v0, g, rfl, _⟩ := h
    rfl
  · obtain ⟨tri, d, v0, g, rfl, hd, h0, hg, k⟩ := h
    refine ⟨_,
      (pss_cons (ps_par (i := 3) (j := 4) (by rfl) sc__law_pairs_right.nd rfl rfl (by decide) rfl rfl (pa_cons (pe_call G__law_around (hr.mono (by decide)) (by rfl) T.g__law_around T.F__law_around.kp T.b__law_around .nil pass0 (pa_cons (pv 1) pa_nil)) (pa_cons (pe_call G__law_part (hr.mono (by decide)) (by rfl) T.g__law_part T.F__law_part.kp T.b__law_part .nil pass0 (pa_cons (pv 0) pa_nil)) pa_nil)) (by rfl))
        (pss_cons (ps_set (i := 5) sc__law_pairs_right.nd rfl (.inl rfl) (pe_ifExp (pt_cmpR op_lt (pe_callB call_abs (by rfl) T.z_abs (by decide +kernel) (pa_cons (pv 4) pa_nil)) (pe_op op_mulA (pe_op op_powA pe_int pe_int) (pe_op op_powA pe_int pe_int)) (nomark _)) (pe_op op_sub (pv 4) (pe_op op_mod (pv 4) (pv 3))) pe_int))
        (pss_cons (ps_for PassesOwn.never rfl (pi_range1 (by rfl) T.z_range (pa_cons (pv 3) pa_nil)) (pg_name (i := 6) sc__law_pairs_right.nd rfl (.inl rfl))
        (pss_one (ps_for PassesOwn.never rfl (pi_range1 (by rfl) T.z_range (pa_cons (pv 3) pa_nil)) (pg_name (i := 7) sc__law_pairs_right.nd rfl (.inl rfl))
        (pss_cons (ps_set (i := 8) sc__law_pairs_right.nd rfl (.inl rfl) (pe_tup (pa_cons (pe_call G__law_roll (hr.mono (by decide)) (by rfl) T.g__law_roll T.F__law_roll.kp T.b__law_roll .nil pass0 (pa_cons (pv 0) (pa_cons (pv 3) pa_nil))) (pa_cons (pe_call G__law_roll (hr.mono (by decide)) (by rfl) T.g__law_roll T.F__law_roll.kp T.b__law_roll .nil pass0 (pa_cons (pv 0) (pa_cons (pv 3) pa_nil))) pa_nil))))
        (pss_cons (ps_par (i := 9) (j := 10) (by rfl) sc__law_pairs_right.nd rfl rfl (by decide) rfl rfl (pa_cons (pe_tup (pa_cons (pv 6) (pa_cons (pv 7) pa_nil))) (pa_cons (pe_call G__law_do_alternate (hr.mono (by decide)) (by rfl) T.g__law_do_alternate T.F__law_do_alternate.kp T.b__law_do_alternate .nil pass0 (pa_cons (pv 3) (pa_cons (pe_tup (pa_cons (pv 6) (pa_cons (pv 7) pa_nil))) (pa_cons (pv 8) pa_nil)))) pa_nil)) (by rfl))
        (pss_cons (ps_set (i := 11) sc__law_pairs_right.nd rfl (.inl rfl) (pe_lst (pa_cons (SlX.pe_methSl (pv 2) T.sc_Grid T.m_Grid_alternate R_Grid_alternate (hr.mono (by decide)) pass0 (pa_cons (pv 9) (pa_cons (pv 8) pa_nil))) (pa_cons (SlX.pe_methSl (pv 2) T.sc_Grid T.m_Grid_alternate R_Grid_alternate (hr.mono (by decide)) pass0 (pa_cons (pv 8) (pa_cons (pv 9) pa_nil))) (pa_cons (SlX.pe_methSl (pv 2) T.sc_Grid T.m_Grid_alternate R_Grid_alternate (hr.mono (by decide)) pass0 (pa_cons (pe_tup (pa_cons (pv 7) (pa_cons (pv 6) pa_nil))) (pa_cons (pv 8) pa_nil))) pa_nil)))))
        (pss_cons (ps_expr (pe_bm PySem.F.plainAttrs_list PySem.F.slot_list_append PySem.F.type_list_append mt_append (pv 11) (pa_cons (SlX.pe_methSl (pv 2) T.sc_Grid T.m_Grid_alternate R_Grid_alternate (hr.mono (by decide)) pass0 (pa_cons (pe_tup (pa_cons (pe_op op_add (pv 6) (pv 5)) (pa_cons (pv 7) pa_nil))) (pa_cons (pe_tup (pa_cons (pe_ix ix_tup (pv 8) pe_int (fun _ _ => rfl)) (pa_cons (pe_op op_sub (pe_ix ix_tup (pv 8) pe_int (fun _ _ => rfl)) (pv 3)) pa_nil))) pa_nil))) pa_nil)))
        (pss_cons (ps_expr (pe_bm PySem.F.plainAttrs_list PySem.F.slot_list_append PySem.F.type_list_append mt_append (pv 11) (pa_cons (SlX.pe_methSl (pv 2) T.sc_Grid T.m_Grid_alternate R_Grid_alternate (hr.mono (by decide)) pass0 (pa_cons (pe_tup (pa_cons (pe_op op_add (pv 6) pe_int) (pa_cons (pe_op op_add (pv 7) pe_int) pa_nil))) (pa_cons (pe_tup (pa_cons (pe_op op_add (pe_ix ix_tup (pv 8) pe_int (fun _ _ => rfl)) pe_int) (pa_cons (pe_op op_add (pe_ix ix_tup (pv 8) pe_int (fun _ _ => rfl)) pe_int) pa_nil))) pa_nil))) pa_nil)))
        (pss_cons (ps_expr (pe_bm PySem.F.plainAttrs_list PySem.F.slot_list_append PySem.F.type_list_append mt_append (pv 11) (pa_cons (SlX.pe_methSl (pv 2) T.sc_Grid T.m_Grid_alternate R_Grid_alternate (hr.mono (by decide)) pass0 (pa_cons (pe_tup (pa_cons (pe_op op_sub pe_int (pv 6)) (pa_cons (pe_op op_sub pe_int (pv 7)) pa_nil))) (pa_cons (pe_tup (pa_cons (pe_op op_sub pe_int (pe_ix ix_tup (pv 8) pe_int (fun _ _ => rfl))) (pa_cons (pe_op op_sub pe_int (pe_ix ix_tup (pv 8) pe_int (fun _ _ => rfl))) pa_nil))) pa_nil))) pa_nil)))
        (pss_one (ps_if (pt_cmpR op_ne (pe_callB (call_reprW hr hG nd) (by rfl) T.z_repr (by decide +kernel) (pa_cons (pv 11) pa_nil)) (pe_callB (call_reprW hr hG nd) (by rfl) T.z_repr (by decide +kernel) (pa_cons (pe_op op_rep (pe_lst (pa_cons (pv 10) pa_nil)) pe_int) pa_nil)) (nomark _))
        (pss_one (ps_ret pe_bl))
        pss_nil)))))))))))
        (pss_one (ps_ret pe_bl))))), ?_⟩
    have np := nUn_pos tri
    have n6 : nUn tri ≤ 6 := by cases tri <;> decide
    walk_at "r"
    refine ⟨tri, v0, rfl, h0, ?_⟩
    walk_at "r"
    refine ⟨d, rfl, hd, fun m H1 im w1 => ?_⟩
    walk_at "r"
    refine r_it2K (fun v H' => H1 = H' ∧ ∃ sh : Int, v = .int sh ∧ sh % nUn tri = 0 ∧ Bd 102 sh) ?_ (fun z R kk => ?_) (fun z R kk => ?_)
    rotate_left
    · walk_at "r"
      refine kk _ _ ⟨rfl, _, rfl, sh_mod tri m, ?_⟩
      rw [decide_eq_true_iff] at z
      have e1 : ((10 : Int) ^ Int.toNat 50 * 10 ^ Int.toNat 50) = ((10 ^ 100 : Nat) : Int) := by decide +kernel
      have e2 : (10 ^ 102 : Nat) = 100 * 10 ^ 100 := by decide +kernel
      have e3 : 1 ≤ (10 ^ 100 : Nat) := by decide +kernel
      have mi := mod_in tri m
      show (m - m % nUn tri).natAbs < 10 ^ 102
      rw [e2]
      rw [e1] at z
      generalize (10 ^ 100 : Nat) = B at *
      split at z <;> omega
    · walk_at "r"
      exact kk _ _ ⟨rfl, 0, rfl, Int.zero_emod _, by show (0 : Int).natAbs < _; decide +kernel⟩
    rintro _ _ ⟨rfl, sh, rfl, hsh, bsh⟩
    have hd1 := w1.dice
    replace hg := hg.went hd w1
    replace k := fun H' (s : Went d H1 H') => k _ (w1.trans s)
    walk_at "r"
    refine fk_rng (fun i σ H' => ∃ x6 x7 x8 x9 x10 x11, σ = [some (.ref d), some v0, some (.ref g), some (.int (nUn tri)), some (.int m), some (.int sh), x6, x7, x8, x9, x10, x11] ∧ Went d H1 H') ⟨_, _, _, _, _, _, rfl, Went.refl hd1⟩ ?_ ?_
    · rintro i σ Hi hi ⟨x6, x7, x8, x9, x10, x11, rfl, wi⟩
      walk_at "r"
      refine fk_rng (fun j σ H' => ∃ x7 x8 x9 x10 x11, σ = [some (.ref d), some v0, some (.ref g), some (.int (nUn tri)), some (.int m), some (.int sh), some (.int (0 + (i : Nat))), x7, x8, x9, x10, x11] ∧ Went d H1 H') ⟨_, _, _, _, _, rfl, wi⟩ ?_ ?_
      · rintro j σ Hj hj ⟨x7, x8, x9, x10, x11, rfl, wj⟩
        walk_at "r"
        refine ⟨d, _, rfl, wj.dice, np, by omega, fun c Ha c0 c1 wa => ?_⟩
        walk_at "r"
        refine ⟨d, _, rfl, wa.dice, np, by omega, fun e Hb e0 e1 wb => ?_⟩
        have Wb := (wj.trans wa).trans wb
        walk_at "r"
        refine r_newT (by walk_at "len") fun p1 Hc nc sc ec => ?_
        walk_at "r"
        refine r_newT (by walk_at "len") fun p2 Hd nd1 sd ed => ?_
        walk_at "r"
        refine r_newT (by walk_at "len") fun p3 He ne se ee => ?_
        have kc := (sc.trans sd).trans se
        have We := Wb.same kc
        have qo : PtAt K He (.ref p1) c e := .of (se _ _ (sd _ _ ec))
        have qe : PtAt K He (.ref p2) (0 + (i : Nat)) (0 + (j : Nat)) := .of (se _ _ ed)
        have qe' : PtAt K He (.ref p3) (0 + (i : Nat)) (0 + (j : Nat)) := .of ee
        have ge := hg.went hd1 We
        clear ec ed ee nc sc nd1 sd ne se kc Wb wb wa
        have bi : 0 ≤ (0 + (i : Nat) : Int) ∧ (0 + (i : Nat) : Int) < nUn tri := by omega
        have bj : 0 ≤ (0 + (j : Nat) : Int) ∧ (0 + (j : Nat) : Int) < nUn tri := by omega
        have gd := goodN tri bi bj ⟨c0, c1⟩ ⟨e0, e1⟩
        obtain ⟨dx, hgs⟩ := id ge
        have sm6 : ∀ x : Int, x.natAbs ≤ 20 → IsI x := fun x hx => isI_lt.mpr (Nat.lt_of_le_of_lt hx (by decide +kernel))
        generalize hI : (0 + (i : Nat) : Int) = a at *
        generalize hJ : (0 + (j : Nat) : Int) = b at *
        have ia := sm6 a (by omega)
        have ib := sm6 b (by omega)
        have ic := sm6 c (by omega)
        have ie := sm6 e (by omega)
        unfold goodP at gd
        rw [Bool.and_eq_true, Bool.and_eq_true, Bool.and_eq_true, beq_iff_eq, beq_iff_eq, beq_iff_eq, beq_iff_eq] at gd
        obtain ⟨⟨⟨g1, g2⟩, g3⟩, g4⟩ := gd
        walk_at "r"
        refine ⟨tri, _, _, _, _, _, _, rfl, qe', qo, fun Hf sf => ?_⟩
        have Sf := sf
        have gf := sltS Sf hgs
        walk_at "r"
        refine ⟨g, tri, _, _, _, _, _, _, rfl, ge.same Sf, qe.same Sf, qo.same Sf, ia, ib, ic, ie, fun Hg sg => ?_⟩
        have Sg := Sf.trans sg
        have gg := sltS Sg hgs
        walk_at "r"
        refine ⟨g, tri, _, _, _, _, _, _, rfl, ge.same Sg, qo.same Sg, qe.same Sg, ic, ie, ia, ib, fun Hh sh1 => ?_⟩
        have Sh := Sg.trans sh1
        have gh := sltS Sh hgs
        walk_at "r"
        refine r_newT (by walk_at "len") fun p4 Hk nk sk ek => ?_
        have Sk := Sh.trans sk
        walk_at "r"
        refine ⟨g, tri, _, _, _, _, _, _, rfl, ge.same Sk, .of ek, qo.same Sk, ib, ia, ic, ie, fun Hl sl => ?_⟩
        have Sl := Sk.trans sl
        have gl := sltS Sl hgs
        walk_at "r"
        rw [g1, g2, g3]
        refine r_newL (by walk_at "len") fun L Hm nm sm em => ?_
        have Sm1 := Sl.trans sm
        have gm := sltS Sm1 hgs
        obtain ⟨_, z_, to⟩ := qo
        cases z_
        have qo : PtAt K He (.ref p1) c e := ⟨_, rfl, to⟩
        have tom := sqTS Sm1 to
        walk_at "r"
        have fL : He L = none := Sl.free nm
        have tl : ∀ x, IsI x → True := fun _ _ => trivial
        have ish : IsI (a + sh) := isI_lt.mpr (by
          have e2 : (10 ^ 102 : Nat) + 20 < 10 ^ 400 := by decide +kernel
          have b2 : sh.natAbs < 10 ^ 102 := bsh
          generalize (10 ^ 102 : Nat) = B at *
          omega)
        have ien : IsI (e - nUn tri) := sm6 _ (by omega)
        refine r_newT (by walk_at "len") fun p5 Hn nn sn en => ?_
        have Sn := Sm1.trans sn
        have ton := sqTS Sn to
        walk_at "r"
        refine r_newT (by walk_at "len") fun p6 Ho no so eo => ?_
        have So := Sn.trans so
        have go := sltS So hgs
        walk_at "r"
        refine ⟨g, tri, _, _, _, _, _, _, rfl, ge.same So, .of (so _ _ en), .of eo, ish, ib, ic, ien, fun Hp sp => ?_⟩
        have Sp := So.trans sp
        have eL := sp _ _ (so _ _ (sn _ _ em))
        rw [alt_sh tri _ _ _ _ hsh, g1]
        walk_at "r"
        have Sq := sameMut (o := .lst ([.bl (doAlt (nUn tri) a b c e), .bl (doAlt (nUn tri) a b c e), .bl (doAlt (nUn tri) a b c e)] ++ [.bl (doAlt (nUn tri) a b c e)])) Sp fL
        have gq := sltS Sq hgs
        have toq := sqTS Sq to
        have eQ : upd Hp L (.lst ([.bl (doAlt (nUn tri) a b c e), .bl (doAlt (nUn tri) a b c e), .bl (doAlt (nUn tri) a b c e)] ++ [.bl (doAlt (nUn tri) a b c e)])) L = _ := upd_same
        generalize upd Hp L (.lst ([.bl (doAlt (nUn tri) a b c e), .bl (doAlt (nUn tri) a b c e), .bl (doAlt (nUn tri) a b c e)] ++ [.bl (doAlt (nUn tri) a b c e)]) ) = Hq at *
        replace eQ : Hq L = some (.lst [.bl (doAlt (nUn tri) a b c e), .bl (doAlt (nUn tri) a b c e), .bl (doAlt (nUn tri) a b c e), .bl (doAlt (nUn tri) a b c e)]) := eQ
        clear em eL
        walk_at "r"
        refine r_newT (by walk_at "len") fun q1 Ka ma ta ua => ?_
        have Ta := Sq.trans ta
        have toa := sqTS Ta to
        walk_at "r"
        refine r_newT (by walk_at "len") fun q2 Kb mb tb ub => ?_
        have Tb := Ta.trans tb
        have gb2 := sltS Tb hgs
        walk_at "r"
        refine ⟨g, tri, _, _, _, _, _, _, rfl, ge.same Tb, .of (tb _ _ ua), .of ub, sm6 _ (by omega), sm6 _ (by omega), sm6 _ (by omega), sm6 _ (by omega), fun Kc tc => ?_⟩
        have Tc := Tb.trans tc
        have eL := tc _ _ (tb _ _ (ta _ _ eQ))
        rw [alt_pl, g1]
        walk_at "r"
        have Sr := sameMut (o := .lst ([.bl (doAlt (nUn tri) a b c e), .bl (doAlt (nUn tri) a b c e), .bl (doAlt (nUn tri) a b c e), .bl (doAlt (nUn tri) a b c e)] ++ [.bl (doAlt (nUn tri) a b c e)])) Tc fL
        have gr := sltS Sr hgs
        have tor := sqTS Sr to
        have eR : upd Kc L (.lst ([.bl (doAlt (nUn tri) a b c e), .bl (doAlt (nUn tri) a b c e), .bl (doAlt (nUn tri) a b c e), .bl (doAlt (nUn tri) a b c e)] ++ [.bl (doAlt (nUn tri) a b c e)])) L = _ := upd_same
        generalize upd Kc L (.lst ([.bl (doAlt (nUn tri) a b c e), .bl (doAlt (nUn tri) a b c e), .bl (doAlt (nUn tri) a b c e), .bl (doAlt (nUn tri) a b c e)] ++ [.bl (doAlt (nUn tri) a b c e)]) ) = Hr at *
        replace eR : Hr L = some (.lst [.bl (doAlt (nUn tri) a b c e), .bl (doAlt (nUn tri) a b c e), .bl (doAlt (nUn tri) a b c e), .bl (doAlt (nUn tri) a b c e), .bl (doAlt (nUn tri) a b c e)]) := eR
        clear eL eQ
        walk_at "r"
        refine r_newT (by walk_at "len") fun q3 Kd md td ud => ?_
        have Td := Sr.trans td
        have tod := sqTS Td to
        walk_at "r"
        refine r_newT (by walk_at "len") fun q4 Ke me te ue => ?_
        have Te := Td.trans te
        have ge2 := sltS Te hgs
        walk_at "r"
        refine ⟨g, tri, _, _, _, _, _, _, rfl, ge.same Te, .of (te _ _ ud), .of ue, sm6 _ (by omega), sm6 _ (by omega), sm6 _ (by omega), sm6 _ (by omega), fun Kf tf => ?_⟩
        have Tf := Te.trans tf
        have eL := tf _ _ (te _ _ (td _ _ eR))
        rw [g4]
        walk_at "r"
        have Ss := sameMut (o := .lst ([.bl (doAlt (nUn tri) a b c e), .bl (doAlt (nUn tri) a b c e), .bl (doAlt (nUn tri) a b c e), .bl (doAlt (nUn tri) a b c e), .bl (doAlt (nUn tri) a b c e)] ++ [.bl (doAlt (nUn tri) a b c e)])) Tf fL
        have eS : upd Kf L (.lst ([.bl (doAlt (nUn tri) a b c e), .bl (doAlt (nUn tri) a b c e), .bl (doAlt (nUn tri) a b c e), .bl (doAlt (nUn tri) a b c e), .bl (doAlt (nUn tri) a b c e)] ++ [.bl (doAlt (nUn tri) a b c e)])) L = _ := upd_same
        generalize upd Kf L (.lst ([.bl (doAlt (nUn tri) a b c e), .bl (doAlt (nUn tri) a b c e), .bl (doAlt (nUn tri) a b c e), .bl (doAlt (nUn tri) a b c e), .bl (doAlt (nUn tri) a b c e)] ++ [.bl (doAlt (nUn tri) a b c e)]) ) = Hs at *
        replace eS : Hs L = some (.lst [.bl (doAlt (nUn tri) a b c e), .bl (doAlt (nUn tri) a b c e), .bl (doAlt (nUn tri) a b c e), .bl (doAlt (nUn tri) a b c e), .bl (doAlt (nUn tri) a b c e), .bl (doAlt (nUn tri) a b c e)]) := eS
        clear eL eR
        generalize doAlt (nUn tri) a b c e = v at *
        walk_at "r"
        refine r_reprW (.list [.bool v, .bool v, .bool v, .bool v, .bool v, .bool v]) (.lst (SqL.of eS) (.cons (.bl _) (.cons (.bl _) (.cons (.bl _) (.cons (.bl _) (.cons (.bl _) (.cons (.bl _) .nil))))))) ⟨trivial, trivial, trivial, trivial, trivial, trivial, trivial⟩ (by show 1 ≤ 30; decide) (by simp only [wt, wtAll]; decide) ?_
        walk_at "r"
        refine r_newL (by walk_at "len") fun q5 Kg mg1 tg ug => ?_
        walk_at "r"
        refine r_rep ug (by decide) (by decide) (by show 1 ≤ 1000; decide) fun q6 Kh mh th uh => ?_
        walk_at "r"
        refine r_reprW (.list [.bool v, .bool v, .bool v, .bool v, .bool v, .bool v]) (.lst (SqL.of uh) (.cons (.bl _) (.cons (.bl _) (.cons (.bl _) (.cons (.bl _) (.cons (.bl _) (.cons (.bl _) .nil))))))) ⟨trivial, trivial, trivial, trivial, trivial, trivial, trivial⟩ (by show 1 ≤ 30; decide) (by simp only [wt, wtAll]; decide) ?_
        walk_at "r"
        refine iteNS rfl ?_
        walk_at "r"
        exact ⟨_, _, _, _, _, rfl, We.same ((Ss.trans tg).trans th)⟩
      · rintro σ Hj ⟨x7, x8, x9, x10, x11, rfl, wj⟩
        walk_at "r"
        exact ⟨_, _, _, _, _, _, rfl, wj⟩
    · rintro σ Hi ⟨x6, x7, x8, x9, x10, x11, rfl, wi⟩
      walk_at "r"
      exact k _ wi
end

end Law

set_option Elab.async false
set_option maxRecDepth 100000
set_option maxHeartbeats 4000000
set_option linter.all false
namespace Law
open PySem L2 Gl
local macro_rules | `(tactic| walk_at "lk") => `(tactic| first
  | assumption
  | (with_reducible exact upd_same)
  | ((with_reducible refine' Gl.lk_ne ?nlk ?lkk); (case nlk => walk_at "ne"); (case lkk => walk_at "lk")))
local macro_rules | `(tactic| walk_at "ne") => `(tactic| first
  | assumption
  | exact Ne.symm (by assumption)
  | exact ne_of_none (by assumption) (by assumption)
  | exact (ne_of_none (by assumption) (by assumption)).symm)
local macro_rules | `(tactic| walk_at "sq") => `(tactic| first
  | assumption
  | ((with_reducible refine' SqL.of ?hlk); (case hlk => walk_at "lk"))
  | ((with_reducible refine' SqT.of ?hlk); (case hlk => walk_at "lk")))
local macro_rules | `(tactic| walk_at "at") => `(tactic| first
  | exact at_0
  | exact at_1
  | exact at_2
  | exact at_3
  | exact ix_0
  | exact ix_1
  | exact ix_2
  | exact rfl
  | assumption)
local macro_rules | `(tactic| walk_at "len") => `(tactic| first
  | (simp only [List.length_cons, List.length_nil]; decide)
  | (refine Nat.le_trans (?_ : _ ≤ 1000) (by decide); first | assumption | omega | (simp; omega)))
local macro_rules | `(tactic| walk_at "lenlt") => `(tactic| first
  | (refine Nat.lt_of_le_of_lt (?_ : _ ≤ 100000) (by decide); first | assumption | omega | (simp only [List.length_cons, List.length_nil, List.length_append]; omega) | (simp; omega)))
local macro_rules | `(tactic| walk_at "kd") => `(tactic| first
  | assumption
  | exact Knd.non
  | exact Knd.bl _
  | exact Knd.int _
  | exact Knd.str _
  | ((with_reducible refine' Knd.tup ?hlk); (case hlk => walk_at "sq"))
  | ((with_reducible refine' Knd.lst ?hlk); (case hlk => walk_at "sq"))
  | ((with_reducible refine' Knd.dK ?hlk); (case hlk => walk_at "lk")))
local macro_rules | `(tactic| walk_at "om") => `(tactic| first | omega | decide | decide +kernel)
local macro_rules | `(tactic| walk_at "side") => `(tactic| first
  | assumption
  | (with_reducible refine Gl.cdiv ?_ ?_ <;> first | omega | decide +kernel)
  | (with_reducible refine Gl.cmulL ?_ ?_ <;> first | omega | decide +kernel)
  | (with_reducible refine Gl.cmulR ?_ ?_ <;> first | omega | decide +kernel)
  | (refine Nat.le_trans (?_ : _ ≤ 1000) (by decide); first | assumption | omega | (simp only [List.length_cons, List.length_nil]; omega))
  | (show (0 : Int) < _; omega)
  | (show (0 : Int) < _; decide +kernel)
  | (exact Or.inr (by unfold CMulW; decide +kernel))
  | (exact ⟨by decide, by decide +kernel⟩))
local macro_rules | `(tactic| walk_at "r1") => `(tactic| first
  | ((with_reducible refine' Gl.r_var ?hv ?_); (case hv => exact rfl))
  | (with_reducible refine Gl.r_c ?_)
  | (with_reducible refine Gl.r_op ?_)
  | (with_reducible refine Gl.r_i0 ?_)
  | ((with_reducible refine Gl.r_i ?hc ?_); (case hc => walk_at "side"))
  | (with_reducible refine Gl.r_cons ?_)
  | (with_reducible refine Gl.r_nil ?_)
  | (with_reducible refine Gl.r_call ?_)
  | (with_reducible refine Gl.r_cb ?_)
  | (with_reducible refine Gl.r_seq ?_)
  | (with_reducible refine Gl.r_asg ?_)
  | (with_reducible refine Gl.r_gname ?_)
  | (with_reducible refine Gl.r_ret ?_)
  | (with_reducible refine Gl.r_if ?_)
  | (with_reducible refine Gl.r_test ?_)
  | (with_reducible refine Gl.r_bl ?_)
  | (with_reducible refine Gl.r_B ?_)
  | ((with_reducible refine Gl.r_eq ?hc ?_); (case hc => exact rfl))
  | ((with_reducible refine Gl.r_ne ?hc ?_); (case hc => exact rfl))
  | ((with_reducible refine' Gl.r_ixL ?hs ?hi ?_); (case hs => walk_at "sq"); (case hi => walk_at "at"))
  | ((with_reducible refine' Gl.r_ixT ?hs ?hi ?_); (case hs => walk_at "sq"); (case hi => walk_at "at"))
  | (with_reducible refine Gl.r_un ?_)
  | (with_reducible refine Gl.r_u ?_)
  | (with_reducible refine Gl.r_notV ?_)
  | (with_reducible refine Gl.r_ifE ?_)
  | (with_reducible refine Gl.r_chain ?_)
  | (with_reducible refine Gl.r_and ?_)
  | (with_reducible refine Gl.r_or ?_)
  | (with_reducible refine Gl.r_not ?_)
  | (with_reducible refine Gl.r_par ?_)
  | (with_reducible refine Gl.r_next ?_)
  | (with_reducible refine Gl.r_brk ?_)
  | (with_reducible refine Gl.r_cont ?_)
  | (with_reducible refine Gl.r_drop ?_)
  | (with_reducible refine Gl.r_retN ?_)
  | (with_reducible refine Gl.r_gsub ?_)
  | ((with_reducible refine' Gl.r_setL ?hs ?hi ?_); (case hs => walk_at "lk"); (case hi => walk_at "at"))
  | (with_reducible refine Gl.r_gnil ?_)
  | (with_reducible refine Gl.r_gcons ?_)
  | ((with_reducible refine' Gl.r_gtup ?hs ?hi ?_); (case hs => walk_at "sq"); (case hi => walk_at "at"))
  | (with_reducible refine Gl.r_tup ?_)
  | (with_reducible refine Gl.r_lst ?_)
  | (with_reducible refine Gl.r_bm ?_)
  | (with_reducible refine Gl.r_bm0 ?_)
  | (with_reducible refine Gl.r_yes ?_)
  | ((with_reducible refine Gl.r_wipe ?hs ?_); (case hs => exact rfl))
  | ((with_reducible refine' Gl.r_tyL ?hs ?_); (case hs => walk_at "sq"))
  | ((with_reducible refine' Gl.r_app ?hs ?hi ?_); (case hs => walk_at "lk"); (case hi => walk_at "lenlt"))
  | (with_reducible refine Gl.r_isB ?_)
  | (with_reducible refine Gl.r_notB ?_)
  | (with_reducible refine Gl.r_sl ?_)
  | (with_reducible refine Gl.r_noPart ?_)
  | (with_reducible refine Gl.r_part ?_)
  | (with_reducible refine Gl.r_partK ?_)
  | (with_reducible refine Gl.r_enum ?_)
  | ((with_reducible refine' Gl.r_enk ?hs ?_); (case hs => walk_at "sq"))
  | (with_reducible refine Gl.r_for ?_)
  | (with_reducible refine Gl.r_lc ?_)
  | (with_reducible refine Gl.r_rng1 ?_)
  | ((with_reducible refine Gl.r_rng1k ?hs ?hi ?_); (case hs => walk_at "om"); (case hi => walk_at "om"))
  | (with_reducible refine Gl.r_rng2 ?_)
  | ((with_reducible refine Gl.r_rng2k ?hs ?hi ?hs2 ?hi2 ?_); (case hs => walk_at "om"); (case hi => walk_at "om"); (case hs2 => walk_at "om"); (case hi2 => walk_at "om"))
  | (with_reducible refine Gl.r_iList ?_)
  | (with_reducible refine Gl.r_iTup ?_)
  | (with_reducible refine Gl.r_iStr ?_)
  | (with_reducible refine Gl.r_iSk ?_)
  | ((with_reducible refine' Gl.r_iLk ?hs ?_); (case hs => walk_at "sq"))
  | ((with_reducible refine' Gl.r_iTk ?hs ?_); (case hs => walk_at "sq"))
  | ((with_reducible refine' Gl.r_lenL ?hs ?_); (case hs => walk_at "sq"))
  | ((with_reducible refine' Gl.r_lenT ?hs ?_); (case hs => walk_at "sq"))
  | ((with_reducible refine' Gl.r_lenS ?hs ?_); (case hs => walk_at "side"))
  | ((with_reducible refine' Gl.r_isiT ?hs ?hi ?hj ?_); (case hs => walk_at "kd"); (case hi => decide); (case hj => decide))
  | ((with_reducible refine' Gl.r_isiF ?hs ?hi ?hj ?_); (case hs => walk_at "kd"); (case hi => decide); (case hj => decide))
  | (with_reducible refine iteT ?_)
  | (with_reducible refine iteF ?_)
  | (with_reducible refine Gl.iteNF ?_)
  | (with_reducible refine Gl.iteNT ?_)
  | (with_reducible refine Gl.e_oi ?_)
  | (with_reducible refine Gl.e_ob ?_)
  | (with_reducible refine Gl.e_i ?_)
  | (with_reducible refine Gl.e_b ?_)
  | (with_reducible refine Gl.e_s ?_)
  | (with_reducible refine Gl.e_ii ?_)
  | (with_reducible refine Gl.e_vv ?_)
  | (with_reducible refine Gl.e_vvv ?_)
  | (with_reducible refine Gl.e_cs ?_)
  | (with_reducible refine Gl.e_ss ?_))
local macro_rules | `(tactic| walk_at "r") => `(tactic| repeat (walk_at "r1"))
local macro_rules | `(tactic| walk_at "ra") => `(tactic| repeat (first
  | (walk_at "r1")
  | (with_reducible refine Gl.r_andV ?_)
  | (with_reducible refine Gl.r_orV ?_)))
local macro_rules | `(tactic| walk_at "dp") => `(tactic| first
  | exact Dp.non
  | exact Dp.bl _
  | exact Dp.int _
  | exact Dp.str _
  | assumption
  | ((with_reducible refine' Dp.lst ?hlk ?hla); (case hlk => walk_at "sq"); (case hla => walk_at "dpa"))
  | ((with_reducible refine' Dp.tup ?hlk ?hla); (case hlk => walk_at "sq"); (case hla => walk_at "dpa")))
local macro_rules | `(tactic| walk_at "dpa") => `(tactic| first
  | exact DpAll.nil
  | assumption
  | ((with_reducible refine' DpAll.cons ?hlk ?hla); (case hlk => walk_at "dp"); (case hla => walk_at "dpa")))

local macro_rules | `(tactic| walk_at "cls") => `(tactic| first
  | exact Txt.sc_Grid (by assumption))
local macro_rules | `(tactic| walk_at "slot") => `(tactic| first
  | exact Txt.sl_Grid_own_name (by assumption)
  | exact Txt.sl_Grid_own_units (by assumption))
local macro_rules | `(tactic| walk_at "sq") => `(tactic| first
  | assumption
  | ((with_reducible refine' SqL.of ?hlk); (case hlk => walk_at "lk"))
  | ((with_reducible refine' SqT.of ?hlk); (case hlk => walk_at "lk"))
  | exact Txt.t_GRIDS (by assumption) _
  | exact Txt.t_SQUARE_UNITS (by assumption) _
  | exact Txt.t_TRIANGLE_UNITS (by assumption) _
  | exact Txt.t_SQUARE_UNITS_0 (by assumption) _
  | exact Txt.t_SQUARE_UNITS_1 (by assumption) _
  | exact Txt.t_SQUARE_UNITS_2 (by assumption) _
  | exact Txt.t_SQUARE_UNITS_3 (by assumption) _
  | exact Txt.t_TRIANGLE_UNITS_0 (by assumption) _
  | exact Txt.t_TRIANGLE_UNITS_1 (by assumption) _
  | exact Txt.t_TRIANGLE_UNITS_2 (by assumption) _
  | exact Txt.t_TRIANGLE_UNITS_3 (by assumption) _
  | exact Txt.t_TRIANGLE_UNITS_4 (by assumption) _
  | exact Txt.t_TRIANGLE_UNITS_5 (by assumption) _)
local macro_rules | `(tactic| walk_at "slt") => `(tactic| first
  | assumption
  | exact Gl.sltS (by assumption) (by assumption))
local macro_rules | `(tactic| walk_at "fl") => `(tactic| first | exact rfl | decide)
local macro_rules | `(tactic| walk_at "r2") => `(tactic| first
  | (with_reducible refine Gl.r_slE ?_)
  | ((with_reducible refine' Gl.r_slGet ?h1 ?h2 ?h3 ?h4 ?_); (case h1 => walk_at "slt"); (case h2 => walk_at "cls"); (case h3 => walk_at "slot"); (case h4 => exact rfl))
  | (with_reducible refine Gl.r_slS ?_)
  | ((with_reducible refine' Gl.r_slSet ?h1 ?h2 ?h3 ?_); (case h1 => walk_at "slt"); (case h2 => walk_at "cls"); (case h3 => walk_at "slot"))
  | (with_reducible refine Gl.r_methE ?_)
  | ((with_reducible refine' Gl.r_meth ?h1 ?_); (case h1 => walk_at "slt"))
  | (with_reducible refine Gl.r_propE ?_)
  | ((with_reducible refine' Gl.r_prop ?h1 ?_); (case h1 => walk_at "slt"))
  | (with_reducible refine Gl.r_makeE ?_)
  | ((with_reducible refine' Gl.r_inT ?h1 ?h2 ?h3 ?_); (case h1 => walk_at "sq"); (case h2 => walk_at "fl"); (case h3 => walk_at "fl"))
  | ((with_reducible refine' Gl.r_ninT ?h1 ?h2 ?h3 ?_); (case h1 => walk_at "sq"); (case h2 => walk_at "fl"); (case h3 => walk_at "fl"))
  | (with_reducible refine Gl.r_dgetE ?_)
  | ((with_reducible refine' Gl.r_dgetS ?h1 ?h2 ?_); (case h1 => walk_at "lk"); (case h2 => first | assumption | exact rfl | decide))
  | ((with_reducible refine' Gl.r_dgetI ?h1 ?h2 ?_); (case h1 => walk_at "lk"); (case h2 => first | assumption | exact rfl | decide))
  | ((with_reducible refine' Gl.r_i ?hc ?_); (case hc => exact Gl.cmulS (by assumption) (by assumption))))
local macro_rules | `(tactic| walk_at "r") => `(tactic| repeat (first | (walk_at "r1") | (walk_at "r2")))
local macro_rules | `(tactic| walk_at "ra") => `(tactic| repeat (first
  | (walk_at "r1")
  | (walk_at "r2")
  | (with_reducible refine Gl.r_andV ?_)
  | (with_reducible refine Gl.r_orV ?_)))
local macro_rules | `(tactic| walk_at "r3") => `(tactic| first
  | (with_reducible refine Gl.r_par3 ?_)
  | (with_reducible refine Gl.r_lenX ?_)
  | (with_reducible refine Gl.r_lenXK ?_)
  | (with_reducible refine Gl.r_lenSetD ?_)
  | (with_reducible refine Gl.r_star ?_)
  | ((with_reducible refine' Gl.r_starT ?h1 ?_); (case h1 => walk_at "sq"))
  | ((with_reducible refine' Gl.r_starL ?h1 ?_); (case h1 => walk_at "sq"))
  | ((with_reducible refine' Gl.r_lenOwn ?h1 ?_); (case h1 => walk_at "slt"))
  | ((with_reducible refine' Gl.r_unl ?h1 ?h2 ?_); (case h1 => walk_at "sq"); (case h2 => exact rfl))
  | ((with_reducible refine' Gl.r_ext ?h1 ?h2 ?h3 ?_); (case h1 => walk_at "lk"); (case h2 => walk_at "lk"); (case h3 => walk_at "len")))
local macro_rules | `(tactic| walk_at "r") => `(tactic| repeat (first | (walk_at "r1") | (walk_at "r2") | (walk_at "r3")))
local macro_rules | `(tactic| walk_at "ra") => `(tactic| repeat (first
  | (walk_at "r1")
  | (walk_at "r2")
  | (walk_at "r3")
  | (with_reducible refine Gl.r_andV ?_)
  | (with_reducible refine Gl.r_orV ?_)))

def sp_law (K : PySem.W.Frag) : Sp := fun vs H Q _ => ∃ (a : Addr) (ns : List Int), vs = [.ref a] ∧ SqL K H a (ns.map V.int) ∧ ns.length ≤ 63 ∧ ∀ H', Q (.bl true) H'
section
variable {P : Program} {w : World} {K : PySem.W.Frag} {mg : Str → Option Value} {base : Heap} {A : Ad} {D : Fd}
theorem ok_law (T : Txt K mg A D) (nd : base.NoDigits) : FnG P w K mg base CX0 14 A.a_law D.d_law ["_law_script"] (sp_law K) := by
  have R_Grid_alternate := FnOk.pos (ok_Grid_alternate (P := P) (w := w) (base := base) T) T.b_Grid_alternate
  have G_Grid___init__ := ok_Grid___init__ (P := P) (w := w) (base := base) T
  have G__law_dice := ok__law_dice (P := P) (w := w) (base := base) T
  have G__law_grid_plain := ok__law_grid_plain (P := P) (w := w) (base := base) T
  have G__law_turns_right := ok__law_turns_right (P := P) (w := w) (base := base) T nd
  have G__law_pairs_right := ok__law_pairs_right (P := P) (w := w) (base := base) T nd
  refine okG T.F_law sc_law (fun vs H Q E h => ?_) (fun cdv Ar outer s H vs Q E hG hr h => ?_)
  · obtain ⟨a, ns, rfl, _⟩ := h
    rfl
  · obtain ⟨a, ns, rfl, hS, hl, k⟩ := h
    have hu := hu_of hr
    refine ⟨_,
      (pss_cons (ps_for PassesOwn.never rfl (pi_range1 (by rfl) T.z_range (pa_cons (pe_callB (call_max2 rfl) (by rfl) T.z_max (by decide +kernel) (pa_cons pe_int (pa_cons (pe_callB (call_min2 rfl) (by rfl) T.z_min (by decide +kernel) (pa_cons pe_int (pa_cons (pe_callB call_lenA (by rfl) T.z_len (by decide +kernel) (pa_cons (pv 0) pa_nil)) pa_nil))) pa_nil))) pa_nil)) (pg_name (i := 1) sc_law.nd rfl (.inl rfl))
        (pss_cons (ps_set (i := 2) sc_law.nd rfl (.inl rfl) (pe_call G__law_dice (hr.mono (by decide)) (by rfl) T.g__law_dice T.F__law_dice.kp T.b__law_dice .nil pass0 (pa_cons (pv 0) (pa_cons (pv 1) pa_nil))))
        (pss_cons (ps_set (i := 3) sc_law.nd rfl (.inl rfl) (pe_call G__law_grid_plain (hr.mono (by decide)) (by rfl) T.g__law_grid_plain T.F__law_grid_plain.kp T.b__law_grid_plain .nil pass0 (pa_cons (pv 2) pa_nil)))
        (pss_cons (ps_set (i := 4) sc_law.nd rfl (.inl rfl) (pe_make T.mk_Grid G_Grid___init__ (hr.mono (by decide)) (by rfl) T.g_Grid T.b_Grid___init__ .nil pass0 (pa_cons (pe_dget hu (pv 3) pe_str (fun _ _ => rfl)) pa_nil)))
        (pss_one (ps_for PassesOwn.never rfl (pi_range1 (by rfl) T.z_range (pa_cons pe_int pa_nil)) (pg_name (i := 5) sc_law.nd rfl (.inl rfl))
        (pss_one (ps_if (PW.pt (pw_or (pt_not (pt_val (pe_callG G__law_turns_right hG (hr.mono (by decide)) (by rfl) T.g__law_turns_right T.F__law_turns_right.kp T.b__law_turns_right .nil pass0 (pa_cons (pv 2) (pa_cons (pv 3) (pa_cons (pv 4) pa_nil)))))) (pw_or1 (pt_not (pt_val (pe_callG G__law_pairs_right hG (hr.mono (by decide)) (by rfl) T.g__law_pairs_right T.F__law_pairs_right.kp T.b__law_pairs_right .nil pass0 (pa_cons (pv 2) (pa_cons (pv 3) (pa_cons (pv 4) pa_nil)))))))))
        (pss_one (ps_ret pe_bl))
        pss_nil))))))))
        (pss_cons (ps_par (i := 6) (j := 7) (by rfl) sc_law.nd rfl rfl (by decide) rfl rfl (pa_cons (pe_make T.mk_Grid G_Grid___init__ (hr.mono (by decide)) (by rfl) T.g_Grid T.b_Grid___init__ .nil pass0 (pa_cons pe_str pa_nil)) (pa_cons (pe_make T.mk_Grid G_Grid___init__ (hr.mono (by decide)) (by rfl) T.g_Grid T.b_Grid___init__ .nil pass0 (pa_cons pe_str pa_nil)) pa_nil)) (by rfl))
        (pss_cons (ps_set (i := 8) sc_law.nd rfl (.inl rfl) (pe_lst (pa_cons (SlX.pe_methSl (pv 6) T.sc_Grid T.m_Grid_alternate R_Grid_alternate (hr.mono (by decide)) pass0 (pa_cons (pe_tup (pa_cons pe_int (pa_cons pe_int pa_nil))) (pa_cons (pe_tup (pa_cons pe_int (pa_cons pe_int pa_nil))) pa_nil))) (pa_cons (SlX.pe_methSl (pv 6) T.sc_Grid T.m_Grid_alternate R_Grid_alternate (hr.mono (by decide)) pass0 (pa_cons (pe_tup (pa_cons pe_int (pa_cons pe_int pa_nil))) (pa_cons (pe_tup (pa_cons pe_int (pa_cons pe_int pa_nil))) pa_nil))) (pa_cons (SlX.pe_methSl (pv 7) T.sc_Grid T.m_Grid_alternate R_Grid_alternate (hr.mono (by decide)) pass0 (pa_cons (pe_tup (pa_cons pe_int (pa_cons pe_int pa_nil))) (pa_cons (pe_tup (pa_cons pe_int (pa_cons pe_int pa_nil))) pa_nil))) pa_nil)))))
        (pss_cons (ps_set (i := 8) sc_law.nd rfl (.inl rfl) (pe_op op_cat (pv 8) (pe_lst (pa_cons (SlX.pe_methSl (pv 7) T.sc_Grid T.m_Grid_alternate R_Grid_alternate (hr.mono (by decide)) pass0 (pa_cons (pe_tup (pa_cons pe_int (pa_cons pe_int pa_nil))) (pa_cons (pe_tup (pa_cons pe_int (pa_cons pe_int pa_nil))) pa_nil))) (pa_cons (SlX.pe_methSl (pv 7) T.sc_Grid T.m_Grid_alternate R_Grid_alternate (hr.mono (by decide)) pass0 (pa_cons (pe_tup (pa_cons pe_int (pa_cons pe_int pa_nil))) (pa_cons (pe_tup (pa_cons pe_int (pa_cons pe_int pa_nil))) pa_nil))) pa_nil)))))
        (pss_cons (ps_expr (pe_bm PySem.F.plainAttrs_list PySem.F.slot_list_append PySem.F.type_list_append mt_append (pv 8) (pa_cons (SlX.pe_methSl (pv 6) T.sc_Grid T.m_Grid_alternate R_Grid_alternate (hr.mono (by decide)) pass0 (pa_cons (pe_tup (pa_cons pe_int (pa_cons pe_int pa_nil))) (pa_cons (pe_tup (pa_cons pe_int (pa_cons pe_int pa_nil))) pa_nil))) pa_nil)))
        (pss_one (ps_ret (pe_cmpR (op_eqD hr.units) (pv 8) (pe_lst (pa_cons pe_bl (pa_cons pe_bl (pa_cons pe_bl (pa_cons pe_bl (pa_cons pe_bl (pa_cons pe_bl pa_nil))))))) (nomark _))))))))), ?_⟩
    walk_at "r"
    refine fk_rng (fun i σ H' => ∃ x1 x2 x3 x4 x5 x6 x7 x8, σ = [some (.ref a), x1, x2, x3, x4, x5, x6, x7, x8] ∧ Same H H') ⟨_, _, _, _, _, _, _, _, rfl, Same.refl _⟩ ?_ ?_
    · rintro i σ H1 hi ⟨x1, x2, x3, x4, x5, x6, x7, x8, rfl, sm⟩
      walk_at "r"
      refine ⟨a, ns, i, by rw [Int.zero_add]; rfl, sm.seq hS, fun d l s c hd => ?_⟩
      have B1 : Bs H d (upd H1 d (.lst [.int l, .int s, .int c])) := ⟨sm.trans (Same.new hd), sm.free hd, ⟨l, s, c, upd_same⟩⟩
      generalize upd H1 d (.lst [.int l, .int s, .int c]) = H2 at B1
      walk_at "r"
      refine ⟨d, rfl, B1.dice, fun tri v0 H3 w3 h0 => ?_⟩
      have B3 := B1.went w3
      obtain ⟨q, rfl, h0'⟩ := id h0
      walk_at "r"
      refine mk_grid tri rfl fun g H4 s4 n4 hg => ?_
      have B4 := B3.more s4
      replace h0 := h0.same s4
      walk_at "r"
      refine fk_rng (fun j σ H' => ∃ x5 x6 x7 x8, σ = [some (.ref a), some (.int (0 + (i : Nat))), some (.ref d), some (.ref q), some (.ref g), x5, x6, x7, x8] ∧ Bs H d H' ∧ PlainAt H' (.ref q) tri ∧ GridAt A H' g tri) ⟨_, _, _, _, rfl, B4, h0, hg⟩ ?_ ?_
      · rintro j σ H5 hj ⟨x5, x6, x7, x8, rfl, B5, h5, g5⟩
        walk_at "r"
        refine ⟨tri, d, _, _, rfl, B5.dice, h5, g5, fun H6 w6 => ?_⟩
        have B6 := B5.went w6
        have h6 := h5.went B5.dice w6
        have g6 := g5.went B5.dice w6
        walk_at "r"
        refine ⟨tri, d, _, _, rfl, B6.dice, h6, g6, fun H9 w9 => ?_⟩
        walk_at "r"
        exact ⟨_, _, _, _, rfl, B6.went w9, h6.went B6.dice w9, g6.went B6.dice w9⟩
      · rintro σ H5 ⟨x5, x6, x7, x8, rfl, B5, _, _⟩
        walk_at "r"
        exact ⟨_, _, _, _, _, _, _, _, rfl, B5.same⟩
    · rintro σ H1 ⟨x1, x2, x3, x4, x5, x6, x7, x8, rfl, sm⟩
      clear sm hS
      walk_at "r"
      have i0 : IsI 0 := isI_lt.mpr (by decide +kernel)
      have i1 : IsI 1 := isI_lt.mpr (by decide +kernel)
      have i2 : IsI 2 := isI_lt.mpr (by decide +kernel)
      have i3 : IsI 3 := isI_lt.mpr (by decide +kernel)
      have i5 : IsI 5 := isI_lt.mpr (by decide +kernel)
      refine mk_grid false rfl fun gs H2 s2 n2 hs => ?_
      walk_at "r"
      refine mk_grid true rfl fun gt H3 s3 n3 ht => ?_
      replace hs := hs.same s3
      obtain ⟨ds, hs'⟩ := id hs
      obtain ⟨dt, ht'⟩ := id ht
      clear s2 s3 n2 n3
      have S0 := Same.refl H3
      walk_at "r"
      refine r_newT (by walk_at "len") fun a1 Ha1 na1 sa1 ea1 => ?_
      walk_at "r"
      refine r_newT (by walk_at "len") fun b1 Hb1 nb1 sb1 eb1 => ?_
      have Sb1 := (S0.trans sa1).trans sb1
      have gb1 := sltS Sb1 hs'
      walk_at "r"
      refine ⟨gs, false, _, _, 0, 2, 1, 3, rfl, hs.same Sb1, .of (sb1 _ _ ea1), .of eb1, i0, i2, i1, i3, fun Hc1 sc1 => ?_⟩
      rw [show alt (nUn false) 0 2 1 3 = true by decide +kernel]
      have S1 := Sb1.trans sc1
      have gs1 := sltS S1 hs'
      have gt1 := sltS S1 ht'
      walk_at "r"
      refine r_newT (by walk_at "len") fun a2 Ha2 na2 sa2 ea2 => ?_
      walk_at "r"
      refine r_newT (by walk_at "len") fun b2 Hb2 nb2 sb2 eb2 => ?_
      have Sb2 := (S1.trans sa2).trans sb2
      have gb2 := sltS Sb2 hs'
      walk_at "r"
      refine ⟨gs, false, _, _, 0, 1, 2, 3, rfl, hs.same Sb2, .of (sb2 _ _ ea2), .of eb2, i0, i1, i2, i3, fun Hc2 sc2 => ?_⟩
      rw [show alt (nUn false) 0 1 2 3 = false by decide +kernel]
      have S2 := Sb2.trans sc2
      have gs2 := sltS S2 hs'
      have gt2 := sltS S2 ht'
      walk_at "r"
      refine r_newT (by walk_at "len") fun a3 Ha3 na3 sa3 ea3 => ?_
      walk_at "r"
      refine r_newT (by walk_at "len") fun b3 Hb3 nb3 sb3 eb3 => ?_
      have Sb3 := (S2.trans sa3).trans sb3
      have gb3 := sltS Sb3 ht'
      walk_at "r"
      refine ⟨gt, true, _, _, 0, 2, 1, 3, rfl, ht.same Sb3, .of (sb3 _ _ ea3), .of eb3, i0, i2, i1, i3, fun Hc3 sc3 => ?_⟩
      rw [show alt (nUn true) 0 2 1 3 = true by decide +kernel]
      have S3 := Sb3.trans sc3
      have gs3 := sltS S3 hs'
      have gt3 := sltS S3 ht'
      walk_at "r"
      refine r_newL (by walk_at "len") fun L1 Hd nd1 sd ed => ?_
      have Sd := S3.trans sd
      have gsd := sltS Sd hs'
      have gtd := sltS Sd ht'
      walk_at "r"
      refine r_newT (by walk_at "len") fun a4 Ha4 na4 sa4 ea4 => ?_
      walk_at "r"
      refine r_newT (by walk_at "len") fun b4 Hb4 nb4 sb4 eb4 => ?_
      have Sb4 := (Sd.trans sa4).trans sb4
      have gb4 := sltS Sb4 ht'
      walk_at "r"
      refine ⟨gt, true, _, _, 0, 2, 3, 5, rfl, ht.same Sb4, .of (sb4 _ _ ea4), .of eb4, i0, i2, i3, i5, fun Hc4 sc4 => ?_⟩
      rw [show alt (nUn true) 0 2 3 5 = false by decide +kernel]
      have S4 := Sb4.trans sc4
      have gs4 := sltS S4 hs'
      have gt4 := sltS S4 ht'
      walk_at "r"
      refine r_newT (by walk_at "len") fun a5 Ha5 na5 sa5 ea5 => ?_
      walk_at "r"
      refine r_newT (by walk_at "len") fun b5 Hb5 nb5 sb5 eb5 => ?_
      have Sb5 := (S4.trans sa5).trans sb5
      have gb5 := sltS Sb5 ht'
      walk_at "r"
      refine ⟨gt, true, _, _, 0, 3, 1, 5, rfl, ht.same Sb5, .of (sb5 _ _ ea5), .of eb5, i0, i3, i1, i5, fun Hc5 sc5 => ?_⟩
      rw [show alt (nUn true) 0 3 1 5 = true by decide +kernel]
      have S5 := Sb5.trans sc5
      have gs5 := sltS S5 hs'
      have gt5 := sltS S5 ht'
      walk_at "r"
      refine r_newL (by walk_at "len") fun L2 He ne se ee => ?_
      have ed' := se _ _ (sc5 _ _ (sb5 _ _ (sa5 _ _ (sc4 _ _ (sb4 _ _ (sa4 _ _ ed))))))
      walk_at "r"
      refine r_cat ed' ee (by decide) fun L3 Hf nf sf ef => ?_
      have Sf := (S5.trans se).trans sf
      have gsf := sltS Sf hs'
      replace ef : Hf L3 = some (.lst [.bl true, .bl false, .bl true, .bl false, .bl true]) := ef
      walk_at "r"
      refine r_newT (by walk_at "len") fun a6 Ha6 na6 sa6 ea6 => ?_
      walk_at "r"
      refine r_newT (by walk_at "len") fun b6 Hb6 nb6 sb6 eb6 => ?_
      have Sb6 := (Sf.trans sa6).trans sb6
      have gb6 := sltS Sb6 hs'
      walk_at "r"
      refine ⟨gs, false, _, _, 0, 0, 1, 3, rfl, hs.same Sb6, .of (sb6 _ _ ea6), .of eb6, i0, i0, i1, i3, fun Hc6 sc6 => ?_⟩
      rw [show alt (nUn false) 0 0 1 3 = false by decide +kernel]
      have S6 := Sb6.trans sc6
      have gs6 := sltS S6 hs'
      have gt6 := sltS S6 ht'
      have ef' := sc6 _ _ (sb6 _ _ (sa6 _ _ ef))
      walk_at "r"
      refine r_newL (by walk_at "len") fun L4 Hg ng sg eg => ?_
      have eL : Hg L3 = some (.lst [.bl true, .bl false, .bl true, .bl false, .bl true, .bl false]) := sg _ _ upd_same
      walk_at "r"
      refine r_eqDT (e := .list [.bool true, .bool false, .bool true, .bool false, .bool true, .bool false]) (by walk_at "dp") (by walk_at "dp") rfl ?_
      exact k _
end
theorem all_mk {l : PySem.W.OpenLaw} {w : World} {K : PySem.W.Frag} {h : Heap} {mg : Str → Option Value} {fa : Addr} (X : K.In h) (G : h.Ns mainGlobals mg) (hfa : mg "law" = some (.ref fa))
    {od0 an0 : Option Addr} {sl0 : Array (Option Value)} {oc0 kV0 dc0 pm0 cd0 ct0 : Value} {f0 : Addr}
    {od1 an1 : Option Addr} {sl1 : Array (Option Value)} {oc1 kV1 dc1 pm1 cd1 ct1 : Value} {f1 : Addr}
    {od2 an2 : Option Addr} {sl2 : Array (Option Value)} {oc2 kV2 dc2 pm2 cd2 ct2 : Value} {f2 : Addr}
    {od3 an3 : Option Addr} {sl3 : Array (Option Value)} {oc3 kV3 dc3 pm3 cd3 ct3 : Value} {f3 : Addr}
    {od4 an4 : Option Addr} {sl4 : Array (Option Value)} {oc4 kV4 dc4 pm4 cd4 ct4 : Value} {f4 : Addr}
    {od5 an5 : Option Addr} {sl5 : Array (Option Value)} {oc5 kV5 dc5 pm5 cd5 ct5 : Value} {f5 : Addr}
    {od6 an6 : Option Addr} {sl6 : Array (Option Value)} {oc6 kV6 dc6 pm6 cd6 ct6 : Value} {f6 : Addr}
    {od7 an7 : Option Addr} {sl7 : Array (Option Value)} {oc7 kV7 dc7 pm7 cd7 ct7 : Value} {f7 : Addr}
    {od8 an8 : Option Addr} {sl8 : Array (Option Value)} {oc8 kV8 dc8 pm8 cd8 ct8 : Value} {f8 : Addr}
    {od9 an9 : Option Addr} {sl9 : Array (Option Value)} {oc9 kV9 dc9 pm9 cd9 ct9 : Value} {f9 : Addr}
    {od10 an10 : Option Addr} {sl10 : Array (Option Value)} {oc10 kV10 dc10 pm10 cd10 ct10 : Value} {f10 : Addr}
    {od11 an11 : Option Addr} {sl11 : Array (Option Value)} {oc11 kV11 dc11 pm11 cd11 ct11 : Value} {f11 : Addr}
    {od12 an12 : Option Addr} {sl12 : Array (Option Value)} {oc12 kV12 dc12 pm12 cd12 ct12 : Value} {f12 : Addr}
    {od13 an13 : Option Addr} {sl13 : Array (Option Value)} {oc13 kV13 dc13 pm13 cd13 ct13 : Value} {f13 : Addr}
    {od14 an14 : Option Addr} {sl14 : Array (Option Value)} {oc14 kV14 dc14 pm14 cd14 ct14 : Value} {f14 : Addr}
    {od15 an15 : Option Addr} {sl15 : Array (Option Value)} {oc15 kV15 dc15 pm15 cd15 ct15 : Value} {f15 : Addr}
    {od16 an16 : Option Addr} {sl16 : Array (Option Value)} {oc16 kV16 dc16 pm16 cd16 ct16 : Value} {f16 : Addr}
    {od17 an17 : Option Addr} {sl17 : Array (Option Value)} {oc17 kV17 dc17 pm17 cd17 ct17 : Value} {f17 : Addr}
    {od18 an18 : Option Addr} {sl18 : Array (Option Value)} {oc18 kV18 dc18 pm18 cd18 ct18 : Value} {f18 : Addr}
    {od19 an19 : Option Addr} {sl19 : Array (Option Value)} {oc19 kV19 dc19 pm19 cd19 ct19 : Value} {f19 : Addr}
    {od20 an20 : Option Addr} {sl20 : Array (Option Value)} {oc20 kV20 dc20 pm20 cd20 ct20 : Value} {f20 : Addr}
    {od21 an21 : Option Addr} {sl21 : Array (Option Value)} {oc21 kV21 dc21 pm21 cd21 ct21 : Value} {f21 : Addr}
    {od22 an22 : Option Addr} {sl22 : Array (Option Value)} {oc22 kV22 dc22 pm22 cd22 ct22 : Value} {f22 : Addr}
    {od23 an23 : Option Addr} {sl23 : Array (Option Value)} {oc23 kV23 dc23 pm23 cd23 ct23 : Value} {f23 : Addr}
    {od24 an24 : Option Addr} {sl24 : Array (Option Value)} {oc24 kV24 dc24 pm24 cd24 ct24 : Value} {f24 : Addr}
    {od25 an25 : Option Addr} {sl25 : Array (Option Value)} {oc25 kV25 dc25 pm25 cd25 ct25 : Value} {f25 : Addr}
    {od26 an26 : Option Addr} {sl26 : Array (Option Value)} {oc26 kV26 dc26 pm26 cd26 ct26 : Value} {f26 : Addr}
    {od27 an27 : Option Addr} {sl27 : Array (Option Value)} {oc27 kV27 dc27 pm27 cd27 ct27 : Value} {f27 : Addr}
    {od28 an28 : Option Addr} {sl28 : Array (Option Value)} {oc28 kV28 dc28 pm28 cd28 ct28 : Value} {f28 : Addr}
    {od29 an29 : Option Addr} {sl29 : Array (Option Value)} {oc29 kV29 dc29 pm29 cd29 ct29 : Value} {f29 : Addr}
    {od30 an30 : Option Addr} {sl30 : Array (Option Value)} {oc30 kV30 dc30 pm30 cd30 ct30 : Value} {f30 : Addr}
    {od31 an31 : Option Addr} {sl31 : Array (Option Value)} {oc31 kV31 dc31 pm31 cd31 ct31 : Value} {f31 : Addr}
    {od32 an32 : Option Addr} {sl32 : Array (Option Value)} {oc32 kV32 dc32 pm32 cd32 ct32 : Value} {f32 : Addr}
    {u_LIMIT : Value}
    {u_SQUARE : Value}
    {u_TRIANGLE : Value}
    {C_Grid : Addr}
    {p_Grid_own_name : Addr}
    {p_Grid_own_units : Addr}
    {q_Grid_half : Addr} {w_Grid_half : List Value}
    {u_GRIDS : Addr} {o_GRIDS : Option Addr} {n_GRIDS : Nat} {s_GRIDS : Array (Option Value)} {v_GRIDS : Array Value}
    {u_SQUARE_UNITS : Addr} {o_SQUARE_UNITS : Option Addr} {n_SQUARE_UNITS : Nat} {s_SQUARE_UNITS : Array (Option Value)} {v_SQUARE_UNITS : Array Value}
    {u_SQUARE_UNITS_0 : Addr} {o_SQUARE_UNITS_0 : Option Addr} {n_SQUARE_UNITS_0 : Nat} {s_SQUARE_UNITS_0 : Array (Option Value)} {v_SQUARE_UNITS_0 : Array Value}
    {u_SQUARE_UNITS_1 : Addr} {o_SQUARE_UNITS_1 : Option Addr} {n_SQUARE_UNITS_1 : Nat} {s_SQUARE_UNITS_1 : Array (Option Value)} {v_SQUARE_UNITS_1 : Array Value}
    {u_SQUARE_UNITS_2 : Addr} {o_SQUARE_UNITS_2 : Option Addr} {n_SQUARE_UNITS_2 : Nat} {s_SQUARE_UNITS_2 : Array (Option Value)} {v_SQUARE_UNITS_2 : Array Value}
    {u_SQUARE_UNITS_3 : Addr} {o_SQUARE_UNITS_3 : Option Addr} {n_SQUARE_UNITS_3 : Nat} {s_SQUARE_UNITS_3 : Array (Option Value)} {v_SQUARE_UNITS_3 : Array Value}
    {u_TRIANGLE_UNITS : Addr} {o_TRIANGLE_UNITS : Option Addr} {n_TRIANGLE_UNITS : Nat} {s_TRIANGLE_UNITS : Array (Option Value)} {v_TRIANGLE_UNITS : Array Value}
    {u_TRIANGLE_UNITS_0 : Addr} {o_TRIANGLE_UNITS_0 : Option Addr} {n_TRIANGLE_UNITS_0 : Nat} {s_TRIANGLE_UNITS_0 : Array (Option Value)} {v_TRIANGLE_UNITS_0 : Array Value}
    {u_TRIANGLE_UNITS_1 : Addr} {o_TRIANGLE_UNITS_1 : Option Addr} {n_TRIANGLE_UNITS_1 : Nat} {s_TRIANGLE_UNITS_1 : Array (Option Value)} {v_TRIANGLE_UNITS_1 : Array Value}
    {u_TRIANGLE_UNITS_2 : Addr} {o_TRIANGLE_UNITS_2 : Option Addr} {n_TRIANGLE_UNITS_2 : Nat} {s_TRIANGLE_UNITS_2 : Array (Option Value)} {v_TRIANGLE_UNITS_2 : Array Value}
    {u_TRIANGLE_UNITS_3 : Addr} {o_TRIANGLE_UNITS_3 : Option Addr} {n_TRIANGLE_UNITS_3 : Nat} {s_TRIANGLE_UNITS_3 : Array (Option Value)} {v_TRIANGLE_UNITS_3 : Array Value}
    {u_TRIANGLE_UNITS_4 : Addr} {o_TRIANGLE_UNITS_4 : Option Addr} {n_TRIANGLE_UNITS_4 : Nat} {s_TRIANGLE_UNITS_4 : Array (Option Value)} {v_TRIANGLE_UNITS_4 : Array Value}
    {u_TRIANGLE_UNITS_5 : Addr} {o_TRIANGLE_UNITS_5 : Option Addr} {n_TRIANGLE_UNITS_5 : Nat} {s_TRIANGLE_UNITS_5 : Array (Option Value)} {v_TRIANGLE_UNITS_5 : Array Value}
    (gC_Grid : PySem.W.nsIn K mainGlobals "Grid" = some (some (.ref C_Grid)))
    (s1_Grid : PySem.W.plainGet K C_Grid Str.empty = true)
    (s2_Grid : PySem.W.isClsIn K C_Grid = true)
    (s3_Grid : PySem.W.plainOver K C_Grid = true)
    (s4_Grid : PySem.W.findIn K (.ref C_Grid) "__setattr__" = some (some (.builtin "object.__setattr__")))
    (t1_Grid_own_name : PySem.W.findIn K (.ref C_Grid) "own_name" = some (some (.ref p_Grid_own_name)))
    (t2_Grid_own_name : PySem.W.specialIn K (.ref p_Grid_own_name) "__get__" = some (some (.builtin "member_descriptor.__get__")))
    (t3_Grid_own_name : PySem.W.takesIn K (.ref p_Grid_own_name) = some true)
    (t4_Grid_own_name : PySem.W.typeIn K (.ref p_Grid_own_name) = some (.type "member_descriptor"))
    (t5_Grid_own_name : PySem.W.slotIn K p_Grid_own_name C_Grid = some 0)
    (t1_Grid_own_units : PySem.W.findIn K (.ref C_Grid) "own_units" = some (some (.ref p_Grid_own_units)))
    (t2_Grid_own_units : PySem.W.specialIn K (.ref p_Grid_own_units) "__get__" = some (some (.builtin "member_descriptor.__get__")))
    (t3_Grid_own_units : PySem.W.takesIn K (.ref p_Grid_own_units) = some true)
    (t4_Grid_own_units : PySem.W.typeIn K (.ref p_Grid_own_units) = some (.type "member_descriptor"))
    (t5_Grid_own_units : PySem.W.slotIn K p_Grid_own_units C_Grid = some 1)
    (m1_Grid : PySem.W.makesIn K C_Grid = true)
    (m2_Grid : PySem.W.keepIn K (.ref C_Grid) = true)
    (a0 : PySem.W.nsIn K mainGlobals "is_integer" = some (some (.ref f0)))
    (l0 : K.lookup f0 = some ⟨oc0, od0, .func (PySem.W.fnOf "is_integer" "is_integer" (defArgs s_is_integer) (defBody s_is_integer) (defScope s_is_integer) .none kV0 dc0 pm0 an0 cd0 ct0), sl0⟩)
    (c0 : PySem.W.codeIn K cd0 "is_integer" = true)
    (k0 : PySem.W.keepIn K (.ref f0) = true)
    (a1 : PySem.W.nsIn K mainGlobals "is_point" = some (some (.ref f1)))
    (l1 : K.lookup f1 = some ⟨oc1, od1, .func (PySem.W.fnOf "is_point" "is_point" (defArgs s_is_point) (defBody s_is_point) (defScope s_is_point) .none kV1 dc1 pm1 an1 cd1 ct1), sl1⟩)
    (c1 : PySem.W.codeIn K cd1 "is_point" = true)
    (k1 : PySem.W.keepIn K (.ref f1) = true)
    (a2 : PySem.W.nsIn K mainGlobals "require_point" = some (some (.ref f2)))
    (l2 : K.lookup f2 = some ⟨oc2, od2, .func (PySem.W.fnOf "require_point" "require_point" (defArgs s_require_point) (defBody s_require_point) (defScope s_require_point) .none kV2 dc2 pm2 an2 cd2 ct2), sl2⟩)
    (c2 : PySem.W.codeIn K cd2 "require_point" = true)
    (k2 : PySem.W.keepIn K (.ref f2) = true)
    (a3 : PySem.W.nsIn K mainGlobals "require_integer" = some (some (.ref f3)))
    (l3 : K.lookup f3 = some ⟨oc3, od3, .func (PySem.W.fnOf "require_integer" "require_integer" (defArgs s_require_integer) (defBody s_require_integer) (defScope s_require_integer) .none kV3 dc3 pm3 an3 cd3 ct3), sl3⟩)
    (c3 : PySem.W.codeIn K cd3 "require_integer" = true)
    (k3 : PySem.W.keepIn K (.ref f3) = true)
    (a4 : PySem.W.nsIn K mainGlobals "are_ends" = some (some (.ref f4)))
    (l4 : K.lookup f4 = some ⟨oc4, od4, .func (PySem.W.fnOf "are_ends" "are_ends" (defArgs s_are_ends) (defBody s_are_ends) (defScope s_are_ends) .none kV4 dc4 pm4 an4 cd4 ct4), sl4⟩)
    (c4 : PySem.W.codeIn K cd4 "are_ends" = true)
    (k4 : PySem.W.keepIn K (.ref f4) = true)
    (a5 : PySem.W.findIn K (.ref C_Grid) "__init__" = some (some (.ref f5)))
    (i5 : PySem.W.isFn K (.ref f5) = true)
    (l5 : K.lookup f5 = some ⟨oc5, od5, .func (PySem.W.fnOf "__init__" "Grid.__init__" (defArgs s_Grid___init__) (defBody s_Grid___init__) (defScope s_Grid___init__) .none kV5 dc5 pm5 an5 cd5 ct5), sl5⟩)
    (c5 : PySem.W.codeIn K cd5 "Grid.__init__" = true)
    (k5 : PySem.W.keepIn K (.ref f5) = true)
    (r1_Grid_half : PySem.W.findIn K (.ref C_Grid) "half" = some (some (.ref q_Grid_half)))
    (r2_Grid_half : PySem.W.specialIn K (.ref q_Grid_half) "__get__" = some (some (.builtin "property.__get__")))
    (r3_Grid_half : PySem.W.takesIn K (.ref q_Grid_half) = some true)
    (r4_Grid_half : PySem.W.recIn K q_Grid_half "property" = some (.ref f6 :: w_Grid_half))
    (l6 : K.lookup f6 = some ⟨oc6, od6, .func (PySem.W.fnOf "half" "Grid.half" (defArgs s_Grid_half) (defBody s_Grid_half) (defScope s_Grid_half) .none kV6 dc6 pm6 an6 cd6 ct6), sl6⟩)
    (c6 : PySem.W.codeIn K cd6 "Grid.half" = true)
    (k6 : PySem.W.keepIn K (.ref f6) = true)
    (a7 : PySem.W.findIn K (.ref C_Grid) "modulo" = some (some (.ref f7)))
    (i7 : PySem.W.isFn K (.ref f7) = true)
    (l7 : K.lookup f7 = some ⟨oc7, od7, .func (PySem.W.fnOf "modulo" "Grid.modulo" (defArgs s_Grid_modulo) (defBody s_Grid_modulo) (defScope s_Grid_modulo) .none kV7 dc7 pm7 an7 cd7 ct7), sl7⟩)
    (c7 : PySem.W.codeIn K cd7 "Grid.modulo" = true)
    (k7 : PySem.W.keepIn K (.ref f7) = true)
    (a8 : PySem.W.findIn K (.ref C_Grid) "unit" = some (some (.ref f8)))
    (i8 : PySem.W.isFn K (.ref f8) = true)
    (l8 : K.lookup f8 = some ⟨oc8, od8, .func (PySem.W.fnOf "unit" "Grid.unit" (defArgs s_Grid_unit) (defBody s_Grid_unit) (defScope s_Grid_unit) .none kV8 dc8 pm8 an8 cd8 ct8), sl8⟩)
    (c8 : PySem.W.codeIn K cd8 "Grid.unit" = true)
    (k8 : PySem.W.keepIn K (.ref f8) = true)
    (a9 : PySem.W.findIn K (.ref C_Grid) "product_of" = some (some (.ref f9)))
    (i9 : PySem.W.isFn K (.ref f9) = true)
    (l9 : K.lookup f9 = some ⟨oc9, od9, .func (PySem.W.fnOf "product_of" "Grid.product_of" (defArgs s_Grid_product_of) (defBody s_Grid_product_of) (defScope s_Grid_product_of) .none kV9 dc9 pm9 an9 cd9 ct9), sl9⟩)
    (c9 : PySem.W.codeIn K cd9 "Grid.product_of" = true)
    (k9 : PySem.W.keepIn K (.ref f9) = true)
    (a10 : PySem.W.findIn K (.ref C_Grid) "turned_by" = some (some (.ref f10)))
    (i10 : PySem.W.isFn K (.ref f10) = true)
    (l10 : K.lookup f10 = some ⟨oc10, od10, .func (PySem.W.fnOf "turned_by" "Grid.turned_by" (defArgs s_Grid_turned_by) (defBody s_Grid_turned_by) (defScope s_Grid_turned_by) .none kV10 dc10 pm10 an10 cd10 ct10), sl10⟩)
    (c10 : PySem.W.codeIn K cd10 "Grid.turned_by" = true)
    (k10 : PySem.W.keepIn K (.ref f10) = true)
    (a11 : PySem.W.findIn K (.ref C_Grid) "square_of" = some (some (.ref f11)))
    (i11 : PySem.W.isFn K (.ref f11) = true)
    (l11 : K.lookup f11 = some ⟨oc11, od11, .func (PySem.W.fnOf "square_of" "Grid.square_of" (defArgs s_Grid_square_of) (defBody s_Grid_square_of) (defScope s_Grid_square_of) .none kV11 dc11 pm11 an11 cd11 ct11), sl11⟩)
    (c11 : PySem.W.codeIn K cd11 "Grid.square_of" = true)
    (k11 : PySem.W.keepIn K (.ref f11) = true)
    (a12 : PySem.W.findIn K (.ref C_Grid) "flipped" = some (some (.ref f12)))
    (i12 : PySem.W.isFn K (.ref f12) = true)
    (l12 : K.lookup f12 = some ⟨oc12, od12, .func (PySem.W.fnOf "flipped" "Grid.flipped" (defArgs s_Grid_flipped) (defBody s_Grid_flipped) (defScope s_Grid_flipped) .none kV12 dc12 pm12 an12 cd12 ct12), sl12⟩)
    (c12 : PySem.W.codeIn K cd12 "Grid.flipped" = true)
    (k12 : PySem.W.keepIn K (.ref f12) = true)
    (a13 : PySem.W.findIn K (.ref C_Grid) "norm_of" = some (some (.ref f13)))
    (i13 : PySem.W.isFn K (.ref f13) = true)
    (l13 : K.lookup f13 = some ⟨oc13, od13, .func (PySem.W.fnOf "norm_of" "Grid.norm_of" (defArgs s_Grid_norm_of) (defBody s_Grid_norm_of) (defScope s_Grid_norm_of) .none kV13 dc13 pm13 an13 cd13 ct13), sl13⟩)
    (c13 : PySem.W.codeIn K cd13 "Grid.norm_of" = true)
    (k13 : PySem.W.keepIn K (.ref f13) = true)
    (a14 : PySem.W.findIn K (.ref C_Grid) "conjugate_of" = some (some (.ref f14)))
    (i14 : PySem.W.isFn K (.ref f14) = true)
    (l14 : K.lookup f14 = some ⟨oc14, od14, .func (PySem.W.fnOf "conjugate_of" "Grid.conjugate_of" (defArgs s_Grid_conjugate_of) (defBody s_Grid_conjugate_of) (defScope s_Grid_conjugate_of) .none kV14 dc14 pm14 an14 cd14 ct14), sl14⟩)
    (c14 : PySem.W.codeIn K cd14 "Grid.conjugate_of" = true)
    (k14 : PySem.W.keepIn K (.ref f14) = true)
    (a15 : PySem.W.findIn K (.ref C_Grid) "turned" = some (some (.ref f15)))
    (i15 : PySem.W.isFn K (.ref f15) = true)
    (l15 : K.lookup f15 = some ⟨oc15, od15, .func (PySem.W.fnOf "turned" "Grid.turned" (defArgs s_Grid_turned) (defBody s_Grid_turned) (defScope s_Grid_turned) .none kV15 dc15 pm15 an15 cd15 ct15), sl15⟩)
    (c15 : PySem.W.codeIn K cd15 "Grid.turned" = true)
    (k15 : PySem.W.keepIn K (.ref f15) = true)
    (a16 : PySem.W.findIn K (.ref C_Grid) "are_alternate" = some (some (.ref f16)))
    (i16 : PySem.W.isFn K (.ref f16) = true)
    (l16 : K.lookup f16 = some ⟨oc16, od16, .func (PySem.W.fnOf "are_alternate" "Grid.are_alternate" (defArgs s_Grid_are_alternate) (defBody s_Grid_are_alternate) (defScope s_Grid_are_alternate) .none kV16 dc16 pm16 an16 cd16 ct16), sl16⟩)
    (c16 : PySem.W.codeIn K cd16 "Grid.are_alternate" = true)
    (k16 : PySem.W.keepIn K (.ref f16) = true)
    (a17 : PySem.W.findIn K (.ref C_Grid) "alternate" = some (some (.ref f17)))
    (i17 : PySem.W.isFn K (.ref f17) = true)
    (l17 : K.lookup f17 = some ⟨oc17, od17, .func (PySem.W.fnOf "alternate" "Grid.alternate" (defArgs s_Grid_alternate) (defBody s_Grid_alternate) (defScope s_Grid_alternate) .none kV17 dc17 pm17 an17 cd17 ct17), sl17⟩)
    (c17 : PySem.W.codeIn K cd17 "Grid.alternate" = true)
    (k17 : PySem.W.keepIn K (.ref f17) = true)
    (a18 : PySem.W.findIn K (.ref C_Grid) "__len__" = some (some (.ref f18)))
    (i18 : PySem.W.isFn K (.ref f18) = true)
    (l18 : K.lookup f18 = some ⟨oc18, od18, .func (PySem.W.fnOf "__len__" "Grid.__len__" (defArgs s_Grid___len__) (defBody s_Grid___len__) (defScope s_Grid___len__) .none kV18 dc18 pm18 an18 cd18 ct18), sl18⟩)
    (c18 : PySem.W.codeIn K cd18 "Grid.__len__" = true)
    (k18 : PySem.W.keepIn K (.ref f18) = true)
    (a19 : PySem.W.nsIn K mainGlobals "_law_dice" = some (some (.ref f19)))
    (l19 : K.lookup f19 = some ⟨oc19, od19, .func (PySem.W.fnOf "_law_dice" "_law_dice" (defArgs s__law_dice) (defBody s__law_dice) (defScope s__law_dice) .none kV19 dc19 pm19 an19 cd19 ct19), sl19⟩)
    (c19 : PySem.W.codeIn K cd19 "_law_dice" = true)
    (k19 : PySem.W.keepIn K (.ref f19) = true)
    (a20 : PySem.W.nsIn K mainGlobals "_law_roll" = some (some (.ref f20)))
    (l20 : K.lookup f20 = some ⟨oc20, od20, .func (PySem.W.fnOf "_law_roll" "_law_roll" (defArgs s__law_roll) (defBody s__law_roll) (defScope s__law_roll) .none kV20 dc20 pm20 an20 cd20 ct20), sl20⟩)
    (c20 : PySem.W.codeIn K cd20 "_law_roll" = true)
    (k20 : PySem.W.keepIn K (.ref f20) = true)
    (a21 : PySem.W.nsIn K mainGlobals "_law_pick" = some (some (.ref f21)))
    (l21 : K.lookup f21 = some ⟨oc21, od21, .func (PySem.W.fnOf "_law_pick" "_law_pick" (defArgs s__law_pick) (defBody s__law_pick) (defScope s__law_pick) .none kV21 dc21 pm21 an21 cd21 ct21), sl21⟩)
    (c21 : PySem.W.codeIn K cd21 "_law_pick" = true)
    (k21 : PySem.W.keepIn K (.ref f21) = true)
    (a22 : PySem.W.nsIn K mainGlobals "_law_around" = some (some (.ref f22)))
    (l22 : K.lookup f22 = some ⟨oc22, od22, .func (PySem.W.fnOf "_law_around" "_law_around" (defArgs s__law_around) (defBody s__law_around) (defScope s__law_around) .none kV22 dc22 pm22 an22 cd22 ct22), sl22⟩)
    (c22 : PySem.W.codeIn K cd22 "_law_around" = true)
    (k22 : PySem.W.keepIn K (.ref f22) = true)
    (a23 : PySem.W.nsIn K mainGlobals "_law_unit" = some (some (.ref f23)))
    (l23 : K.lookup f23 = some ⟨oc23, od23, .func (PySem.W.fnOf "_law_unit" "_law_unit" (defArgs s__law_unit) (defBody s__law_unit) (defScope s__law_unit) .none kV23 dc23 pm23 an23 cd23 ct23), sl23⟩)
    (c23 : PySem.W.codeIn K cd23 "_law_unit" = true)
    (k23 : PySem.W.keepIn K (.ref f23) = true)
    (a24 : PySem.W.nsIn K mainGlobals "_law_times" = some (some (.ref f24)))
    (l24 : K.lookup f24 = some ⟨oc24, od24, .func (PySem.W.fnOf "_law_times" "_law_times" (defArgs s__law_times) (defBody s__law_times) (defScope s__law_times) .none kV24 dc24 pm24 an24 cd24 ct24), sl24⟩)
    (c24 : PySem.W.codeIn K cd24 "_law_times" = true)
    (k24 : PySem.W.keepIn K (.ref f24) = true)
    (a25 : PySem.W.nsIn K mainGlobals "_law_limit" = some (some (.ref f25)))
    (l25 : K.lookup f25 = some ⟨oc25, od25, .func (PySem.W.fnOf "_law_limit" "_law_limit" (defArgs s__law_limit) (defBody s__law_limit) (defScope s__law_limit) .none kV25 dc25 pm25 an25 cd25 ct25), sl25⟩)
    (c25 : PySem.W.codeIn K cd25 "_law_limit" = true)
    (k25 : PySem.W.keepIn K (.ref f25) = true)
    (a26 : PySem.W.nsIn K mainGlobals "_law_part" = some (some (.ref f26)))
    (l26 : K.lookup f26 = some ⟨oc26, od26, .func (PySem.W.fnOf "_law_part" "_law_part" (defArgs s__law_part) (defBody s__law_part) (defScope s__law_part) .none kV26 dc26 pm26 an26 cd26 ct26), sl26⟩)
    (c26 : PySem.W.codeIn K cd26 "_law_part" = true)
    (k26 : PySem.W.keepIn K (.ref f26) = true)
    (a27 : PySem.W.nsIn K mainGlobals "_law_grid_plain" = some (some (.ref f27)))
    (l27 : K.lookup f27 = some ⟨oc27, od27, .func (PySem.W.fnOf "_law_grid_plain" "_law_grid_plain" (defArgs s__law_grid_plain) (defBody s__law_grid_plain) (defScope s__law_grid_plain) .none kV27 dc27 pm27 an27 cd27 ct27), sl27⟩)
    (c27 : PySem.W.codeIn K cd27 "_law_grid_plain" = true)
    (k27 : PySem.W.keepIn K (.ref f27) = true)
    (a28 : PySem.W.nsIn K mainGlobals "_law_spun" = some (some (.ref f28)))
    (l28 : K.lookup f28 = some ⟨oc28, od28, .func (PySem.W.fnOf "_law_spun" "_law_spun" (defArgs s__law_spun) (defBody s__law_spun) (defScope s__law_spun) .none kV28 dc28 pm28 an28 cd28 ct28), sl28⟩)
    (c28 : PySem.W.codeIn K cd28 "_law_spun" = true)
    (k28 : PySem.W.keepIn K (.ref f28) = true)
    (a29 : PySem.W.nsIn K mainGlobals "_law_do_alternate" = some (some (.ref f29)))
    (l29 : K.lookup f29 = some ⟨oc29, od29, .func (PySem.W.fnOf "_law_do_alternate" "_law_do_alternate" (defArgs s__law_do_alternate) (defBody s__law_do_alternate) (defScope s__law_do_alternate) .none kV29 dc29 pm29 an29 cd29 ct29), sl29⟩)
    (c29 : PySem.W.codeIn K cd29 "_law_do_alternate" = true)
    (k29 : PySem.W.keepIn K (.ref f29) = true)
    (a30 : PySem.W.nsIn K mainGlobals "_law_turns_right" = some (some (.ref f30)))
    (l30 : K.lookup f30 = some ⟨oc30, od30, .func (PySem.W.fnOf "_law_turns_right" "_law_turns_right" (defArgs s__law_turns_right) (defBody s__law_turns_right) (defScope s__law_turns_right) .none kV30 dc30 pm30 an30 cd30 ct30), sl30⟩)
    (c30 : PySem.W.codeIn K cd30 "_law_turns_right" = true)
    (k30 : PySem.W.keepIn K (.ref f30) = true)
    (a31 : PySem.W.nsIn K mainGlobals "_law_pairs_right" = some (some (.ref f31)))
    (l31 : K.lookup f31 = some ⟨oc31, od31, .func (PySem.W.fnOf "_law_pairs_right" "_law_pairs_right" (defArgs s__law_pairs_right) (defBody s__law_pairs_right) (defScope s__law_pairs_right) .none kV31 dc31 pm31 an31 cd31 ct31), sl31⟩)
    (c31 : PySem.W.codeIn K cd31 "_law_pairs_right" = true)
    (k31 : PySem.W.keepIn K (.ref f31) = true)
    (a32 : PySem.W.nsIn K mainGlobals "law" = some (some (.ref f32)))
    (l32 : K.lookup f32 = some ⟨oc32, od32, .func (PySem.W.fnOf "law" "law" (defArgs s_law) (defBody s_law) (defScope s_law) .none kV32 dc32 pm32 an32 cd32 ct32), sl32⟩)
    (c32 : PySem.W.codeIn K cd32 "law" = true)
    (k32 : PySem.W.keepIn K (.ref f32) = true)
    (z_isinstance : PySem.W.nsIn K mainGlobals "isinstance" = some none)
    (z_int : PySem.W.nsIn K mainGlobals "int" = some none)
    (z_bool : PySem.W.nsIn K mainGlobals "bool" = some none)
    (z_tuple : PySem.W.nsIn K mainGlobals "tuple" = some none)
    (z_str : PySem.W.nsIn K mainGlobals "str" = some none)
    (z_len : PySem.W.nsIn K mainGlobals "len" = some none)
    (z_abs : PySem.W.nsIn K mainGlobals "abs" = some none)
    (z_max : PySem.W.nsIn K mainGlobals "max" = some none)
    (z_min : PySem.W.nsIn K mainGlobals "min" = some none)
    (z_range : PySem.W.nsIn K mainGlobals "range" = some none)
    (z_repr : PySem.W.nsIn K mainGlobals "repr" = some none)
    (z_set : PySem.W.nsIn K mainGlobals "set" = some none)
    (q_LIMIT : PySem.W.nsIn K mainGlobals "LIMIT" = some (some u_LIMIT))
    (r_LIMIT : RelV (.int LIM) u_LIMIT)
    (q_SQUARE : PySem.W.nsIn K mainGlobals "SQUARE" = some (some u_SQUARE))
    (r_SQUARE : RelV (.str "square") u_SQUARE)
    (q_TRIANGLE : PySem.W.nsIn K mainGlobals "TRIANGLE" = some (some u_TRIANGLE))
    (r_TRIANGLE : RelV (.str "triangle") u_TRIANGLE)
    (e_GRIDS : PySem.W.nsIn K mainGlobals "GRIDS" = some (some (.ref u_GRIDS)))
    (l_GRIDS : K.lookup u_GRIDS = some ⟨.type "tuple", o_GRIDS, .seq v_GRIDS n_GRIDS, s_GRIDS⟩)
    (v_GRIDS : v_GRIDS.size ≤ sizeLine ∧ Vals [.str "square", .str "triangle"] v_GRIDS.toList)
    (e_SQUARE_UNITS : PySem.W.nsIn K mainGlobals "SQUARE_UNITS" = some (some (.ref u_SQUARE_UNITS)))
    (l_SQUARE_UNITS : K.lookup u_SQUARE_UNITS = some ⟨.type "tuple", o_SQUARE_UNITS, .seq v_SQUARE_UNITS n_SQUARE_UNITS, s_SQUARE_UNITS⟩)
    (v_SQUARE_UNITS : v_SQUARE_UNITS.size ≤ sizeLine ∧ Vals [.ref u_SQUARE_UNITS_0, .ref u_SQUARE_UNITS_1, .ref u_SQUARE_UNITS_2, .ref u_SQUARE_UNITS_3] v_SQUARE_UNITS.toList)
    (l_SQUARE_UNITS_0 : K.lookup u_SQUARE_UNITS_0 = some ⟨.type "tuple", o_SQUARE_UNITS_0, .seq v_SQUARE_UNITS_0 n_SQUARE_UNITS_0, s_SQUARE_UNITS_0⟩)
    (v_SQUARE_UNITS_0 : v_SQUARE_UNITS_0.size ≤ sizeLine ∧ Vals [.int (1), .int (0)] v_SQUARE_UNITS_0.toList)
    (l_SQUARE_UNITS_1 : K.lookup u_SQUARE_UNITS_1 = some ⟨.type "tuple", o_SQUARE_UNITS_1, .seq v_SQUARE_UNITS_1 n_SQUARE_UNITS_1, s_SQUARE_UNITS_1⟩)
    (v_SQUARE_UNITS_1 : v_SQUARE_UNITS_1.size ≤ sizeLine ∧ Vals [.int (0), .int (1)] v_SQUARE_UNITS_1.toList)
    (l_SQUARE_UNITS_2 : K.lookup u_SQUARE_UNITS_2 = some ⟨.type "tuple", o_SQUARE_UNITS_2, .seq v_SQUARE_UNITS_2 n_SQUARE_UNITS_2, s_SQUARE_UNITS_2⟩)
    (v_SQUARE_UNITS_2 : v_SQUARE_UNITS_2.size ≤ sizeLine ∧ Vals [.int (-1), .int (0)] v_SQUARE_UNITS_2.toList)
    (l_SQUARE_UNITS_3 : K.lookup u_SQUARE_UNITS_3 = some ⟨.type "tuple", o_SQUARE_UNITS_3, .seq v_SQUARE_UNITS_3 n_SQUARE_UNITS_3, s_SQUARE_UNITS_3⟩)
    (v_SQUARE_UNITS_3 : v_SQUARE_UNITS_3.size ≤ sizeLine ∧ Vals [.int (0), .int (-1)] v_SQUARE_UNITS_3.toList)
    (e_TRIANGLE_UNITS : PySem.W.nsIn K mainGlobals "TRIANGLE_UNITS" = some (some (.ref u_TRIANGLE_UNITS)))
    (l_TRIANGLE_UNITS : K.lookup u_TRIANGLE_UNITS = some ⟨.type "tuple", o_TRIANGLE_UNITS, .seq v_TRIANGLE_UNITS n_TRIANGLE_UNITS, s_TRIANGLE_UNITS⟩)
    (v_TRIANGLE_UNITS : v_TRIANGLE_UNITS.size ≤ sizeLine ∧ Vals [.ref u_TRIANGLE_UNITS_0, .ref u_TRIANGLE_UNITS_1, .ref u_TRIANGLE_UNITS_2, .ref u_TRIANGLE_UNITS_3, .ref u_TRIANGLE_UNITS_4, .ref u_TRIANGLE_UNITS_5] v_TRIANGLE_UNITS.toList)
    (l_TRIANGLE_UNITS_0 : K.lookup u_TRIANGLE_UNITS_0 = some ⟨.type "tuple", o_TRIANGLE_UNITS_0, .seq v_TRIANGLE_UNITS_0 n_TRIANGLE_UNITS_0, s_TRIANGLE_UNITS_0⟩)
    (v_TRIANGLE_UNITS_0 : v_TRIANGLE_UNITS_0.size ≤ sizeLine ∧ Vals [.int (1), .int (0)] v_TRIANGLE_UNITS_0.toList)
    (l_TRIANGLE_UNITS_1 : K.lookup u_TRIANGLE_UNITS_1 = some ⟨.type "tuple", o_TRIANGLE_UNITS_1, .seq v_TRIANGLE_UNITS_1 n_TRIANGLE_UNITS_1, s_TRIANGLE_UNITS_1⟩)
    (v_TRIANGLE_UNITS_1 : v_TRIANGLE_UNITS_1.size ≤ sizeLine ∧ Vals [.int (0), .int (1)] v_TRIANGLE_UNITS_1.toList)
    (l_TRIANGLE_UNITS_2 : K.lookup u_TRIANGLE_UNITS_2 = some ⟨.type "tuple", o_TRIANGLE_UNITS_2, .seq v_TRIANGLE_UNITS_2 n_TRIANGLE_UNITS_2, s_TRIANGLE_UNITS_2⟩)
    (v_TRIANGLE_UNITS_2 : v_TRIANGLE_UNITS_2.size ≤ sizeLine ∧ Vals [.int (-1), .int (1)] v_TRIANGLE_UNITS_2.toList)
    (l_TRIANGLE_UNITS_3 : K.lookup u_TRIANGLE_UNITS_3 = some ⟨.type "tuple", o_TRIANGLE_UNITS_3, .seq v_TRIANGLE_UNITS_3 n_TRIANGLE_UNITS_3, s_TRIANGLE_UNITS_3⟩)
    (v_TRIANGLE_UNITS_3 : v_TRIANGLE_UNITS_3.size ≤ sizeLine ∧ Vals [.int (-1), .int (0)] v_TRIANGLE_UNITS_3.toList)
    (l_TRIANGLE_UNITS_4 : K.lookup u_TRIANGLE_UNITS_4 = some ⟨.type "tuple", o_TRIANGLE_UNITS_4, .seq v_TRIANGLE_UNITS_4 n_TRIANGLE_UNITS_4, s_TRIANGLE_UNITS_4⟩)
    (v_TRIANGLE_UNITS_4 : v_TRIANGLE_UNITS_4.size ≤ sizeLine ∧ Vals [.int (0), .int (-1)] v_TRIANGLE_UNITS_4.toList)
    (l_TRIANGLE_UNITS_5 : K.lookup u_TRIANGLE_UNITS_5 = some ⟨.type "tuple", o_TRIANGLE_UNITS_5, .seq v_TRIANGLE_UNITS_5 n_TRIANGLE_UNITS_5, s_TRIANGLE_UNITS_5⟩)
    (v_TRIANGLE_UNITS_5 : v_TRIANGLE_UNITS_5.size ≤ sizeLine ∧ Vals [.int (1), .int (-1)] v_TRIANGLE_UNITS_5.toList) :
    ∃ fd : FuncData, (∀ (s : Shared) (v : Value), BindsTo s fd ⟨[v], []⟩ [("_law_script", v)]) ∧ ∀ base : Heap, K.In base → base.Ns mainGlobals mg → base.NoDigits → FnG l.prog w K mg base CX0 14 fa fd ["_law_script"] (sp_law K) := by
  have e := hfa.symm.trans (PySem.W.mg_of X G a32)
  cases e
  have T : Txt K mg ⟨f0, f1, f2, f3, f4, f5, f6, f7, f8, f9, f10, f11, f12, f13, f14, f15, f16, f17, f18, f19, f20, f21, f22, f23, f24, f25, f26, f27, f28, f29, f30, f31, fa, C_Grid, p_Grid_own_name, p_Grid_own_units, q_Grid_half, u_GRIDS, u_SQUARE_UNITS, u_SQUARE_UNITS_0, u_SQUARE_UNITS_1, u_SQUARE_UNITS_2, u_SQUARE_UNITS_3, u_TRIANGLE_UNITS, u_TRIANGLE_UNITS_0, u_TRIANGLE_UNITS_1, u_TRIANGLE_UNITS_2, u_TRIANGLE_UNITS_3, u_TRIANGLE_UNITS_4, u_TRIANGLE_UNITS_5⟩ ⟨(PySem.W.fnOf "is_integer" "is_integer" (defArgs s_is_integer) (defBody s_is_integer) (defScope s_is_integer) .none kV0 dc0 pm0 an0 cd0 ct0), (PySem.W.fnOf "is_point" "is_point" (defArgs s_is_point) (defBody s_is_point) (defScope s_is_point) .none kV1 dc1 pm1 an1 cd1 ct1), (PySem.W.fnOf "require_point" "require_point" (defArgs s_require_point) (defBody s_require_point) (defScope s_require_point) .none kV2 dc2 pm2 an2 cd2 ct2), (PySem.W.fnOf "require_integer" "require_integer" (defArgs s_require_integer) (defBody s_require_integer) (defScope s_require_integer) .none kV3 dc3 pm3 an3 cd3 ct3), (PySem.W.fnOf "are_ends" "are_ends" (defArgs s_are_ends) (defBody s_are_ends) (defScope s_are_ends) .none kV4 dc4 pm4 an4 cd4 ct4), (PySem.W.fnOf "__init__" "Grid.__init__" (defArgs s_Grid___init__) (defBody s_Grid___init__) (defScope s_Grid___init__) .none kV5 dc5 pm5 an5 cd5 ct5), (PySem.W.fnOf "half" "Grid.half" (defArgs s_Grid_half) (defBody s_Grid_half) (defScope s_Grid_half) .none kV6 dc6 pm6 an6 cd6 ct6), (PySem.W.fnOf "modulo" "Grid.modulo" (defArgs s_Grid_modulo) (defBody s_Grid_modulo) (defScope s_Grid_modulo) .none kV7 dc7 pm7 an7 cd7 ct7), (PySem.W.fnOf "unit" "Grid.unit" (defArgs s_Grid_unit) (defBody s_Grid_unit) (defScope s_Grid_unit) .none kV8 dc8 pm8 an8 cd8 ct8), (PySem.W.fnOf "product_of" "Grid.product_of" (defArgs s_Grid_product_of) (defBody s_Grid_product_of) (defScope s_Grid_product_of) .none kV9 dc9 pm9 an9 cd9 ct9), (PySem.W.fnOf "turned_by" "Grid.turned_by" (defArgs s_Grid_turned_by) (defBody s_Grid_turned_by) (defScope s_Grid_turned_by) .none kV10 dc10 pm10 an10 cd10 ct10), (PySem.W.fnOf "square_of" "Grid.square_of" (defArgs s_Grid_square_of) (defBody s_Grid_square_of) (defScope s_Grid_square_of) .none kV11 dc11 pm11 an11 cd11 ct11), (PySem.W.fnOf "flipped" "Grid.flipped" (defArgs s_Grid_flipped) (defBody s_Grid_flipped) (defScope s_Grid_flipped) .none kV12 dc12 pm12 an12 cd12 ct12), (PySem.W.fnOf "norm_of" "Grid.norm_of" (defArgs s_Grid_norm_of) (defBody s_Grid_norm_of) (defScope s_Grid_norm_of) .none kV13 dc13 pm13 an13 cd13 ct13), (PySem.W.fnOf "conjugate_of" "Grid.conjugate_of" (defArgs s_Grid_conjugate_of) (defBody s_Grid_conjugate_of) (defScope s_Grid_conjugate_of) .none kV14 dc14 pm14 an14 cd14 ct14), (PySem.W.fnOf "turned" "Grid.turned" (defArgs s_Grid_turned) (defBody s_Grid_turned) (defScope s_Grid_turned) .none kV15 dc15 pm15 an15 cd15 ct15), (PySem.W.fnOf "are_alternate" "Grid.are_alternate" (defArgs s_Grid_are_alternate) (defBody s_Grid_are_alternate) (defScope s_Grid_are_alternate) .none kV16 dc16 pm16 an16 cd16 ct16), (PySem.W.fnOf "alternate" "Grid.alternate" (defArgs s_Grid_alternate) (defBody s_Grid_alternate) (defScope s_Grid_alternate) .none kV17 dc17 pm17 an17 cd17 ct17), (PySem.W.fnOf "__len__" "Grid.__len__" (defArgs s_Grid___len__) (defBody s_Grid___len__) (defScope s_Grid___len__) .none kV18 dc18 pm18 an18 cd18 ct18), (PySem.W.fnOf "_law_dice" "_law_dice" (defArgs s__law_dice) (defBody s__law_dice) (defScope s__law_dice) .none kV19 dc19 pm19 an19 cd19 ct19), (PySem.W.fnOf "_law_roll" "_law_roll" (defArgs s__law_roll) (defBody s__law_roll) (defScope s__law_roll) .none kV20 dc20 pm20 an20 cd20 ct20), (PySem.W.fnOf "_law_pick" "_law_pick" (defArgs s__law_pick) (defBody s__law_pick) (defScope s__law_pick) .none kV21 dc21 pm21 an21 cd21 ct21), (PySem.W.fnOf "_law_around" "_law_around" (defArgs s__law_around) (defBody s__law_around) (defScope s__law_around) .none kV22 dc22 pm22 an22 cd22 ct22), (PySem.W.fnOf "_law_unit" "_law_unit" (defArgs s__law_unit) (defBody s__law_unit) (defScope s__law_unit) .none kV23 dc23 pm23 an23 cd23 ct23), (PySem.W.fnOf "_law_times" "_law_times" (defArgs s__law_times) (defBody s__law_times) (defScope s__law_times) .none kV24 dc24 pm24 an24 cd24 ct24), (PySem.W.fnOf "_law_limit" "_law_limit" (defArgs s__law_limit) (defBody s__law_limit) (defScope s__law_limit) .none kV25 dc25 pm25 an25 cd25 ct25), (PySem.W.fnOf "_law_part" "_law_part" (defArgs s__law_part) (defBody s__law_part) (defScope s__law_part) .none kV26 dc26 pm26 an26 cd26 ct26), (PySem.W.fnOf "_law_grid_plain" "_law_grid_plain" (defArgs s__law_grid_plain) (defBody s__law_grid_plain) (defScope s__law_grid_plain) .none kV27 dc27 pm27 an27 cd27 ct27), (PySem.W.fnOf "_law_spun" "_law_spun" (defArgs s__law_spun) (defBody s__law_spun) (defScope s__law_spun) .none kV28 dc28 pm28 an28 cd28 ct28), (PySem.W.fnOf "_law_do_alternate" "_law_do_alternate" (defArgs s__law_do_alternate) (defBody s__law_do_alternate) (defScope s__law_do_alternate) .none kV29 dc29 pm29 an29 cd29 ct29), (PySem.W.fnOf "_law_turns_right" "_law_turns_right" (defArgs s__law_turns_right) (defBody s__law_turns_right) (defScope s__law_turns_right) .none kV30 dc30 pm30 an30 cd30 ct30), (PySem.W.fnOf "_law_pairs_right" "_law_pairs_right" (defArgs s__law_pairs_right) (defBody s__law_pairs_right) (defScope s__law_pairs_right) .none kV31 dc31 pm31 an31 cd31 ct31), (PySem.W.fnOf "law" "law" (defArgs s_law) (defBody s_law) (defScope s_law) .none kV32 dc32 pm32 an32 cd32 ct32)⟩ := ⟨PySem.W.mg_none_of X G z_isinstance,
    PySem.W.mg_none_of X G z_int,
    PySem.W.mg_none_of X G z_bool,
    PySem.W.mg_none_of X G z_tuple,
    PySem.W.mg_none_of X G z_str,
    PySem.W.mg_none_of X G z_len,
    PySem.W.mg_none_of X G z_abs,
    PySem.W.mg_none_of X G z_max,
    PySem.W.mg_none_of X G z_min,
    PySem.W.mg_none_of X G z_range,
    PySem.W.mg_none_of X G z_repr,
    PySem.W.mg_none_of X G z_set,
    ⟨u_LIMIT, PySem.W.mg_of X G q_LIMIT, r_LIMIT⟩,
    ⟨u_SQUARE, PySem.W.mg_of X G q_SQUARE, r_SQUARE⟩,
    ⟨u_TRIANGLE, PySem.W.mg_of X G q_TRIANGLE, r_TRIANGLE⟩,
    ⟨_, PySem.W.mg_of X G e_GRIDS, rfl⟩,
    fun _ => Or.inr ⟨_, _, _, l_GRIDS, rfl, rfl, v_GRIDS.1, v_GRIDS.2⟩,
    ⟨_, PySem.W.mg_of X G e_SQUARE_UNITS, rfl⟩,
    fun _ => Or.inr ⟨_, _, _, l_SQUARE_UNITS, rfl, rfl, v_SQUARE_UNITS.1, v_SQUARE_UNITS.2⟩,
    fun _ => Or.inr ⟨_, _, _, l_SQUARE_UNITS_0, rfl, rfl, v_SQUARE_UNITS_0.1, v_SQUARE_UNITS_0.2⟩,
    fun _ => Or.inr ⟨_, _, _, l_SQUARE_UNITS_1, rfl, rfl, v_SQUARE_UNITS_1.1, v_SQUARE_UNITS_1.2⟩,
    fun _ => Or.inr ⟨_, _, _, l_SQUARE_UNITS_2, rfl, rfl, v_SQUARE_UNITS_2.1, v_SQUARE_UNITS_2.2⟩,
    fun _ => Or.inr ⟨_, _, _, l_SQUARE_UNITS_3, rfl, rfl, v_SQUARE_UNITS_3.1, v_SQUARE_UNITS_3.2⟩,
    ⟨_, PySem.W.mg_of X G e_TRIANGLE_UNITS, rfl⟩,
    fun _ => Or.inr ⟨_, _, _, l_TRIANGLE_UNITS, rfl, rfl, v_TRIANGLE_UNITS.1, v_TRIANGLE_UNITS.2⟩,
    fun _ => Or.inr ⟨_, _, _, l_TRIANGLE_UNITS_0, rfl, rfl, v_TRIANGLE_UNITS_0.1, v_TRIANGLE_UNITS_0.2⟩,
    fun _ => Or.inr ⟨_, _, _, l_TRIANGLE_UNITS_1, rfl, rfl, v_TRIANGLE_UNITS_1.1, v_TRIANGLE_UNITS_1.2⟩,
    fun _ => Or.inr ⟨_, _, _, l_TRIANGLE_UNITS_2, rfl, rfl, v_TRIANGLE_UNITS_2.1, v_TRIANGLE_UNITS_2.2⟩,
    fun _ => Or.inr ⟨_, _, _, l_TRIANGLE_UNITS_3, rfl, rfl, v_TRIANGLE_UNITS_3.1, v_TRIANGLE_UNITS_3.2⟩,
    fun _ => Or.inr ⟨_, _, _, l_TRIANGLE_UNITS_4, rfl, rfl, v_TRIANGLE_UNITS_4.1, v_TRIANGLE_UNITS_4.2⟩,
    fun _ => Or.inr ⟨_, _, _, l_TRIANGLE_UNITS_5, rfl, rfl, v_TRIANGLE_UNITS_5.1, v_TRIANGLE_UNITS_5.2⟩,
    PySem.W.mg_of X G a0,
    fun_mk (st := s_is_integer) l0 c0 k0,
    (fun_mk (st := s_is_integer) l0 c0 k0).binds (ps := ["value"]) fun _ _ _ _ _ _ us hl => match us, hl with | [_], _ => rfl,
    PySem.W.mg_of X G a1,
    fun_mk (st := s_is_point) l1 c1 k1,
    (fun_mk (st := s_is_point) l1 c1 k1).binds (ps := ["value"]) fun _ _ _ _ _ _ us hl => match us, hl with | [_], _ => rfl,
    PySem.W.mg_of X G a2,
    fun_mk (st := s_require_point) l2 c2 k2,
    (fun_mk (st := s_require_point) l2 c2 k2).binds (ps := ["value"]) fun _ _ _ _ _ _ us hl => match us, hl with | [_], _ => rfl,
    PySem.W.mg_of X G a3,
    fun_mk (st := s_require_integer) l3 c3 k3,
    (fun_mk (st := s_require_integer) l3 c3 k3).binds (ps := ["value"]) fun _ _ _ _ _ _ us hl => match us, hl with | [_], _ => rfl,
    PySem.W.mg_of X G a4,
    fun_mk (st := s_are_ends) l4 c4 k4,
    (fun_mk (st := s_are_ends) l4 c4 k4).binds (ps := ["value"]) fun _ _ _ _ _ _ us hl => match us, hl with | [_], _ => rfl,
    fun_mk (st := s_Grid___init__) l5 c5 k5,
    (fun_mk (st := s_Grid___init__) l5 c5 k5).binds (ps := ["self", "name"]) fun _ _ _ _ _ _ us hl => match us, hl with | [_, _], _ => rfl,
    fun_mk (st := s_Grid_half) l6 c6 k6,
    (fun_mk (st := s_Grid_half) l6 c6 k6).binds (ps := ["self"]) fun _ _ _ _ _ _ us hl => match us, hl with | [_], _ => rfl,
    fun_mk (st := s_Grid_modulo) l7 c7 k7,
    (fun_mk (st := s_Grid_modulo) l7 c7 k7).binds (ps := ["self", "direction"]) fun _ _ _ _ _ _ us hl => match us, hl with | [_, _], _ => rfl,
    fun_mk (st := s_Grid_unit) l8 c8 k8,
    (fun_mk (st := s_Grid_unit) l8 c8 k8).binds (ps := ["self", "direction"]) fun _ _ _ _ _ _ us hl => match us, hl with | [_, _], _ => rfl,
    fun_mk (st := s_Grid_product_of) l9 c9 k9,
    (fun_mk (st := s_Grid_product_of) l9 c9 k9).binds (ps := ["self", "one", "other"]) fun _ _ _ _ _ _ us hl => match us, hl with | [_, _, _], _ => rfl,
    fun_mk (st := s_Grid_turned_by) l10 c10 k10,
    (fun_mk (st := s_Grid_turned_by) l10 c10 k10).binds (ps := ["self", "point", "turn"]) fun _ _ _ _ _ _ us hl => match us, hl with | [_, _, _], _ => rfl,
    fun_mk (st := s_Grid_square_of) l11 c11 k11,
    (fun_mk (st := s_Grid_square_of) l11 c11 k11).binds (ps := ["self", "point"]) fun _ _ _ _ _ _ us hl => match us, hl with | [_, _], _ => rfl,
    fun_mk (st := s_Grid_flipped) l12 c12 k12,
    (fun_mk (st := s_Grid_flipped) l12 c12 k12).binds (ps := ["self", "point"]) fun _ _ _ _ _ _ us hl => match us, hl with | [_, _], _ => rfl,
    fun_mk (st := s_Grid_norm_of) l13 c13 k13,
    (fun_mk (st := s_Grid_norm_of) l13 c13 k13).binds (ps := ["self", "point"]) fun _ _ _ _ _ _ us hl => match us, hl with | [_, _], _ => rfl,
    fun_mk (st := s_Grid_conjugate_of) l14 c14 k14,
    (fun_mk (st := s_Grid_conjugate_of) l14 c14 k14).binds (ps := ["self", "point"]) fun _ _ _ _ _ _ us hl => match us, hl with | [_, _], _ => rfl,
    fun_mk (st := s_Grid_turned) l15 c15 k15,
    (fun_mk (st := s_Grid_turned) l15 c15 k15).binds (ps := ["self", "point", "turn"]) fun _ _ _ _ _ _ us hl => match us, hl with | [_, _, _], _ => rfl,
    fun_mk (st := s_Grid_are_alternate) l16 c16 k16,
    (fun_mk (st := s_Grid_are_alternate) l16 c16 k16).binds (ps := ["self", "ends", "others"]) fun _ _ _ _ _ _ us hl => match us, hl with | [_, _, _], _ => rfl,
    fun_mk (st := s_Grid_alternate) l17 c17 k17,
    (fun_mk (st := s_Grid_alternate) l17 c17 k17).binds (ps := ["self", "ends", "others"]) fun _ _ _ _ _ _ us hl => match us, hl with | [_, _, _], _ => rfl,
    fun_mk (st := s_Grid___len__) l18 c18 k18,
    (fun_mk (st := s_Grid___len__) l18 c18 k18).binds (ps := ["self"]) fun _ _ _ _ _ _ us hl => match us, hl with | [_], _ => rfl,
    PySem.W.mg_of X G a19,
    fun_mk (st := s__law_dice) l19 c19 k19,
    (fun_mk (st := s__law_dice) l19 c19 k19).binds (ps := ["_law_script", "_law_spot"]) fun _ _ _ _ _ _ us hl => match us, hl with | [_, _], _ => rfl,
    PySem.W.mg_of X G a20,
    fun_mk (st := s__law_roll) l20 c20 k20,
    (fun_mk (st := s__law_roll) l20 c20 k20).binds (ps := ["_law_dice_here", "_law_total"]) fun _ _ _ _ _ _ us hl => match us, hl with | [_, _], _ => rfl,
    PySem.W.mg_of X G a21,
    fun_mk (st := s__law_pick) l21 c21 k21,
    (fun_mk (st := s__law_pick) l21 c21 k21).binds (ps := ["_law_dice_here", "_law_items"]) fun _ _ _ _ _ _ us hl => match us, hl with | [_, _], _ => rfl,
    PySem.W.mg_of X G a22,
    fun_mk (st := s__law_around) l22 c22 k22,
    (fun_mk (st := s__law_around) l22 c22 k22).binds (ps := ["_law_plain"]) fun _ _ _ _ _ _ us hl => match us, hl with | [_], _ => rfl,
    PySem.W.mg_of X G a23,
    fun_mk (st := s__law_unit) l23 c23 k23,
    (fun_mk (st := s__law_unit) l23 c23 k23).binds (ps := ["_law_plain", "_law_direction"]) fun _ _ _ _ _ _ us hl => match us, hl with | [_, _], _ => rfl,
    PySem.W.mg_of X G a24,
    fun_mk (st := s__law_times) l24 c24 k24,
    (fun_mk (st := s__law_times) l24 c24 k24).binds (ps := ["_law_plain", "_law_one", "_law_other"]) fun _ _ _ _ _ _ us hl => match us, hl with | [_, _, _], _ => rfl,
    PySem.W.mg_of X G a25,
    fun_mk (st := s__law_limit) l25 c25 k25,
    (fun_mk (st := s__law_limit) l25 c25 k25).binds (ps := []) fun _ _ _ _ _ _ us hl => match us, hl with | [], _ => rfl,
    PySem.W.mg_of X G a26,
    fun_mk (st := s__law_part) l26 c26 k26,
    (fun_mk (st := s__law_part) l26 c26 k26).binds (ps := ["_law_dice_here"]) fun _ _ _ _ _ _ us hl => match us, hl with | [_], _ => rfl,
    PySem.W.mg_of X G a27,
    fun_mk (st := s__law_grid_plain) l27 c27 k27,
    (fun_mk (st := s__law_grid_plain) l27 c27 k27).binds (ps := ["_law_dice_here"]) fun _ _ _ _ _ _ us hl => match us, hl with | [_], _ => rfl,
    PySem.W.mg_of X G a28,
    fun_mk (st := s__law_spun) l28 c28 k28,
    (fun_mk (st := s__law_spun) l28 c28 k28).binds (ps := ["_law_plain", "_law_place", "_law_turn"]) fun _ _ _ _ _ _ us hl => match us, hl with | [_, _, _], _ => rfl,
    PySem.W.mg_of X G a29,
    fun_mk (st := s__law_do_alternate) l29 c29 k29,
    (fun_mk (st := s__law_do_alternate) l29 c29 k29).binds (ps := ["_law_around_here", "_law_ends", "_law_others"]) fun _ _ _ _ _ _ us hl => match us, hl with | [_, _, _], _ => rfl,
    PySem.W.mg_of X G a30,
    fun_mk (st := s__law_turns_right) l30 c30 k30,
    (fun_mk (st := s__law_turns_right) l30 c30 k30).binds (ps := ["_law_dice_here", "_law_plain", "_law_grid"]) fun _ _ _ _ _ _ us hl => match us, hl with | [_, _, _], _ => rfl,
    PySem.W.mg_of X G a31,
    fun_mk (st := s__law_pairs_right) l31 c31 k31,
    (fun_mk (st := s__law_pairs_right) l31 c31 k31).binds (ps := ["_law_dice_here", "_law_plain", "_law_grid"]) fun _ _ _ _ _ _ us hl => match us, hl with | [_, _, _], _ => rfl,
    PySem.W.mg_of X G a32,
    fun_mk (st := s_law) l32 c32 k32,
    (fun_mk (st := s_law) l32 c32 k32).binds (ps := ["_law_script"]) fun _ _ _ _ _ _ us hl => match us, hl with | [_], _ => rfl,
    PySem.W.mg_of X G gC_Grid,
    ⟨s1_Grid, s2_Grid, s3_Grid, s4_Grid⟩,
    ⟨t1_Grid_own_name, t2_Grid_own_name, t3_Grid_own_name, t4_Grid_own_name, t5_Grid_own_name, by decide⟩,
    ⟨t1_Grid_own_units, t2_Grid_own_units, t3_Grid_own_units, t4_Grid_own_units, t5_Grid_own_units, by decide⟩,
    ⟨m1_Grid, a5, i5, m2_Grid⟩,
    ⟨a7, i7, k7⟩,
    ⟨a8, i8, k8⟩,
    ⟨a9, i9, k9⟩,
    ⟨a10, i10, k10⟩,
    ⟨a11, i11, k11⟩,
    ⟨a12, i12, k12⟩,
    ⟨a13, i13, k13⟩,
    ⟨a14, i14, k14⟩,
    ⟨a15, i15, k15⟩,
    ⟨a16, i16, k16⟩,
    ⟨a17, i17, k17⟩,
    ⟨a18, i18, k18⟩,
    r1_Grid_half,
    r2_Grid_half,
    r3_Grid_half,
    ⟨_, r4_Grid_half⟩⟩
  exact ⟨_, fun s v => .of_eq rfl, fun base _ _ nd => ok_law T nd⟩

end Law
open PySem PySem.W PyProof.Rows in
set_option maxRecDepth 100000 in
set_option maxHeartbeats 0 in
theorem PySem.Challenge.cw_grownlines_k05_whole_turns_around_points_holds : PySem.Challenge.rw_grownlines_k05_whole_turns_around_points.Holds := by
  w_on; o_law; k_head; (case hw => w_witness2)
  k_fill
  refine Gl.walkG (l := PySem.Challenge.rw_grownlines_k05_whole_turns_around_points) (n := 63) (k := 14) (x := "_law_script") (sp := Law.sp_law) rfl (by decide) rfl ⟨rfl, by decide, by decide⟩ (fun w h Y => PySem.W.kIn_of Y) ?F (fun _ _ a ns hl _ hS => ⟨a, ns, rfl, hS, hl, fun _ => rfl⟩)
  case F =>
    intro w mg fa h KX G hmg
    refine' Law.all_mk KX G hmg ?gC_Grid ?s1_Grid ?s2_Grid ?s3_Grid ?s4_Grid ?t1_Grid_own_name ?t2_Grid_own_name ?t3_Grid_own_name ?t4_Grid_own_name ?t5_Grid_own_name ?t1_Grid_own_units ?t2_Grid_own_units ?t3_Grid_own_units ?t4_Grid_own_units ?t5_Grid_own_units ?m1_Grid ?m2_Grid ?a0 ?l0 ?c0 ?k0 ?a1 ?l1 ?c1 ?k1 ?a2 ?l2 ?c2 ?k2 ?a3 ?l3 ?c3 ?k3 ?a4 ?l4 ?c4 ?k4 ?a5 ?i5 ?l5 ?c5 ?k5 ?r1_Grid_half ?r2_Grid_half ?r3_Grid_half ?r4_Grid_half ?l6 ?c6 ?k6 ?a7 ?i7 ?l7 ?c7 ?k7 ?a8 ?i8 ?l8 ?c8 ?k8 ?a9 ?i9 ?l9 ?c9 ?k9 ?a10 ?i10 ?l10 ?c10 ?k10 ?a11 ?i11 ?l11 ?c11 ?k11 ?a12 ?i12 ?l12 ?c12 ?k12 ?a13 ?i13 ?l13 ?c13 ?k13 ?a14 ?i14 ?l14 ?c14 ?k14 ?a15 ?i15 ?l15 ?c15 ?k15 ?a16 ?i16 ?l16 ?c16 ?k16 ?a17 ?i17 ?l17 ?c17 ?k17 ?a18 ?i18 ?l18 ?c18 ?k18 ?a19 ?l19 ?c19 ?k19 ?a20 ?l20 ?c20 ?k20 ?a21 ?l21 ?c21 ?k21 ?a22 ?l22 ?c22 ?k22 ?a23 ?l23 ?c23 ?k23 ?a24 ?l24 ?c24 ?k24 ?a25 ?l25 ?c25 ?k25 ?a26 ?l26 ?c26 ?k26 ?a27 ?l27 ?c27 ?k27 ?a28 ?l28 ?c28 ?k28 ?a29 ?l29 ?c29 ?k29 ?a30 ?l30 ?c30 ?k30 ?a31 ?l31 ?c31 ?k31 ?a32 ?l32 ?c32 ?k32 ?z_isinstance ?z_int ?z_bool ?z_tuple ?z_str ?z_len ?z_abs ?z_max ?z_min ?z_range ?z_repr ?z_set ?q_LIMIT ?r_LIMIT ?q_SQUARE ?r_SQUARE ?q_TRIANGLE ?r_TRIANGLE ?e_GRIDS ?l_GRIDS ?v_GRIDS ?e_SQUARE_UNITS ?l_SQUARE_UNITS ?v_SQUARE_UNITS ?l_SQUARE_UNITS_0 ?v_SQUARE_UNITS_0 ?l_SQUARE_UNITS_1 ?v_SQUARE_UNITS_1 ?l_SQUARE_UNITS_2 ?v_SQUARE_UNITS_2 ?l_SQUARE_UNITS_3 ?v_SQUARE_UNITS_3 ?e_TRIANGLE_UNITS ?l_TRIANGLE_UNITS ?v_TRIANGLE_UNITS ?l_TRIANGLE_UNITS_0 ?v_TRIANGLE_UNITS_0 ?l_TRIANGLE_UNITS_1 ?v_TRIANGLE_UNITS_1 ?l_TRIANGLE_UNITS_2 ?v_TRIANGLE_UNITS_2 ?l_TRIANGLE_UNITS_3 ?v_TRIANGLE_UNITS_3 ?l_TRIANGLE_UNITS_4 ?v_TRIANGLE_UNITS_4 ?l_TRIANGLE_UNITS_5 ?v_TRIANGLE_UNITS_5
    (case gC_Grid => k_is)
    (case s1_Grid => k_is)
    (case s2_Grid => k_is)
    (case s3_Grid => k_is)
    (case s4_Grid => k_is)
    (case t1_Grid_own_name => k_is)
    (case t2_Grid_own_name => k_is)
    (case t3_Grid_own_name => k_is)
    (case t4_Grid_own_name => k_is)
    (case t5_Grid_own_name => k_is)
    (case t1_Grid_own_units => k_is)
    (case t2_Grid_own_units => k_is)
    (case t3_Grid_own_units => k_is)
    (case t4_Grid_own_units => k_is)
    (case t5_Grid_own_units => k_is)
    (case m1_Grid => k_is)
    (case m2_Grid => k_is)
    (case a0 => k_is)
    (case l0 => k_is)
    (case c0 => k_is)
    (case k0 => k_is)
    (case a1 => k_is)
    (case l1 => k_is)
    (case c1 => k_is)
    (case k1 => k_is)
    (case a2 => k_is)
    (case l2 => k_is)
    (case c2 => k_is)
    (case k2 => k_is)
    (case a3 => k_is)
    (case l3 => k_is)
    (case c3 => k_is)
    (case k3 => k_is)
    (case a4 => k_is)
    (case l4 => k_is)
    (case c4 => k_is)
    (case k4 => k_is)
    (case a5 => k_is)
    (case i5 => k_is)
    (case l5 => k_is)
    (case c5 => k_is)
    (case k5 => k_is)
    (case r1_Grid_half => k_is)
    (case r2_Grid_half => k_is)
    (case r3_Grid_half => k_is)
    (case r4_Grid_half => k_is)
    (case l6 => k_is)
    (case c6 => k_is)
    (case k6 => k_is)
    (case a7 => k_is)
    (case i7 => k_is)
    (case l7 => k_is)
    (case c7 => k_is)
    (case k7 => k_is)
    (case a8 => k_is)
    (case i8 => k_is)
    (case l8 => k_is)
    (case c8 => k_is)
    (case k8 => k_is)
    (case a9 => k_is)
    (case i9 => k_is)
    (case l9 => k_is)
    (case c9 => k_is)
    (case k9 => k_is)
    (case a10 => k_is)
    (case i10 => k_is)
    (case l10 => k_is)
    (case c10 => k_is)
    (case k10 => k_is)
    (case a11 => k_is)
    (case i11 => k_is)
    (case l11 => k_is)
    (case c11 => k_is)
    (case k11 => k_is)
    (case a12 => k_is)
    (case i12 => k_is)
    (case l12 => k_is)
    (case c12 => k_is)
    (case k12 => k_is)
    (case a13 => k_is)
    (case i13 => k_is)
    (case l13 => k_is)
    (case c13 => k_is)
    (case k13 => k_is)
    (case a14 => k_is)
    (case i14 => k_is)
    (case l14 => k_is)
    (case c14 => k_is)
    (case k14 => k_is)
    (case a15 => k_is)
    (case i15 => k_is)
    (case l15 => k_is)
    (case c15 => k_is)
    (case k15 => k_is)
    (case a16 => k_is)
    (case i16 => k_is)
    (case l16 => k_is)
    (case c16 => k_is)
    (case k16 => k_is)
    (case a17 => k_is)
    (case i17 => k_is)
    (case l17 => k_is)
    (case c17 => k_is)
    (case k17 => k_is)
    (case a18 => k_is)
    (case i18 => k_is)
    (case l18 => k_is)
    (case c18 => k_is)
    (case k18 => k_is)
    (case a19 => k_is)
    (case l19 => k_is)
    (case c19 => k_is)
    (case k19 => k_is)
    (case a20 => k_is)
    (case l20 => k_is)
    (case c20 => k_is)
    (case k20 => k_is)
    (case a21 => k_is)
    (case l21 => k_is)
    (case c21 => k_is)
    (case k21 => k_is)
    (case a22 => k_is)
    (case l22 => k_is)
    (case c22 => k_is)
    (case k22 => k_is)
    (case a23 => k_is)
    (case l23 => k_is)
    (case c23 => k_is)
    (case k23 => k_is)
    (case a24 => k_is)
    (case l24 => k_is)
    (case c24 => k_is)
    (case k24 => k_is)
    (case a25 => k_is)
    (case l25 => k_is)
    (case c25 => k_is)
    (case k25 => k_is)
    (case a26 => k_is)
    (case l26 => k_is)
    (case c26 => k_is)
    (case k26 => k_is)
    (case a27 => k_is)
    (case l27 => k_is)
    (case c27 => k_is)
    (case k27 => k_is)
    (case a28 => k_is)
    (case l28 => k_is)
    (case c28 => k_is)
    (case k28 => k_is)
    (case a29 => k_is)
    (case l29 => k_is)
    (case c29 => k_is)
    (case k29 => k_is)
    (case a30 => k_is)
    (case l30 => k_is)
    (case c30 => k_is)
    (case k30 => k_is)
    (case a31 => k_is)
    (case l31 => k_is)
    (case c31 => k_is)
    (case k31 => k_is)
    (case a32 => k_is)
    (case l32 => k_is)
    (case c32 => k_is)
    (case k32 => k_is)
    (case z_isinstance => k_is)
    (case z_int => k_is)
    (case z_bool => k_is)
    (case z_tuple => k_is)
    (case z_str => k_is)
    (case z_len => k_is)
    (case z_abs => k_is)
    (case z_max => k_is)
    (case z_min => k_is)
    (case z_range => k_is)
    (case z_repr => k_is)
    (case z_set => k_is)
    (case q_LIMIT => k_is)
    (case r_LIMIT => first | exact ⟨_, rfl⟩ | rfl)
    (case q_SQUARE => k_is)
    (case r_SQUARE => first | exact ⟨_, rfl⟩ | rfl)
    (case q_TRIANGLE => k_is)
    (case r_TRIANGLE => first | exact ⟨_, rfl⟩ | rfl)
    (case e_GRIDS => k_is)
    (case l_GRIDS => k_is)
    (case v_GRIDS => exact ⟨by decide, by first | exact .nil | (repeat (first | exact .nil | refine .cons ?_ ?_ | exact ⟨_, rfl⟩ | exact rfl))⟩)
    (case e_SQUARE_UNITS => k_is)
    (case l_SQUARE_UNITS => k_is)
    (case v_SQUARE_UNITS => exact ⟨by decide, by first | exact .nil | (repeat (first | exact .nil | refine .cons ?_ ?_ | exact ⟨_, rfl⟩ | exact rfl))⟩)
    (case l_SQUARE_UNITS_0 => k_is)
    (case v_SQUARE_UNITS_0 => exact ⟨by decide, by first | exact .nil | (repeat (first | exact .nil | refine .cons ?_ ?_ | exact ⟨_, rfl⟩ | exact rfl))⟩)
    (case l_SQUARE_UNITS_1 => k_is)
    (case v_SQUARE_UNITS_1 => exact ⟨by decide, by first | exact .nil | (repeat (first | exact .nil | refine .cons ?_ ?_ | exact ⟨_, rfl⟩ | exact rfl))⟩)
    (case l_SQUARE_UNITS_2 => k_is)
    (case v_SQUARE_UNITS_2 => exact ⟨by decide, by first | exact .nil | (repeat (first | exact .nil | refine .cons ?_ ?_ | exact ⟨_, rfl⟩ | exact rfl))⟩)
    (case l_SQUARE_UNITS_3 => k_is)
    (case v_SQUARE_UNITS_3 => exact ⟨by decide, by first | exact .nil | (repeat (first | exact .nil | refine .cons ?_ ?_ | exact ⟨_, rfl⟩ | exact rfl))⟩)
    (case e_TRIANGLE_UNITS => k_is)
    (case l_TRIANGLE_UNITS => k_is)
    (case v_TRIANGLE_UNITS => exact ⟨by decide, by first | exact .nil | (repeat (first | exact .nil | refine .cons ?_ ?_ | exact ⟨_, rfl⟩ | exact rfl))⟩)
    (case l_TRIANGLE_UNITS_0 => k_is)
    (case v_TRIANGLE_UNITS_0 => exact ⟨by decide, by first | exact .nil | (repeat (first | exact .nil | refine .cons ?_ ?_ | exact ⟨_, rfl⟩ | exact rfl))⟩)
    (case l_TRIANGLE_UNITS_1 => k_is)
    (case v_TRIANGLE_UNITS_1 => exact ⟨by decide, by first | exact .nil | (repeat (first | exact .nil | refine .cons ?_ ?_ | exact ⟨_, rfl⟩ | exact rfl))⟩)
    (case l_TRIANGLE_UNITS_2 => k_is)
    (case v_TRIANGLE_UNITS_2 => exact ⟨by decide, by first | exact .nil | (repeat (first | exact .nil | refine .cons ?_ ?_ | exact ⟨_, rfl⟩ | exact rfl))⟩)
    (case l_TRIANGLE_UNITS_3 => k_is)
    (case v_TRIANGLE_UNITS_3 => exact ⟨by decide, by first | exact .nil | (repeat (first | exact .nil | refine .cons ?_ ?_ | exact ⟨_, rfl⟩ | exact rfl))⟩)
    (case l_TRIANGLE_UNITS_4 => k_is)
    (case v_TRIANGLE_UNITS_4 => exact ⟨by decide, by first | exact .nil | (repeat (first | exact .nil | refine .cons ?_ ?_ | exact ⟨_, rfl⟩ | exact rfl))⟩)
    (case l_TRIANGLE_UNITS_5 => k_is)
    (case v_TRIANGLE_UNITS_5 => exact ⟨by decide, by first | exact .nil | (repeat (first | exact .nil | refine .cons ?_ ?_ | exact ⟨_, rfl⟩ | exact rfl))⟩)

