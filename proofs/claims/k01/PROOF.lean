import PyProof.Rows.All
import Wide.All
import OpenK.AllK
import Wide.FinOn
import HandS.ForMost
import HandS.Wide
import HandS.IsInst
import HandS.Style
import HandS.Walk
import HandS.Flow
import PyProof.Rows.Digits
import HandS.Steps
import HandS.Slots
import HandS.SlotsOwn
import HandS.Star
import HandS.NoneIn
import HandS.Deep
import HandS.TupAny
import KE.KSetDisp
import PyProof.Rows.StrOr
import KE.KeyNested
import HandS.Exc
import HandS.WordsExc
import HandS.CallSlots
import HandS.Lambda
import HandS.WordsDict
import HandS.Zip
import KE.KCallOwn
import PyProof.InstEq
import KE.KOpsOwn
import HandS.FStr
import PyProof.Rows.StrBool
import PyProof.StrLawsRepr
import HandS.IterVal
import KE.KOwnIter
import HandS.SetBool
import HandS.Strs
import HandS.DictComp
import HandS.Iter
import HandS.More
import HandS.Text
import HandS.Comp
import KE.KFmtOwn
import KE.KDictSum
import KE.KDictWalk
import KE.KDictCopyH
import HandS.TupSets
import HandS.OwnIter
import PyProof.SeqIndex
import HandS.RaiseMore
import KE.KExcInit
import HandS.ExcInit
import HandS.ExcOwn
import HandS.TryMany
import HandS.ExcField
import HandS.ExcValue
import PyProof.ReprDict
import PyProof.EqKinds
import HandS.ClsMeth
import HandS.Replace
import HandS.EndTab
import KE.KNest
import HandS.Conv
import PyProof.ReprRoads
import HandS.ExcIs
import PyProof.StrOps2
import HandS.HotCalls
import KE.RegKIsAll
import KE.KExcLine
import PySem.Challenge.RW_grownlines_k01_errors_and_what_they_keep
set_option Elab.async false
set_option maxRecDepth 100000
set_option maxHeartbeats 4000000
set_option linter.all false
/-! my own layer over the hand layer: guarded promises (repr), great numbers, repr of data, a stepper -/
namespace Gl
open PySem PySem.Spec PyProof.Rows L2

/-! ### promises where nothing is being shown (for repr) -/
structure FnG (P : Program) (w : World) (K : PySem.W.Frag) (mg : Str → Option Value) (base : Heap) (CX : CXT)
    (k : Nat) (f : Addr) (fd : FuncData) (ps : List Str) (sp : Sp) : Prop where
  len : ∀ vs H Q E, sp vs H Q E → vs.length = ps.length
  go : ∀ (A : Around) (outer : List Env) (s : Shared) (H : Hp) (args : Args) (us : List Value) (vs : List V)
    (Q : VK) (E : XK), A.guards = some [] → Room k A → Env0 P w K mg base A outer s H →
    BindsTo s fd args (ps.zip us) → Vals vs us → sp vs H Q E →
    codeAny (model P w) A (.call (.ref f) args) (CR CX outer P w H s Q E) s

section
variable {P : Program} {w : World} {K : PySem.W.Frag} {mg : Str → Option Value} {base : Heap}

theorem FnG.of {CX : CXT} {k : Nat} {f : Addr} {fd : FuncData} {ps : List Str} {sp : Sp}
    (F : FnOk P w K mg base CX k f fd ps sp) : FnG P w K mg base CX k f fd ps sp :=
  ⟨F.len, fun A outer s H args us vs Q E _ => F.run A outer s H args us vs Q E⟩

/-- the rule for a def, told that nothing is being shown around it -/
theorem okG {x qual : Str} {st : Stmt} {f : Addr} {fd : FuncData} {N ps : List Str} {k : Nat} {sp : Sp}
    (F : Fun K x qual st f fd) (S : FnScope N ps (defScope st))
    (len : ∀ vs H Q E, sp vs H Q E → vs.length = ps.length)
    (body : ∀ (cdv : Value) (A : Around) (outer : List Env) (s : Shared) (H : Hp) (vs : List V) (Q : VK) (E : XK),
      (A.deeper (envOfC qual (defScope st) s.heap.objs.size f cdv)).guards = some [] →
      Room k (A.deeper (envOfC qual (defScope st) s.heap.objs.size f cdv)) → sp vs H Q E →
      ∃ t, PSs (cxOf CX0 P w K mg base N qual (defScope st) f cdv A outer s H E).nox (defBody st) t ∧
        t { nx := fun _ H' => Q .non H', rt := Q } (start N vs) H) :
    FnG P w K mg base CX0 (k + 1) f fd ps sp := by
  obtain ⟨oc, od, kV, doc, pm, an, cdv, ct, osl, rfl, lk, hcd⟩ := F.ex
  refine ⟨len, ?_⟩
  intro A outer s H args us vs Q E hg hr e0 hb r hsp
  have hlen := len _ _ _ _ hsp
  have below : ∀ b o, base.get? b = some o → s.heap.get? b = some o := fun b o e => (e0.bs b o e).1
  have inK := e0.mod.kin.keeps below
  have nol := e0.mod.nolimit.keeps below
  have kinds : ∀ y ∈ ps.zip us, (defScope st).names.lookup y.1 = some .local ∨
      ((defScope st).names.lookup y.1 = some .cell ∧
        ((cellsFrom (s.heap.objs.size + 1) (defScope st).names []).lookup y.1).isSome = true) := by
    rintro ⟨n, v⟩ hy
    have hin := (List.of_mem_zip hy).1
    rcases S.par n hin with q | q
    · exact Or.inl q
    · exact Or.inr ⟨q, PySem.W.cellsFrom_some _ _ _ (Or.inl q)⟩
  refine codeAny_call_function hr.depth (inK _ _ lk) rfl S.co S.gen rfl
    (PySem.W.codeRec_of inK hcd) (hb _ _ _ _ ?_)
  refine wpAny_newFunctionEnv_cells S.kind kinds ?_
  intro env he s1 x
  subst he
  refine ⟨nol.keeps x.toInCall.keep, codeAny_func ?_⟩
  obtain ⟨t, ht, hq⟩ := body cdv A outer s H vs Q E hg (hr.deeper _) hsp
  have I := inv_start (CX := CX0) (P := P) (w := w) (K := K) (mg := mg) (base := base) (E := E) S hr.hd e0 hlen r x
  refine wpAny_mono (ht.nox.run [] s1 (start N vs) H _ I hq) ?_ (fun e s' hs => hs)
  intro fl s' hs
  cases fl with
  | ret u =>
    obtain ⟨v, σ', H', J, rv, q⟩ := hs
    exact ⟨v, H', J.os, J.bare, J.base, J.hok, rv, q⟩
  | next =>
    obtain ⟨σ', H', J, q⟩ := hs
    exact ⟨V.non, H', J.os, J.bare, J.base, J.hok, rfl, q⟩
  | brk => exact hs.elim fun _ z => z.elim fun _ z => z.2.elim
  | cont => exact hs.elim fun _ z => z.elim fun _ z => z.2.elim
end

section
variable {X : Cx} {CX : CXT} {k : Nat} {f : Addr} {fd : FuncData} {ps : List Str} {sp : Sp} {dvs : List V}
  {ds : List Value} {E : XK} {x : Str} {p pos : Pos} {e : Expr} {es : List Expr} {t : TA}

theorem runG {pins : List (Addr × Obj)} {σ : L2.St} {H : Hp} {s : Shared} {Q : VK} {us : List Value} {vs : List V}
    (F : FnG X.prog X.w X.K X.mg X.base CX k f fd ps sp) (hG : X.A.guards = some []) (hr : Room k X.A)
    (hb : Binds X.K fd ps ds) (hd : Vals dvs ds) (hx : Passes CX X E)
    (I : Inv X pins σ H s) (r : Vals vs us) (h : sp (vs ++ dvs) H Q E) :
    wpAny (model X.prog X.w) X.A (call (.ref f) us) (EP X pins σ Q) X.xe s := by
  have both : Vals (vs ++ dvs) (us ++ ds) := r.append hd
  have many : (us ++ ds).length = ps.length := both.length ▸ F.len _ _ _ _ h
  have run := F.go X.A X.stack s H ⟨us, []⟩ (us ++ ds) (vs ++ dvs) Q E hG hr I.env0 (hb s us I.kIn many) both h
  refine wpAny_call (codeAny_mono run ?_)
  intro r s' hq
  match r, hq with
  | .error e, hq => exact hx pins σ H s e s' I hq
  | .ok (.ret u), hq => exact I.after hq
  | .ok .next, hq => exact False.elim hq
  | .ok .brk, hq => exact False.elim hq
  | .ok .cont, hq => exact False.elim hq

theorem pe_callG (F : FnG X.prog X.w X.K X.mg X.base CX k f fd ps sp) (hG : X.A.guards = some []) (hr : Room k X.A)
    (hg : Gl X x) (hm : X.mg x = some (.ref f)) (hk : PySem.W.keepIn X.K (.ref f) = true)
    (hb : Binds X.K fd ps ds) (hd : Vals dvs ds) (hx : Passes CX X E) (ha : PA X (e :: es) t)
    (hdb : (x == ("__debug__" : Str)) = false := by decide)
    (he : starEach (e :: es) X.env = (false, eval e X.env) :: starEach es X.env := by rfl)
    (hpl : (backTo pos (starEach es X.env)).any (·.1) = false := by rfl) :
    PE X (.Call (.Name x p) (e :: es) [] pos) (tCall sp dvs E t) := by
  constructor
  intro pins s σ H Q I h
  have inner := thn (ha.run pos pins s σ H _ I h) (Q' := fun us s1 => X.K.In s1.heap ∧
    wpAny (model X.prog X.w) X.A (call (.ref f) us) (EP X pins σ Q) X.xe s1)
    fun us s1 ⟨vs, H1, I1, r, q⟩ => ⟨I1.kIn, runG F hG hr hb hd hx I1 r q⟩
  exact wpAny_Call_Name_kw (ld_glob I hg hm (PySem.W.callWith_K (h₀ := X.base) I.ok.mod.kin hk inner he hpl) hdb)

end

/-! ### the law's call, guarded -/
theorem lawG {P : Program} {w : World} {K : PySem.W.Frag} {mg mb : Str → Option Value} {k : Nat} {fa a : Addr}
    {fd : FuncData} {x : Str} {sp : Sp} {s1 : Shared} {vs : List Value} {ns : List Int}
    (KX : K.In s1.heap) (hns : s1.heap.Ns mainGlobals mg) (hb : s1.heap.Ns builtinsNs mb)
    (hbb : ∀ x : Str, x ≠ "__name__" → mb x = bootBuiltins x) (hlim : s1.heap.NoLimit) (hg : s1.gens = #[])
    (ha : s1.heap.get? a = some { cls := .type "list", data := .seq vs.toArray }) (hi : IntsAre vs ns)
    (hl : ns.length ≤ sizeLine) (hr : Room k callerA)
    (hdg : s1.heap.NoDigits)
    (F : ∀ base : Heap, K.In base → base.Ns mainGlobals mg → base.NoDigits → FnG P w K mg base CX0 k fa fd [x] sp)
    (hbind : ∀ (s : Shared) (u : Value), BindsTo s fd ⟨[u], []⟩ [(x, u)])
    (hsp : ∀ H : Hp, Only H → SqL K H a (ns.map V.int) → sp [.ref a] H (fun v _ => v = .bl true) fun _ _ _ => False) :
    codeAny (model P w) callerA (.call (.ref fa) ⟨[.ref a], []⟩)
      (fun r s' => r = .ok (.ret (.bool true)) ∧ OldK s1.heap s'.heap ∧ s'.os = s1.os ∧ AllBare s'.gens) s1 := by
  have lenV := hi.length
  have core : ∀ H : Hp, Only H → SqL K H a (ns.map V.int) → HOk P w H s1.heap →
      (∀ b, H b ≠ none → b = a ∧ K.lookup a = none) →
      codeAny (model P w) callerA (.call (.ref fa) ⟨[.ref a], []⟩)
        (fun r s' => r = .ok (.ret (.bool true)) ∧ OldK s1.heap s'.heap ∧ s'.os = s1.os ∧ AllBare s'.gens) s1 := by
    intro H hO hS hok hA
    have free : ∀ {b : Addr} {o : Obj} {es : Array DictEntry} {ep : Nat},
        s1.heap.get? b = some o → o.data = .dict es ep → H b = none := by
      intro b o es ep e d
      by_cases q : H b = none
      · exact q
      · obtain ⟨rfl, _⟩ := hA b q
        rw [ha] at e
        cases e
        cases d
    have nsB : ∀ {b : Addr} {m : Str → Option Value}, s1.heap.Ns b m → (hidT s1.heap H).Ns b m := by
      rintro b m ⟨o, es, ep, e, d, r⟩
      exact ⟨o, es, ep, hidT_get e (free e d), d, r⟩
    have inB : K.In (hidT s1.heap H) := by
      intro b o e
      refine hidT_get (KX b o e) ?_
      by_cases q : H b = none
      · exact q
      · obtain ⟨rfl, z⟩ := hA b q
        rw [z] at e
        cases e
    obtain ⟨mc, l1, l2⟩ := hlim
    have hM : Mod K mg (hidT s1.heap H) := ⟨inB, nsB hns, ⟨mb, nsB hb, hbb⟩, ⟨mc, nsB l1, l2⟩⟩
    have e0 : Env0 P w K mg (hidT s1.heap H) callerA [] s1 H :=
      ⟨rfl, hM, fun b o e => of_hidT e, Nat.le_of_eq (hidT_size _ _), trivial,
        fun b z => absurd (show b ∈ ([] : List Addr) from z) (by simp), hok, .of_eq hg⟩
    obtain ⟨md, d1, d2⟩ := hdg
    have run := (F _ inB (nsB hns) ⟨md, nsB d1, d2⟩).go callerA [] s1 H ⟨[.ref a], []⟩ [.ref a] [.ref a] _ _ rfl hr e0
      (hbind s1 (.ref a)) (.cons rfl .nil) (hsp H hO hS)
    refine codeAny_mono run ?_
    intro r s' h
    match r, h with
    | .error e, h => exact False.elim h
    | .ok .next, h => exact False.elim h
    | .ok .brk, h => exact False.elim h
    | .ok .cont, h => exact False.elim h
    | .ok (.ret u), h =>
      obtain ⟨v, H', os, bare, un, hok', r', q⟩ := h
      have q' : v = .bl true := q
      subst q'
      obtain rfl : u = Value.bool true := r'
      refine ⟨rfl, OldK.of_keep ?_, os, bare⟩
      intro b o e
      rcases hO b with z | ⟨ob, xs, z⟩
      · exact un.keep b o e z (fun y => absurd (show b ∈ ([] : List Addr) from y) (by simp)) (by simp)
      · have g1 := (hok b _ z).1
        have g2 := (hok' b _ (un.frzs b ob _ z)).1
        rw [e] at g1
        cases g1
        exact g2
  have rv := vals_ints hi
  by_cases hk : K.lookup a = none
  · refine core (fun b => if b = a then some (.frz { cls := .type "list", data := .seq vs.toArray }
        (.lst (ns.map V.int))) else none) ?_ (.inl (.inr ⟨_, if_pos rfl⟩)) ?_ ?_
    · intro b
      by_cases hb : b = a
      · exact Or.inr ⟨_, _, if_pos hb⟩
      · exact Or.inl (if_neg hb)
    · intro b u z
      by_cases hb : b = a
      · have z' := (if_pos hb).symm.trans z
        cases z'
        subst hb
        exact ⟨ha, (List.length_map (as := ns) V.int).symm ▸ hl, vs, _, rv, ha⟩
      · have z' := (if_neg hb).symm.trans z
        cases z'
    · intro b z
      by_cases hb : b = a
      · exact ⟨hb, hk⟩
      · exact absurd (if_neg hb) z
  · obtain ⟨o, ho⟩ := Option.ne_none_iff_exists'.mp hk
    have e := KX a o ho
    rw [ha] at e
    cases e
    have sz : vs.toArray.size ≤ sizeLine := by
      rw [List.size_toArray, lenV]
      exact hl
    exact core (fun _ => none) (fun _ => Or.inl rfl)
      (Or.inr ⟨_, vs.toArray, _, ho, rfl, rfl, rfl, sz, by simpa using rv⟩)
      (fun b u z => nomatch (show (none : Option HO) = some u from z)) (fun b z => absurd rfl z)

theorem walkG {l : PySem.W.OpenLaw} {n k : Nat} {q : Program} {loose : List Str}
    {XP : (Str → Option Value) → Heap → Prop} {YP : World → Heap → Prop} {d : DefRec} {K : Params → PySem.W.Frag}
    {sp : PySem.W.Frag → Sp} {x : Str}
    (hn : l.most = some n) (hn2 : n ≤ sizeLine) (hdf : d.params.defaults = []) (hr : Room k callerA)
    (hY : ∀ (w : World) (h : Heap), YP w h → (K w.params).In h)
    (F : ∀ (w : World) (mg : Str → Option Value) (fa : Addr) (h : Heap), (K w.params).In h → h.Ns mainGlobals mg →
      mg d.name = some (.ref fa) → ∃ fd : FuncData, (∀ (s : Shared) (u : Value), BindsTo s fd ⟨[u], []⟩ [(x, u)]) ∧
        ∀ base : Heap, (K w.params).In base → base.Ns mainGlobals mg → base.NoDigits →
          FnG l.prog w (K w.params) mg base CX0 k fa fd [x] (sp (K w.params)))
    (hsp : ∀ (K : PySem.W.Frag) (H : Hp) (a : Addr) (ns : List Int), ns.length ≤ n → Only H →
      SqL K H a (ns.map V.int) → sp K [.ref a] H (fun v _ => v = .bl true) fun _ _ _ => False) :
    PySem.W.WalkO q loose XP YP l.row.toRowW d [] (fun f vs => PySem.call f vs) := by
  refine Att.attach_call hn hdf ?_
  intro w s0 s1 mg mb fa o pm cd doc a vs ns G Y ho hd hcd hmg hobj hints hlen hg
  have KX := hY w _ Y
  obtain ⟨fd, hb, hF⟩ := F w mg fa _ KX G.T.g hmg
  exact lawG KX G.T.g G.T.b G.T.builtins G.T.nolimit hg hobj hints (Nat.le_trans hlen hn2) hr G.T.nodigits hF hb
    (fun H hO hS => hsp (K w.params) H a ns hlen hO hS)

/-! ### numbers -/
section
variable {X : Cx}
def CMulA (i j : Int) : Prop := CMul i j ∨ CMulW i j
theorem cmulL {i j : Int} (h1 : -(2 ^ 64) < i) (h2 : i < 2 ^ 64) : CMulA i j := Or.inl (Or.inl ⟨h1, h2⟩)
theorem cmulR {i j : Int} (h1 : -(2 ^ 64) < j) (h2 : j < 2 ^ 64) : CMulA i j := Or.inl (Or.inr ⟨h1, h2⟩)
theorem op_mulA : OpR X (binaryOp .Mult) (rI CMulA fun i j => .int (i * j)) :=
  opI fun _ _ _ _ _ _ _ hc q => mul_int q (hc.elim CMul.ok CMulW.ok)
def B9 : Int := 2 ^ 8000
theorem small_B9 {j : Int} (h : j ≤ 10 ^ 60) : j < B9 := Int.lt_of_le_of_lt h (by unfold B9; decide +kernel)
def CDivA (_ j : Int) : Prop := 0 < j ∧ j < B9
theorem log_B9 {j : Int} (h1 : 0 < j) (h2 : j < B9) : j.natAbs.log2 < 9000 := by
  have h3 : j.natAbs < 2 ^ 8000 := by
    have e : ((j.natAbs : Nat) : Int) < ((2 ^ 8000 : Nat) : Int) := by
      rw [Int.natAbs_of_nonneg (Int.le_of_lt h1)]
      exact h2
    exact Int.ofNat_lt.mp e
  exact Nat.lt_of_lt_of_le (PySem.Flt.log2_lt_of (by decide) h3) (by decide)
theorem op_fdivA : OpR X (binaryOp .FloorDiv) (rI CDivA fun i j => .int (i / j)) :=
  opI fun i j _ _ _ _ _ hc q => by
    have h1 : (0 : Int) < j := hc.1
    have e := Int.fdiv_eq_ediv_of_nonneg i (Int.le_of_lt h1)
    refine floordiv_int (by omega) ?_ (.inl (PyProof.noPylong_of_log2 (log_B9 h1 hc.2)))
    rw [e]
    exact q
def CPowA (i j : Int) : Prop := 0 ≤ j ∧ (Builtin.Int.intBits i : Int) * j ≤ 2 ^ 27
theorem op_powA : OpR X (binaryOp .Pow) (rI CPowA fun i j => .int (i ^ j.toNat)) :=
  opI fun _ _ _ _ _ _ _ hc q => pow_int hc.1 hc.2 q
end

/-! ### built-ins by names of their own -/
def rLen (K : PySem.W.Frag) : List V → Hp → VK → Prop := fun xs H Q => ∃ x n, xs = [x] ∧ LenV K x H n ∧ Q (.int (n : Nat)) H
theorem call_lenA {X : Cx} : CallR X (.builtin "len") (rLen X.K) := call_len
/-! ### repr of data -/
end Gl

set_option Elab.async false
set_option maxRecDepth 100000
set_option maxHeartbeats 4000000
set_option linter.all false
/-! the stepper's lemmas: one a reading -/
namespace Gl
open PySem PySem.Spec L2
section
variable {σ : L2.St} {H H' : Hp} {Q : VK} {QT : Bool → Hp → Prop} {QA : List V → Hp → Prop} {v x y z : V} {te ta tb tc : TE} {tt tu : TT} {aa ar : TA}
  {t u : TS} {g : TG} {gs : TGs} {nx : L2.St → Hp → Prop} {rt : VK} {bk ct : L2.St → Hp → Prop} {i j : Nat} {r r' : R2} {K : PySem.W.Frag} {a d : Addr} {xs : List V} {b : Bool} {m n : Int}
theorem ix_0 {n : Nat} : ixN (n + 1) 0 = some 0 := by unfold ixN; rw [if_pos (by omega), if_pos (by omega)]; rfl
theorem ix_1 {n : Nat} : ixN (n + 2) 1 = some 1 := by unfold ixN; rw [if_pos (by omega), if_pos (by omega)]; rfl
end
/-! ### kinds of values -/
inductive Knd (K : PySem.W.Frag) (H : Hp) : V → String → Prop
  | non : Knd K H .non "NoneType"
  | bl (b : Bool) : Knd K H (.bl b) "bool"
  | int (i : Int) : Knd K H (.int i) "int"
  | str (x : Str) : Knd K H (.str x) "str"
  | lst {a : Addr} {xs : List V} (e : SqL K H a xs) : Knd K H (.ref a) "list"
  | tup {a : Addr} {xs : List V} (e : SqT K H a xs) : Knd K H (.ref a) "tuple"
  | dK {a : Addr} {kvs : List (Key × V)} (e : H a = some (.dK kvs)) : Knd K H (.ref a) "dict"
  | dF {a : Addr} {o : Obj} {kvs : List (Key × V)} (e : H a = some (.frz o (.dK kvs))) : Knd K H (.ref a) "dict"
theorem Knd.ty {K : PySem.W.Frag} {H : Hp} {v : V} {n : String} (h : Knd K H v n) : TyX K H v (.type n) := by
  cases h with
  | non => exact .base .non
  | bl b => exact .base (.bl b)
  | int i => exact .base (.int i)
  | str x => exact .base (.str x)
  | lst e =>
    rcases e with (e | ⟨o, e⟩) | ⟨o, its, n, e, c, _⟩
    · exact .base (.lst e)
    · exact .base (.frz e)
    · exact .kList e c
  | tup e =>
    rcases e with (e | ⟨o, e⟩) | ⟨o, its, n, e, c, _⟩
    · exact .base (.tup e)
    · exact .fTuple e
    · exact .kTuple e c
  | dK e => exact .base (.dK e)
  | dF e => exact .fDict e
theorem rdS {H H' : Hp} {a : Addr} {u : HO} (s : Same H H') (h : Rd H a u) : Rd H' a u := by
  rcases h with h | ⟨o, h⟩
  · exact Or.inl (s _ _ h)
  · exact Or.inr ⟨o, s _ _ h⟩
theorem sqTS {K : PySem.W.Frag} {H H' : Hp} {a : Addr} {xs : List V} (s : Same H H') (h : SqT K H a xs) : SqT K H' a xs := h.elim (fun h => Or.inl (rdS s h)) Or.inr
theorem sqLS {K : PySem.W.Frag} {H H' : Hp} {a : Addr} {xs : List V} (s : Same H H') (h : SqL K H a xs) : SqL K H' a xs := h.elim (fun h => Or.inl (rdS s h)) Or.inr
theorem Knd.same {K : PySem.W.Frag} {H H' : Hp} {v : V} {n : String} (s : Same H H') (h : Knd K H v n) : Knd K H' v n := by
  cases h with
  | non => exact .non
  | bl b => exact .bl b
  | int i => exact .int i
  | str x => exact .str x
  | lst e => exact .lst (sqLS s e)
  | tup e => exact .tup (sqTS s e)
  | dK e => exact .dK (s _ _ e)
  | dF e => exact .dF (s _ _ e)
def kinds : List String := ["NoneType", "bool", "int", "str", "list", "tuple", "dict"]
def asked : List String := ["bool", "int", "str", "list", "tuple", "dict"]
def isKind (n c : String) : Bool := n == c || (n == "bool" && c == "int")
theorem Knd.mem {K : PySem.W.Frag} {H : Hp} {v : V} {n : String} (h : Knd K H v n) : n ∈ kinds := by cases h <;> decide
section
variable {K : PySem.W.Frag} {H : Hp} {σ : L2.St} {Q : VK} {a : Addr} {xs : List V} {te : TE} {lo hi : Option Int} {to tu : TO} {QO : Option Int → Hp → Prop}
end
/-! ### loops -/
def lcK (J : It) (g : TG) (tt : TT) (te : TE) (vs : List Nat) (Q : VK) (σ : L2.St) (H : Hp) : Prop := tLc (fun _ H R => R J H) g tt te vs σ H Q
section
variable {σ : L2.St} {H : Hp} {Q : VK} {wi : TI} {g : TG} {tb : TS} {D : Ends} {J : It} {R : It → Hp → Prop} {ta : TA} {te tl : TE} {tt : TT} {vs : List Nat} {K : PySem.W.Frag} {a : Addr} {xs : List V}
  {nx : L2.St → Hp → Prop} {rt : VK} {bk ct : L2.St → Hp → Prop} {n : Nat} {G : Hp → Prop} {Y : Nat → Hp → V → Hp → Prop}
end
section
variable {K : PySem.W.Frag} {H : Hp} {σ : L2.St} {Q : VK} {a : Addr} {te : TE} {vs : List Nat}
end
theorem Same.new {H : Hp} {p : Addr} {o : HO} (h : H p = none) : Same H (upd H p o) := fun c o' e => by
  rw [upd_ne (ne_of_none e h)]
  exact e
end Gl

set_option Elab.async false
set_option maxRecDepth 100000
set_option maxHeartbeats 4000000
set_option linter.all false
/-! the stepper's lemmas for classes with slots, dicts, membership -/
namespace Gl
open PySem PySem.Spec L2
theorem FnOk.pos {P : Program} {w : World} {K : PySem.W.Frag} {mg : Str → Option Value} {base : Heap} {CX : CXT} {k : Nat} {f : Addr} {fd : FuncData} {ps : List Str} {sp : Sp}
    (F : FnOk P w K mg base CX k f fd ps sp) (hb : Binds K fd ps []) : FnR P w K mg base CX k f sp :=
  (F.raw hb .nil).imp fun vs H Q E h => by rw [List.append_nil]; exact h
section
variable {K : PySem.W.Frag} {H : Hp} {σ : L2.St} {Q : VK} {a C dx p : Addr} {vs : List (Option V)} {f : Str} {i : Nat} {v x y : V} {ta tv te : TE} {aa : TA} {sp : Sp} {E : XK} {xs : List V}
  {nx : L2.St → Hp → Prop} {rt : VK} {bk ct : L2.St → Hp → Prop} {b : Bool}
end
/-- numbers that may be multiplied -/
def Sm (x : Int) : Prop := x.natAbs.log2 < 100000
theorem cmulS {i j : Int} (h1 : Sm i) (h2 : Sm j) : CMulA i j := Or.inr (by unfold CMulW; unfold Sm at h1 h2; omega)
theorem Sm.of {x : Int} {n : Nat} (h : x.natAbs < 2 ^ n) (h0 : 0 < n) (h2 : n ≤ 100000) : Sm x := Nat.lt_of_lt_of_le (PySem.Flt.log2_lt_of h0 h) h2
end Gl

set_option Elab.async false
set_option maxRecDepth 100000
set_option maxHeartbeats 4000000
set_option linter.all false
/-! own __len__, sets of few ints told by their size, a def that knows its code -/
namespace Gl
open PySem PySem.Spec PyProof.Rows L2
section
variable {P : Program} {w : World} {K : PySem.W.Frag} {mg : Str → Option Value} {base : Heap}
end
section
variable {X : Cx} {CX : CXT} {C g : Addr} {n : Nat} {sp : Sp} {E : XK}
end
/-- a set's members, each once: how many after one more -/
def addN (p : (Int → Bool) × Nat) (k : Int) : (Int → Bool) × Nat := (fun j => p.1 j || decide (j = k), if p.1 k = true then p.2 else p.2 + 1)
def cnt4 (a b c d : Int) : Nat := ([a, b, c, d].foldl addN (fun _ => false, 0)).2
section
variable {P : Program} {w : World} {A : Around} {E : Value → Shared → Prop} {s : Shared} {D : Addr} {S : Int → Bool} {n : Nat}
end
section
variable {X : Cx}
end
/-! ### stepping -/
section
variable {K : PySem.W.Frag} {H : Hp} {σ : L2.St} {Q : VK} {a : Addr} {C : Addr} {dx : Addr} {vs : List (Option V)} {sp : Sp} {E : XK} {xs : List V} {te : TE} {tt : TA} {QA : List V → Hp → Prop} {n : Nat} {tg : TGs} {QS : L2.St → Hp → Prop}
def starK (K : PySem.W.Frag) (x : V) (tt : TA) (σ : L2.St) (H : Hp) (Q : List V → Hp → Prop) : Prop := ∃ p xs, x = V.ref p ∧ (SqT K H p xs ∨ SqL K H p xs) ∧ tt σ H fun ys H2 => Q (xs ++ ys) H2
end
section
variable {X : Cx}
theorem in_room {k : Nat} {A : Around} (r : Room k A) : A.units + 65 < cLine := by have := r.un; omega
end
section
variable {K : PySem.W.Frag} {H : Hp} {σ : L2.St} {Q : VK} {a : Addr} {te : TE} {tt : TT} {vs : List Nat}
end
end Gl

set_option Elab.async false
set_option maxRecDepth 100000
set_option maxHeartbeats 4000000
set_option linter.all false
/-! repr of data with great ints (fewer than 4300 figures): where sys.int_max_str_digits has not been set -/
namespace Gl
open PySem PySem.Spec PyProof.Rows L2
mutual
def Wide : PyData → Prop
  | .none => True
  | .bool _ => True
  | .str _ => True
  | .int i => i.natAbs < 10 ^ 4300
  | .list xs => WideAll xs
  | .tuple xs => WideAll xs
  | .dict _ => False
def WideAll : List PyData → Prop
  | [] => True
  | x :: xs => Wide x ∧ WideAll xs
end
mutual
/-- no text of it is longer -/
def wt : PyData → Nat
  | .none => 4
  | .bool _ => 5
  | .str x => (reprText x).length
  | .int _ => 4400
  | .list xs => wtAll xs + 2
  | .tuple xs => wtAll xs + 3
  | .dict _ => 0
def wtAll : List PyData → Nat
  | [] => 0
  | x :: xs => wt x + 2 + wtAll xs
end
theorem len_app (a b : Str) : (a ++ b).length = a.length + b.length := Str.length_append a b
theorem join_le (sep : Str) (hs : sep.length ≤ 2) : ∀ ts : List Str, (Str.join sep ts).length ≤ (ts.map fun t => t.length + 2).sum
  | [] => by
    show (Str.ofString "").length ≤ 0
    decide
  | [x] => by
    show x.length ≤ x.length + 2 + 0
    omega
  | x :: y :: r => by
    have ih := join_le sep hs (y :: r)
    show (x ++ sep ++ Str.join sep (y :: r)).length ≤ x.length + 2 + ((y :: r).map fun t => t.length + 2).sum
    rw [len_app, len_app]
    omega
theorem listText_le (ts : List Str) : (listText ts).length ≤ (ts.map fun t => t.length + 2).sum + 2 := by
  have key : ∀ (ts : List Str) (i : Nat) (acc : Str), (textFrom i acc ts).length ≤ acc.length + (ts.map fun t => t.length + 2).sum := by
    intro ts
    induction ts with
    | nil => intro i acc; exact Nat.le_refl _
    | cons t r ih =>
      intro i acc
      unfold textFrom
      refine Nat.le_trans (ih _ _) ?_
      have e2 : (Str.ofString ", ").length = 2 := by decide
      have e0 : (Str.ofString "").length = 0 := by decide
      rw [len_app, len_app]
      simp only [List.map_cons, List.sum_cons]
      split <;> (first | rw [e2] | rw [e0]) <;> omega
  show (textFrom 0 "[" ts ++ "]").length ≤ _
  rw [len_app]
  have h := key ts 0 "["
  have e1 : (Str.ofString "[").length = 1 := by decide
  have e2 : (Str.ofString "]").length = 1 := by decide
  rw [e1] at h
  rw [e2]
  omega
theorem tupleText_le (ts : List Str) : (tupleText ts).length ≤ (ts.map fun t => t.length + 2).sum + 3 := by
  have h := join_le ", " (by decide) ts
  unfold tupleText
  rw [len_app, len_app]
  have e1 : (Str.ofString "(").length = 1 := by decide
  have e2 : (Str.ofString ",)").length = 2 := by decide
  have e3 : (Str.ofString ")").length = 1 := by decide
  rw [e1]
  split <;> (first | rw [e2] | rw [e3]) <;> omega
mutual
theorem shown_le : ∀ d : PyData, Wide d → d.shown.length ≤ wt d
  | .none, _ => by decide
  | .bool b, _ => by cases b <;> decide
  | .str x, _ => Nat.le_refl _
  | .int i, h => by
    have e := int_text_length_le10 (k := 4300) (by decide) h
    show (Str.ofString (toString i)).length ≤ 4400
    rw [PySem.ofString_length]
    omega
  | .list xs, h => Nat.le_trans (listText_le _) (Nat.add_le_add_right (shownAll_le xs h) 2)
  | .tuple xs, h => Nat.le_trans (tupleText_le _) (Nat.add_le_add_right (shownAll_le xs h) 3)
  | .dict _, h => h.elim
theorem shownAll_le : ∀ xs : List PyData, WideAll xs → ((PyData.shownAll xs).map fun t => t.length + 2).sum ≤ wtAll xs
  | [], _ => Nat.le_refl _
  | x :: xs, h => by
    have h1 := shown_le x h.1
    have h2 := shownAll_le xs h.2
    show (x.shown.length + 2) + ((PyData.shownAll xs).map fun t => t.length + 2).sum ≤ wt x + 2 + wtAll xs
    omega
end
section
variable {prog : Program} {w : World} {h₀ : Heap}
theorem int_repr_call {A : Around} {E : Value → Shared → Prop} {s : Shared} {a : Int} {t : Tok} {Q : Value → Shared → Prop} (hn : s.heap.NoDigits) (ha : a.natAbs < 10 ^ 4300)
    (h : Q (.str (toString a) s.toks) { s with toks := s.toks + 1 }) : wpAny (model prog w) A (call (.builtin "int.__repr__") [.int a t]) Q E s := by
  refine wpAny_call_entry F.slot_int_repr (typeIs_int s a t) F.entry_int_repr ?_ (F.args_int_repr_1 _)
  unfold Builtin.«int.__repr__»
  show wpAny _ _ (do let r ← Builtin.overDigitLimit? a; _) _ _ s
  refine wpAny_bind (overDigitLimit_any hn (fun hlt => ?_) (fun hge => absurd ha (Nat.not_lt.mpr hge)))
  exact wpAny_bind (wpAny_mkStr (wpAny_pure ⟨_, rfl, h⟩) (int_text_fits10 hlt))
theorem reprK_int {as : List Addr} {d : Nat} {a : Int} (t : Tok) (hn : h₀.NoDigits) (ha : a.natAbs < 10 ^ 4300) : ReprK prog w as h₀ d (.int a t) (toString a) := by
  intro base hb A g E s Q hg hcl hu hk hQ
  rw [pyReprUnder_leaf (v := .int a t) (by omega) (fun _ e => nomatch e)]
  unfold pyRepr
  refine wpAny_bind (wpAny_pyReprObj_slot (by omega) (typeIs_int s a t) F.slot_int_repr.toG (int_repr_call (hn.keeps hk) ha ⟨_, _, rfl, ?_⟩))
  exact wpAny_pure (hQ s.heap _ fun _ _ e => e)
mutual
theorem repr_wide (hn : h₀.NoDigits) : ∀ {v : Value} {d : PyData} {as : List Addr}, Reads h₀ v d as → Wide d → d.shown.length ≤ sizeLine →
    ∃ bs, ReadAtMost h₀ d.depth bs ∧ ReprK prog w bs h₀ d.depth v d.shown
  | _, _, _, .none, _, _ => ⟨[], (fun _ h => nomatch h), ReprK.of_is ReprIs.none _ _ _⟩
  | _, _, _, .bool b, _, _ => ⟨[], (fun _ h => nomatch h), ReprK.of_is (ReprIs.bool b) _ _ _⟩
  | _, _, _, .int i t, hw, _ => ⟨[], (fun _ h => nomatch h), reprK_int t hn hw⟩
  | _, _, _, .str x t, _, hz => ⟨[], (fun _ h => nomatch h), ReprK.of_is (ReprIs.str x t hz) _ _ _⟩
  | _, _, _, .list (a := a) (vs := vs) (xs := xs) h1 h2 h3 h4, hw, hz => by
    have hz' : (listText (PyData.shownAll xs)).length ≤ sizeLine := hz
    obtain ⟨bs, hb, hk⟩ := repr_wideAll hn h4 hw (fun t ht => Nat.le_trans (listText_mem_le ht) hz')
    have r : Reads h₀ (.ref a) (.list xs) _ := Reads.list h1 h2 h3 h4
    have deep : PyData.depthAll xs < (PyData.list xs).depth := by
      simp only [PyData.depth]
      omega
    refine ⟨a :: bs, ReadAtMost.cons r (Nat.le_of_lt deep) hb, ?_⟩
    have hna := not_mem_of_deeper r deep hb
    show ReprK prog w (a :: bs) h₀ (PyData.list xs).depth (.ref a) (listText (PyData.shownAll xs))
    simp only [PyData.depth]
    obtain ⟨l⟩ := vs
    match l, h3, h4, hk with
    | [], h3, h4, _ =>
      have h4' : ReadsAll h₀ [] xs _ := h4
      cases h4'
      exact ReprK.listEmpty h1 h2 h3
    | x :: l, h3, h4, hk => exact ReprK.list h1 h2 h3 hna (by simpa using hk.length_eq) (fun i y e => hk.item i y (by simpa using e))
  | _, _, _, .tuple (a := a) (xs := xs) h1 h2 h3 h4, hw, hz => by
    have hz' : (tupleText (PyData.shownAll xs)).length ≤ sizeLine := hz
    obtain ⟨bs, hb, hk⟩ := repr_wideAll hn h4 hw (fun t ht => Nat.le_trans (tupleText_mem_le ht) hz')
    have r : Reads h₀ (.ref a) (.tuple xs) _ := Reads.tuple h1 h2 h3 h4
    have deep : PyData.depthAll xs < (PyData.tuple xs).depth := by
      simp only [PyData.depth]
      omega
    refine ⟨a :: bs, ReadAtMost.cons r (Nat.le_of_lt deep) hb, ?_⟩
    have hna := not_mem_of_deeper r deep hb
    show ReprK prog w (a :: bs) h₀ (PyData.tuple xs).depth (.ref a) (tupleText (PyData.shownAll xs))
    simp only [PyData.depth]
    exact ReprK.tuple h1 h2 h3 hna hk
  | _, _, _, .dict _ _ _ _ _, hw, _ => hw.elim
theorem repr_wideAll (hn : h₀.NoDigits) : ∀ {vs : List Value} {ds : List PyData} {as : List Addr}, ReadsAll h₀ vs ds as → WideAll ds → (∀ t ∈ PyData.shownAll ds, t.length ≤ sizeLine) →
    ∃ bs, ReadAtMost h₀ (PyData.depthAll ds) bs ∧ ReprAllK prog w bs h₀ (PyData.depthAll ds) vs (PyData.shownAll ds)
  | _, _, _, .nil, _, _ => ⟨[], (fun _ h => nomatch h), .nil⟩
  | _, _, _, .cons (d := d) (ds := ds) r rs, hw, hz => by
    have z1 : d.shown ∈ PyData.shownAll (d :: ds) := List.mem_cons_self ..
    obtain ⟨b1, hb1, k1⟩ := repr_wide hn r hw.1 (hz _ z1)
    obtain ⟨b2, hb2, k2⟩ := repr_wideAll hn rs hw.2 (fun t ht => hz t (List.mem_cons_of_mem d.shown ht))
    have m1 : d.depth ≤ PyData.depthAll (d :: ds) := by
      simp only [PyData.depthAll]
      omega
    have m2 : PyData.depthAll ds ≤ PyData.depthAll (d :: ds) := by
      simp only [PyData.depthAll]
      omega
    refine ⟨b1 ++ b2, (hb1.mono m1).append (hb2.mono m2), ?_⟩
    exact ReprAllK.cons ((k1.more fun b hb => List.mem_append_left _ hb).level_le m1) (k2.more_le (fun b hb => List.mem_append_right _ hb) m2)
end
end
def rReprW (K : PySem.W.Frag) : List V → Hp → VK → Prop := fun xs H Q => ∃ x d, xs = [x] ∧ Dp K H x d ∧ Wide d ∧ d.depth ≤ 30 ∧ wt d ≤ sizeLine ∧ Q (.str d.shown) H
theorem call_reprU {X : Cx} (hu : X.A.units + 64 < cLine) (hG : X.A.guards = some []) (nd : X.base.NoDigits) : CallR X (.builtin "repr") (rReprW X.K) := by
  intro pins s σ H xs us Q I r h
  obtain ⟨x, d, rfl, hd, hw, hdep, hwt, q⟩ := h
  obtain ⟨u, rfl, r1⟩ := vals1 r
  obtain ⟨as, rd⟩ := Dp.reads I d x u hd r1
  have hn : s.heap.NoDigits := nd.keeps I.bk
  have hsz : d.shown.length ≤ sizeLine := Nat.le_trans (shown_le d hw) hwt
  obtain ⟨bs, hb, hk⟩ := repr_wide (prog := X.prog) (w := X.w) hn rd hw hsz
  cases hd with
  | non => cases r1; exact P.repr_of_none ⟨.str _, H, I.tok _, ⟨_, rfl⟩, q⟩
  | bl b => cases r1; exact P.repr_of_bool ⟨.str _, H, I.tok _, ⟨_, rfl⟩, q⟩
  | int i =>
    obtain ⟨t, rfl⟩ := r1
    exact call_repr_slot (by omega) (typeIs_int s i t) F.slot_int_repr.toG (int_repr_call hn hw ⟨_, _, rfl, .str _, H, I.tok _, ⟨_, rfl⟩, q⟩)
  | str z =>
    obtain ⟨t, rfl⟩ := r1
    exact P.repr_of_str ⟨.str _, H, I.tok _, ⟨_, rfl⟩, q⟩ hsz
  | lst h1 h2 =>
    cases r1
    cases rd with
    | list g1 g2 g3 g4 =>
      rename_i ds o vs n bs0
      obtain ⟨bs, hb, hk⟩ := repr_wideAll (prog := X.prog) (w := X.w) hn g4 hw (fun t ht => Nat.le_trans (listText_mem_le ht) hsz)
      have r : Reads s.heap (.ref _) (.list ds) _ := Reads.list g1 g2 g3 g4
      have deep : PyData.depthAll ds < (PyData.list ds).depth := by
        simp only [PyData.depth]
        omega
      have hna := not_mem_of_deeper r deep hb
      have hdep' : PyData.depthAll ds + 1 ≤ 30 := Nat.le_trans deep hdep
      refine call_repr_slot (by omega) ⟨o, g1, g2⟩ F.slot_list_repr.toG ?_
      obtain ⟨l⟩ := vs
      match l, g3, g4, hk with
      | [], g3, g4, _ =>
        have g4' : ReadsAll s.heap [] ds _ := g4
        cases g4'
        exact call_list_repr_empty ⟨o, g1, g2⟩ g1 g3 ⟨_, _, rfl, .str _, H, I.tok _, ⟨_, rfl⟩, q⟩
      | x :: l, g3, g4, hk =>
        exact call_list_reprK g1 g2 g3 hna (by simpa using hk.length_eq) (fun i y e => hk.item i y (by simpa using e)) hG (fun b _ => Clear.nil b)
          (by show X.A.units + 1 + (PyData.depthAll ds + 1) < cLine; omega) (fun _ _ e => e) (fun h' u tk hk => ⟨_, _, rfl, .str _, H, I.kept hk, ⟨_, rfl⟩, q⟩) hsz
  | tup h1 h2 =>
    cases r1
    cases rd with
    | tuple g1 g2 g3 g4 =>
      rename_i ds o vs n
      obtain ⟨bs, hb, hk⟩ := repr_wideAll (prog := X.prog) (w := X.w) hn g4 hw (fun t ht => Nat.le_trans (tupleText_mem_le ht) hsz)
      have r : Reads s.heap (.ref _) (.tuple ds) _ := Reads.tuple g1 g2 g3 g4
      have deep : PyData.depthAll ds < (PyData.tuple ds).depth := by
        simp only [PyData.depth]
        omega
      have hna := not_mem_of_deeper r deep hb
      have hdep' : PyData.depthAll ds + 1 ≤ 30 := Nat.le_trans deep hdep
      refine call_repr_slot (by omega) ⟨o, g1, g2⟩ F.slot_tuple_repr ?_
      exact call_tuple_reprK g1 g2 g3 hna hk hG (fun b _ => Clear.nil b)
        (by show X.A.units + 1 + (PyData.depthAll ds + 1) < cLine; omega) (fun _ _ e => e) (fun h' u tk hk => ⟨_, _, rfl, .str _, H, I.kept hk, ⟨_, rfl⟩, q⟩) hsz
theorem r_reprW {K : PySem.W.Frag} {H : Hp} {x : V} {Q : VK} (e : PyData) (hd : Dp K H x e) (hw : Wide e) (hp : e.depth ≤ 30) (hl : wt e ≤ sizeLine) (h : Q (.str e.shown) H) : rReprW K [x] H Q := ⟨x, e, rfl, hd, hw, hp, hl, h⟩
end Gl

set_option Elab.async false
set_option maxRecDepth 100000
set_option maxHeartbeats 4000000
set_option linter.all false
/-! the mirror layer: plain data, stores, and what a reading does to them -/
namespace Md
open PySem PySem.Spec PyProof.Rows L2

/-- plain data -/
inductive D where
  | non | bl (b : Bool) | int (i : Int) | str (x : Str)
  | lst (xs : List D) | tup (xs : List D) | dic (kvs : List (Key × D))
  | ins (c : Nat) (fs : List D) | raw (v : V) | cell (n : Nat) | scr (ns : List Int) | ktp (xs : List D) | cls (c : Nat) | dct (kvs : List (List Key × D)) | ptp (xs : List D) | exc (c : Nat) (f : Str) (xs : List D)
/-- what a cell of the store holds -/
inductive Cl where
  | dead | lst (xs : List D) | dic (kvs : List (Key × D)) | ins (c : Nat) (fs : List (Option D)) | obj (c : Nat) (fs : List (Str × D)) | dct (kvs : List (List Key × D)) | dcn (kvs : List (PySem.NestedKey × D))
abbrev Sto := List Cl
abbrev DSt := List (Option D)
inductive Out (α : Type) where
  | ok (a : α) (s : Sto) | err (c : Nat) (p : Option (Str × D)) (s : Sto) | bad
def Out.bind {α β : Type} (o : Out α) (f : α → Sto → Out β) : Out β := match o with
  | .ok a s => f a s
  | .err c p s => .err c p s
  | .bad => .bad
inductive SOut where
  | nx (ds : DSt) (s : Sto) | rt (d : D) (s : Sto) | bk (ds : DSt) (s : Sto) | ct (ds : DSt) (s : Sto) | err (c : Nat) (p : Option (Str × D)) (ds : DSt) (s : Sto) | bad
abbrev FE := DSt → Sto → Out D
abbrev FA := DSt → Sto → Out (List D)
abbrev FT := DSt → Sto → Out Bool
abbrev FS := DSt → Sto → SOut
/-- a def's meaning -/
abbrev Fn := List D → Sto → Out D
def kD : Key → D
  | .inl i => .int i
  | .inr x => .str x

/-! ### values and data -/
/-- where the classes stand; the tables of code objects that lambdas are looked up in -/
structure Gam where
  at_ : Nat → Addr
  T : List (Addr × Str)
instance : CoeFun Gam (fun _ => Nat → Addr) := ⟨Gam.at_⟩
/-- not a cell -/
def nc : D → Bool
  | .cell _ => false
  | _ => true
def ncA (xs : List D) : Bool := xs.all nc
/-- a text, and an integer behind it: what may be a key of a dict -/
def keyish : List V → Bool
  | .str _ :: r => r.any fun v => match v with | .int _ => true | _ => false
  | _ => false
/-- a tuple; one that may be a key is tracked -/
structure TupF (K : PySem.W.Frag) (F : Hp) (a : Addr) (xs : List V) : Prop where
  sq : SqT K F a xs
  own : keyish xs = true → F a = some (.tup xs)
theorem TupF.of {K : PySem.W.Frag} {F : Hp} {a : Addr} {xs : List V} (h : F a = some (.tup xs)) : TupF K F a xs := ⟨SqT.of h, fun _ => h⟩
theorem TupF.far {K : PySem.W.Frag} {F : Hp} {a : Addr} {xs : List V} (h : SqT K F a xs) (n : keyish xs = false) : TupF K F a xs := ⟨h, fun q => by rw [n] at q; cases q⟩
theorem TupF.ext {K : PySem.W.Frag} {F F' : Hp} {a : Addr} {xs : List V} (s : Same F F') (h : TupF K F a xs) : TupF K F' a xs := ⟨Gl.sqTS s h.sq, fun q => s _ _ (h.own q)⟩
/-- at a: an exception object of the class C, its dict at d -/
def exw (a C : Addr) (d : Option Addr) : HO := .ext fun h => ∃ (oe : Obj) (vs : Array Value), h.get? a = some oe ∧ oe.cls = .ref C ∧ oe.dict = d ∧ oe.data = .fields vs ∧ ∀ q t, vs[1]? ≠ some (.str q t)
theorem exw_ok {P : Program} {w : World} {H : Hp} {h : Heap} {a C : Addr} {d : Option Addr} {oe : Obj} {vs : Array Value} (e : h.get? a = some oe) (z : Zc (.ref C) d oe) (hd : oe.data = .fields vs) (n : ∀ q t, vs[1]? ≠ some (.str q t)) : ObjOk P w H h a (exw a C d) :=
  ⟨⟨oe, vs, e, z.1, z.2, hd, n⟩, ⟨oe, e⟩, fun h1 h2 ⟨o, v, q, r⟩ k => ⟨o, v, k o q, r⟩⟩
/-- what it keeps: nothing, or one field -/
def XdAt (F : Hp) (d : Option Addr) (f : Str) : List V → Prop
  | [] => d = none
  | [v] => ∃ dx, d = some dx ∧ F dx = some (.xd [(f, v)])
  | _ => False
theorem XdAt.ext {F F' : Hp} {d : Option Addr} {f : Str} (k : Same F F') : ∀ {vs : List V}, XdAt F d f vs → XdAt F' d f vs
  | [], h => h
  | [_], ⟨dx, e, h⟩ => ⟨dx, e, k _ _ h⟩
  | _ :: _ :: _, h => h.elim
mutual
inductive Rp (K : PySem.W.Frag) (Γ : Gam) (F : Hp) : List Addr → V → D → Prop
  | non {ι : List Addr} : Rp K Γ F ι .non .non
  | bl {ι : List Addr} (b : Bool) : Rp K Γ F ι (.bl b) (.bl b)
  | int {ι : List Addr} (i : Int) : Rp K Γ F ι (.int i) (.int i)
  | str {ι : List Addr} (x : Str) : Rp K Γ F ι (.str x) (.str x)
  | lst {ι : List Addr} {a : Addr} {xs : List V} {ds : List D} : F a = some (.lst xs) → RpA K Γ F [] xs ds → Rp K Γ F ι (.ref a) (.lst ds)
  | scr {ι : List Addr} {a : Addr} {ns : List Int} : SqL K F a (ns.map V.int) → Rp K Γ F ι (.ref a) (.scr ns)
  | tup {ι : List Addr} {a : Addr} {xs : List V} {ds : List D} : TupF K F a xs → RpA K Γ F [] xs ds → Rp K Γ F ι (.ref a) (.tup ds)
  | dK {ι : List Addr} {a : Addr} {o : Obj} {kvs : List (Key × V)} {ds : List (Key × D)} : F a = some (.frz o (.dK kvs)) → RpK K Γ F [] kvs ds → Rp K Γ F ι (.ref a) (.dic ds)
  | ins {ι : List Addr} {a dx : Addr} {c : Nat} {xs : List V} {vs : List (Option V)} {ds : List D} : SlX.Slt F a (Γ c) dx vs → (∀ (i : Nat) (x : V), xs[i]? = some x → vs[i]? = some (some x)) → RpA K Γ F [] xs ds → Rp K Γ F ι (.ref a) (.ins c ds)
  | raw {ι : List Addr} (v : V) : Rp K Γ F ι v (.raw v)
  | cell {ι : List Addr} {a : Addr} {n : Nat} : ι[n]? = some a → Rp K Γ F ι (.ref a) (.cell n)
  | ktp {ι : List Addr} {a : Addr} {xs : List V} {ds : List D} : (∃ o, K.lookup a = some o ∧ o.cls = .type "tuple" ∧ o.dict = none) → SqT K F a xs → RpA K Γ F [] xs ds → Rp K Γ F ι (.ref a) (.ktp ds)
  | cls {ι : List Addr} (c : Nat) : Rp K Γ F ι (.ref (Γ c)) (.cls c)
  | dT {ι : List Addr} {a : Addr} {o : Obj} {kvs : List (List Key × V)} {ds : List (List Key × D)} : F a = some (.frz o (.dT kvs)) → RpT K Γ F [] kvs ds → Rp K Γ F ι (.ref a) (.dct ds)
  | ptp {ι : List Addr} {a : Addr} {xs : List V} {ds : List D} : F a = some (.tup xs) → RpA K Γ F [] xs ds → Rp K Γ F ι (.ref a) (.ptp ds)
  | exc {ι : List Addr} {a : Addr} {c : Nat} {d : Option Addr} {f : Str} {vs : List V} {ds : List D} : F a = some (exw a (Γ c) d) → XdAt F d f vs → RpA K Γ F [] vs ds → Rp K Γ F ι (.ref a) (.exc c f ds)
inductive RpA (K : PySem.W.Frag) (Γ : Gam) (F : Hp) : List Addr → List V → List D → Prop
  | nil {ι : List Addr} : RpA K Γ F ι [] []
  | cons {ι : List Addr} {v : V} {d : D} {vs : List V} {ds : List D} : Rp K Γ F ι v d → RpA K Γ F ι vs ds → RpA K Γ F ι (v :: vs) (d :: ds)
inductive RpK (K : PySem.W.Frag) (Γ : Gam) (F : Hp) : List Addr → List (Key × V) → List (Key × D) → Prop
  | nil {ι : List Addr} : RpK K Γ F ι [] []
  | cons {ι : List Addr} {k : Key} {v : V} {d : D} {vs : List (Key × V)} {ds : List (Key × D)} : Rp K Γ F ι v d → RpK K Γ F ι vs ds → RpK K Γ F ι ((k, v) :: vs) ((k, d) :: ds)
inductive RpT (K : PySem.W.Frag) (Γ : Gam) (F : Hp) : List Addr → List (List Key × V) → List (List Key × D) → Prop
  | nil {ι : List Addr} : RpT K Γ F ι [] []
  | cons {ι : List Addr} {k : List Key} {v : V} {d : D} {vs : List (List Key × V)} {ds : List (List Key × D)} : Rp K Γ F ι v d → RpT K Γ F ι vs ds → RpT K Γ F ι ((k, v) :: vs) ((k, d) :: ds)
end
/-- the fields of an instance with a dict -/
inductive RpF (K : PySem.W.Frag) (Γ : Gam) (F : Hp) (ι : List Addr) : List (Str × V) → List (Str × D) → Prop
  | nil : RpF K Γ F ι [] []
  | cons {f : Str} {v : V} {d : D} {vs : List (Str × V)} {ds : List (Str × D)} : Rp K Γ F ι v d → RpF K Γ F ι vs ds → RpF K Γ F ι ((f, v) :: vs) ((f, d) :: ds)
/-- more is frozen, more cells are there -/
structure Ext (F : Hp) (ι : List Addr) (F' : Hp) (ι' : List Addr) : Prop where
  same : Same F F'
  pre : ∀ (n : Nat) (a : Addr), ι[n]? = some a → ι'[n]? = some a
theorem Ext.refl {F : Hp} {ι : List Addr} : Ext F ι F ι := ⟨fun _ _ e => e, fun _ _ e => e⟩
theorem Ext.trans {F F1 F2 : Hp} {ι ι1 ι2 : List Addr} (a : Ext F ι F1 ι1) (b : Ext F1 ι1 F2 ι2) : Ext F ι F2 ι2 :=
  ⟨fun c o e => b.same c o (a.same c o e), fun n c e => b.pre n c (a.pre n c e)⟩
theorem slt_same {F F' : Hp} {a C dx : Addr} {vs : List (Option V)} (s : Same F F') (h : SlX.Slt F a C dx vs) : SlX.Slt F' a C dx vs := by
  rcases h with ⟨h, e⟩ | ⟨h, g⟩
  · exact Or.inl ⟨s _ _ h, e⟩
  · exact Or.inr ⟨s _ _ h, s _ _ g⟩
section
variable {K : PySem.W.Frag} {Γ : Gam} {F F' : Hp} {ι ι' : List Addr}
theorem Ext.nil (x : Ext F ι F' ι') : Ext F [] F' [] := ⟨x.same, fun _ _ e => by simp at e⟩
mutual
theorem Rp.ext {ι ι' : List Addr} (x : Ext F ι F' ι') : ∀ {d : D} {v : V}, Rp K Γ F ι v d → Rp K Γ F' ι' v d
  | .non, _, .non => .non
  | .bl _, _, .bl b => .bl b
  | .int _, _, .int i => .int i
  | .str _, _, .str z => .str z
  | .lst _, _, .lst h g => .lst (x.same _ _ h) (RpA.ext x.nil g)
  | .scr _, _, .scr h => .scr (Gl.sqLS x.same h)
  | .tup _, _, .tup h g => .tup (TupF.ext x.same h) (RpA.ext x.nil g)
  | .dic _, _, .dK h g => .dK (x.same _ _ h) (RpK.ext x.nil g)
  | .ins _ _, _, .ins h k g => .ins (slt_same x.same h) k (RpA.ext x.nil g)
  | .raw _, _, .raw v => .raw v
  | .cell _, _, .cell e => .cell (x.pre _ _ e)
  | .ktp _, _, .ktp k h g => .ktp k (Gl.sqTS x.same h) (RpA.ext x.nil g)
  | .cls _, _, .cls c => .cls c
  | .dct _, _, .dT h g => .dT (x.same _ _ h) (RpT.ext x.nil g)
  | .ptp _, _, .ptp h g => .ptp (x.same _ _ h) (RpA.ext x.nil g)
  | .exc _ _ _, _, .exc h k g => .exc (x.same _ _ h) (k.ext x.same) (RpA.ext x.nil g)
theorem RpA.ext {ι ι' : List Addr} (x : Ext F ι F' ι') : ∀ {ds : List D} {vs : List V}, RpA K Γ F ι vs ds → RpA K Γ F' ι' vs ds
  | [], _, .nil => .nil
  | _ :: _, _, .cons h g => .cons (Rp.ext x h) (RpA.ext x g)
theorem RpK.ext {ι ι' : List Addr} (x : Ext F ι F' ι') : ∀ {ds : List (Key × D)} {vs : List (Key × V)}, RpK K Γ F ι vs ds → RpK K Γ F' ι' vs ds
  | [], _, .nil => .nil
  | _ :: _, _, .cons h g => .cons (Rp.ext x h) (RpK.ext x g)
theorem RpT.ext {ι ι' : List Addr} (x : Ext F ι F' ι') : ∀ {ds : List (List Key × D)} {vs : List (List Key × V)}, RpT K Γ F ι vs ds → RpT K Γ F' ι' vs ds
  | [], _, .nil => .nil
  | _ :: _, _, .cons h g => .cons (Rp.ext x h) (RpT.ext x g)
end
theorem RpF.ext {ι ι' : List Addr} (x : Ext F ι F' ι') : ∀ {ds : List (Str × D)} {vs : List (Str × V)}, RpF K Γ F ι vs ds → RpF K Γ F' ι' vs ds
  | [], _, .nil => .nil
  | _ :: _, _, .cons h g => .cons (h.ext x) (RpF.ext x g)
/-- frozen data stand anywhere -/
theorem Rp.up {v : V} {d : D} (h : Rp K Γ F [] v d) : Rp K Γ F ι v d := h.ext ⟨fun _ _ e => e, fun _ _ e => by simp at e⟩
theorem RpA.up {vs : List V} {ds : List D} (h : RpA K Γ F [] vs ds) : RpA K Γ F ι vs ds := h.ext ⟨fun _ _ e => e, fun _ _ e => by simp at e⟩
theorem RpT.up {vs : List (List Key × V)} {ds : List (List Key × D)} (h : RpT K Γ F [] vs ds) : RpT K Γ F ι vs ds := h.ext ⟨fun _ _ e => e, fun _ _ e => by simp at e⟩
theorem RpK.up {vs : List (Key × V)} {ds : List (Key × D)} (h : RpK K Γ F [] vs ds) : RpK K Γ F ι vs ds := h.ext ⟨fun _ _ e => e, fun _ _ e => by simp at e⟩
theorem Rp.fz {v : V} {d : D} (h : Rp K Γ F ι v d) (n : nc d = true) : Rp K Γ F ι' v d := by
  cases h with
  | cell e => cases n
  | non => exact .non
  | bl b => exact .bl b
  | int i => exact .int i
  | str z => exact .str z
  | lst h g => exact .lst h g
  | scr h => exact .scr h
  | tup h g => exact .tup h g
  | dK h g => exact .dK h g
  | ins h k g => exact .ins h k g
  | raw v => exact .raw v
  | ktp k h g => exact .ktp k h g
  | cls c => exact .cls c
  | dT h g => exact .dT h g
  | ptp h g => exact .ptp h g
  | exc h k g => exact .exc h k g
theorem RpA.fz : ∀ {vs : List V} {ds : List D}, RpA K Γ F ι vs ds → ncA ds = true → RpA K Γ F ι' vs ds
  | _, _, .nil, _ => .nil
  | _, _, .cons h g, n => by
    unfold ncA at n
    rw [List.all_cons, Bool.and_eq_true] at n
    exact .cons (h.fz n.1) (RpA.fz g n.2)
theorem RpA.length : ∀ {vs : List V} {ds : List D}, RpA K Γ F ι vs ds → vs.length = ds.length
  | _, _, .nil => rfl
  | _, _, .cons _ g => congrArg (· + 1) (RpA.length g)
theorem RpA.append : ∀ {vs ws : List V} {ds es : List D}, RpA K Γ F ι vs ds → RpA K Γ F ι ws es → RpA K Γ F ι (vs ++ ws) (ds ++ es)
  | _, _, _, _, .nil, g => g
  | _, _, _, _, .cons h t, g => .cons h (RpA.append t g)
theorem RpA.get : ∀ {vs : List V} {ds : List D}, RpA K Γ F ι vs ds → ∀ {i : Nat} {d : D}, ds[i]? = some d → ∃ v, vs[i]? = some v ∧ Rp K Γ F ι v d
  | _, _, .nil, i, d, e => by simp at e
  | _, _, .cons h _, 0, d, e => by cases e; exact ⟨_, rfl, h⟩
  | _, _, .cons _ t, i + 1, d, e => by
    obtain ⟨v, e1, r⟩ := RpA.get t (i := i) (d := d) e
    exact ⟨v, e1, r⟩
theorem RpA.take : ∀ {vs : List V} {ds : List D}, RpA K Γ F ι vs ds → ∀ n, RpA K Γ F ι (vs.take n) (ds.take n)
  | _, _, h, 0 => .nil
  | _, _, .nil, _ + 1 => .nil
  | _, _, .cons h t, n + 1 => .cons h (RpA.take t n)
theorem RpA.drop : ∀ {vs : List V} {ds : List D}, RpA K Γ F ι vs ds → ∀ n, RpA K Γ F ι (vs.drop n) (ds.drop n)
  | _, _, h, 0 => h
  | _, _, .nil, _ + 1 => .nil
  | _, _, .cons h t, n + 1 => RpA.drop t n
theorem RpA.set : ∀ {vs : List V} {ds : List D}, RpA K Γ F ι vs ds → ∀ {v : V} {d : D}, Rp K Γ F ι v d → ∀ n, RpA K Γ F ι (vs.set n v) (ds.set n d)
  | _, _, .nil, _, _, _, _ => .nil
  | _, _, .cons _ t, _, _, h, 0 => .cons h t
  | _, _, .cons g t, _, _, h, n + 1 => .cons g (RpA.set t h n)
theorem RpA.reverse {vs : List V} {ds : List D} (h : RpA K Γ F ι vs ds) : RpA K Γ F ι vs.reverse ds.reverse := by
  induction vs generalizing ds with
  | nil => cases h; exact .nil
  | cons v vs ih =>
    cases h with
    | cons h t =>
      rw [List.reverse_cons, List.reverse_cons]
      exact (ih t).append (.cons h .nil)
end

/-! ### keys that are nested tuples -/
mutual
inductive NkV (K : PySem.W.Frag) (F : Hp) : PySem.NestedKey → V → Prop
  | num (i : Int) : NkV K F (.num i) (.int i)
  | tup {a : Addr} {vs : List V} {ks : List PySem.NestedKey} : SqT K F a vs → NkA K F ks vs → NkV K F (.tup ks) (.ref a)
inductive NkA (K : PySem.W.Frag) (F : Hp) : List PySem.NestedKey → List V → Prop
  | nil : NkA K F [] []
  | cons {k : PySem.NestedKey} {v : V} {ks : List PySem.NestedKey} {vs : List V} : NkV K F k v → NkA K F ks vs → NkA K F (k :: ks) (v :: vs)
end
mutual
theorem NkV.ext {K : PySem.W.Frag} {F F' : Hp} (s : Same F F') : ∀ {k : PySem.NestedKey} {v : V}, NkV K F k v → NkV K F' k v
  | _, _, .num i => .num i
  | _, _, .tup h g => .tup (Gl.sqTS s h) (NkA.ext s g)
theorem NkA.ext {K : PySem.W.Frag} {F F' : Hp} (s : Same F F') : ∀ {ks : List PySem.NestedKey} {vs : List V}, NkA K F ks vs → NkA K F' ks vs
  | _, _, .nil => .nil
  | _, _, .cons h g => .cons (NkV.ext s h) (NkA.ext s g)
end
/-- a row of such a dict: the key, where it stands, the value -/
abbrev RowN := PySem.NestedKey × Addr × V
/-- a dict whose keys are nested tuples of numbers -/
def NdP (a : Addr) (rows : List RowN) (h : Heap) : Prop := rows.length ≤ sizeLine ∧ (a == sysModules) = false ∧ ∃ xs : List (PySem.NestedKey × Addr × Value), Paired (fun (p : RowN) (q : PySem.NestedKey × Addr × Value) => p.1 = q.1 ∧ p.2.1 = q.2.1 ∧ L2.RelV p.2.2 q.2.2) rows xs ∧
  ∃ o es ep, h.get? a = some o ∧ o.ExactDict ∧ o.data = .dict es ep ∧ (xs.map (·.1)).Nodup ∧ ∀ w : World, es.toList = xs.map fun x => (⟨x.1.hash w, .ref x.2.1, x.2.2⟩ : DictEntry)
def NdO (a : Addr) (rows : List RowN) : HO := .ext (NdP a rows)
theorem NdO.inj {a : Addr} {r1 r2 : List RowN} (h : NdO a r1 = NdO a r2) : NdP a r1 = NdP a r2 := HO.ext.inj h
inductive RpN (K : PySem.W.Frag) (Γ : Gam) (F : Hp) (ι : List Addr) : List RowN → List (PySem.NestedKey × D) → Prop
  | nil : RpN K Γ F ι [] []
  | cons {k : PySem.NestedKey} {b : Addr} {v : V} {d : D} {vs : List RowN} {ds : List (PySem.NestedKey × D)} : NkV K F k (.ref b) → k.depth ≤ 8 → Rp K Γ F ι v d → RpN K Γ F ι vs ds → RpN K Γ F ι ((k, b, v) :: vs) ((k, d) :: ds)
theorem RpN.ext {K : PySem.W.Frag} {Γ : Gam} {F F' : Hp} {ι ι' : List Addr} (x : Ext F ι F' ι') : ∀ {vs : List RowN} {ds : List (PySem.NestedKey × D)}, RpN K Γ F ι vs ds → RpN K Γ F' ι' vs ds
  | _, _, .nil => .nil
  | _, _, .cons k l h g => .cons (k.ext x.same) l (h.ext x) (RpN.ext x g)
/-! ### slots, stores -/
def RS (K : PySem.W.Frag) (Γ : Gam) (F : Hp) (ι : List Addr) (σ : L2.St) (ds : DSt) : Prop :=
  σ.length = ds.length ∧ ∀ (i : Nat) (d : D), ds[i]? = some (some d) → ∃ v, σ[i]? = some (some v) ∧ Rp K Γ F ι v d
/-- an instance that is being made: new, or stored into -/
def InsAt (G F H : Hp) (a C dx : Addr) (vs : List (Option V)) : Prop :=
  (H a = some (.ins C dx []) ∧ vs = [] ∧ H dx = some (.own a) ∧ F dx = none ∧ G dx = none) ∨ (H a = some (SlX.SlO a C dx vs) ∧ H dx = some (.xd []) ∧ G dx = none)
def CellOk (K : PySem.W.Frag) (Γ : Gam) (G F H : Hp) (ι : List Addr) (a : Addr) : Cl → Prop
  | .dead => True
  | .lst ds => F a = none ∧ ∃ xs, H a = some (.lst xs) ∧ RpA K Γ F [] xs ds
  | .dic ds => F a = none ∧ ∃ kvs, H a = some (.dK kvs) ∧ RpK K Γ F ι kvs ds
  | .ins c fs => F a = none ∧ ∃ dx vs, InsAt G F H a (Γ c) dx vs ∧ ∀ (i : Nat) (d : D), fs[i]? = some (some d) → ∃ v, vs[i]? = some (some v) ∧ Rp K Γ F ι v d
  | .obj c fs => F a = none ∧ ∃ dx vs, H a = some (.ins (Γ c) dx vs) ∧ RpF K Γ F ι vs fs
  | .dct ds => F a = none ∧ ∃ kvs, H a = some (.dT kvs) ∧ RpT K Γ F ι kvs ds
  | .dcn ds => F a = none ∧ ∃ rows, H a = some (NdO a rows) ∧ RpN K Γ F ι rows ds
/-- no table, nothing that is told of a code object -/
def Pl (o : HO) : Prop := (∀ ps, o ≠ .tbl ps) ∧ ∀ c q, o ≠ LamX.CodeO c q
theorem Pl.of {o : HO} (h1 : ∀ ps, o ≠ .tbl ps) (h2 : ∀ φ, o ≠ .ext φ) : Pl o := ⟨h1, fun _ _ => h2 _⟩
/-- what tells that an object has no name where a code object has its own -/
theorem Pl.ext {a : Addr} {φ : Heap → Prop} (k : ∀ h, φ h → ∃ o, h.get? a = some o ∧ ∀ vs q t, o.data = .fields vs → vs[1]? ≠ some (.str q t)) : Pl (.ext φ) := by
  refine ⟨fun ps z => (by cases z), fun c q z => ?_⟩
  unfold LamX.CodeO at z
  have e := HO.ext.inj z
  let o : Obj := { cls := .none, data := .fields #[.none, .str q 0] }
  let h : Heap := { objs := Array.replicate (a + c + 1) o }
  have at_ : ∀ b : Addr, Nat.le b (Nat.add a c) → h.get? b = some o := fun b hb => by
    have : h.objs[b]? = some o := by
      show (Array.replicate (a + c + 1) o)[b]? = some o
      rw [Array.getElem?_replicate]
      exact if_pos (Nat.lt_succ_of_le hb)
    unfold Heap.get?
    rw [this]
  have hφ : φ h := by
    rw [e]
    exact ⟨o, _, 0, at_ c (Nat.le_add_left _ _), rfl, rfl⟩
  obtain ⟨o', e1, n⟩ := k h hφ
  rw [at_ a (Nat.le_add_right _ _)] at e1
  cases e1
  exact n _ q 0 rfl rfl
/-- the tables stand; nothing else is one -/
structure RelT (T : List (Addr × Str)) (G F H : Hp) (ι : List Addr) : Prop where
  tabs : LamX.Tabs T H
  plF : ∀ a o, F a = some o → Pl o
  plG : ∀ a ps, G a ≠ some (.tbl ps)
  plI : ∀ a ∈ ι, ∀ o, H a = some o → Pl o
  plU : ∀ a vs, G a ≠ some (.tup vs)
section
variable {T : List (Addr × Str)} {G F H : Hp} {ι : List Addr} {p a : Addr} {o u : HO}
theorem tabS_keep {H' : Hp} {P : Addr} {q : Str} (h : LamX.TabS H P q) (k : ∀ b v, H b = some v → ¬ Pl v → H' b = some v) : LamX.TabS H' P q := by
  obtain ⟨ps, e, t, c⟩ := h
  refine ⟨ps, k _ _ e fun z => z.1 ps rfl, t, fun pos cv hc => ?_⟩
  obtain ⟨c1, e1, e2⟩ := c pos cv hc
  exact ⟨c1, e1, k _ _ e2 fun z => z.2 _ _ rfl⟩
theorem tabs_keep {H' : Hp} (h : LamX.Tabs T H) (k : ∀ b v, H b = some v → ¬ Pl v → H' b = some v) : LamX.Tabs T H' := fun q hq => tabS_keep (h q hq) k
theorem RelT.junk (r : RelT T G F H ι) (hp : H p = none) (hi : p ∉ ι) : RelT T G F (upd H p o) ι :=
  ⟨tabs_keep r.tabs fun b v e _ => (upd_ne (ne_of_none e hp)).trans e, r.plF, r.plG, fun b hb v e => r.plI b hb v (by rwa [upd_ne (fun z => hi (by rw [← z]; exact hb))] at e), r.plU⟩
theorem RelT.fz (r : RelT T G F H ι) (ho : Pl o) : RelT T G (upd F p o) H ι :=
  ⟨r.tabs, fun b v e => by
    by_cases h : b = p
    · rw [h, upd_same] at e; cases e; exact ho
    · rw [upd_ne h] at e; exact r.plF b v e, r.plG, r.plI, r.plU⟩
theorem RelT.push (r : RelT T G F H ι) (hp : H p = none) (hi : p ∉ ι) (ho : Pl o) : RelT T G F (upd H p o) (ι ++ [p]) := by
  have q := r.junk (o := o) hp hi
  refine ⟨q.tabs, q.plF, q.plG, fun b hb v e => ?_, q.plU⟩
  rcases List.mem_append.mp hb with h | h
  · exact q.plI b h v e
  · rw [List.mem_singleton] at h
    rw [h, upd_same] at e
    cases e
    exact ho
theorem RelT.write (r : RelT T G F H ι) (hu : H a = some u) (pu : Pl u) (ho : Pl o) : RelT T G F (upd H a o) ι :=
  ⟨tabs_keep r.tabs fun b v e n => (upd_ne fun z => n (by rw [z, hu] at e; cases e; exact pu)).trans e, r.plF, r.plG, fun b hb v e => by
    by_cases h : b = a
    · rw [h, upd_same] at e; cases e; exact ho
    · rw [upd_ne h] at e; exact r.plI b hb v e, r.plU⟩
theorem RelT.aside (r : RelT T G F H ι) (ho : ∀ ps, o ≠ .tbl ps) (hu : ∀ vs, o ≠ .tup vs) : RelT T (upd G p o) F H ι :=
  ⟨r.tabs, r.plF, fun b ps e => by
    by_cases h : b = p
    · rw [h, upd_same] at e; exact ho ps (Option.some.inj e)
    · rw [upd_ne h] at e; exact r.plG b ps e, r.plI, fun b vs e => by
    by_cases h : b = p
    · rw [h, upd_same] at e; exact hu vs (Option.some.inj e)
    · rw [upd_ne h] at e; exact r.plU b vs e⟩
theorem RelT.back (r : RelT T (upd G p o) F H ι) (nG : G p = none) (e : H p = some o) (ho : Pl o) : RelT T G F (fun b => if b = p then none else H b) ι := by
  have kp : ∀ b v, H b = some v → b ≠ p → (fun b => if b = p then none else H b) b = some v := fun b v e h => by show (if b = p then none else H b) = some v; rw [if_neg h]; exact e
  refine ⟨tabs_keep r.tabs fun b v e1 n => kp b v e1 fun z => n (by rw [z, e] at e1; cases e1; exact ho), r.plF, fun b ps e1 => r.plG b ps ((upd_ne (ne_of_none e1 nG)).trans e1), fun b hb v e1 => ?_, fun b vs e1 => r.plU b vs ((upd_ne (ne_of_none e1 nG)).trans e1)⟩
  have e2 : (if b = p then none else H b) = some v := e1
  split at e2
  · cases e2
  · exact r.plI b hb v e2
theorem RelT.less {ι' : List Addr} (r : RelT T G F H ι) (h : ∀ a ∈ ι', a ∈ ι) : RelT T G F H ι' := ⟨r.tabs, r.plF, r.plG, fun a ha => r.plI a (h a ha), r.plU⟩
end
/-- G: what stands aside; F: what is frozen; ι: where the cells stand -/
structure Rel (K : PySem.W.Frag) (Γ : Gam) (G F H : Hp) (ι : List Addr) (s : Sto) : Prop where
  sub : Same F H
  aside : Same G H
  apart : ∀ a o, G a = some o → F a = none
  nd : ι.Nodup
  len : ι.length = s.length
  free : ∀ a ∈ ι, G a = none ∧ (H a).isSome = true
  at_ : ∀ (n : Nat) (c : Cl) (a : Addr), s[n]? = some c → ι[n]? = some a → CellOk K Γ G F H ι a c
  rest : RelT Γ.T G F H ι
section
variable {K : PySem.W.Frag} {Γ : Gam} {G F F' H H' : Hp} {ι ι' : List Addr} {s : Sto} {σ : L2.St} {ds : DSt} {p : Addr} {o : HO}
theorem RS.ext (x : Ext F ι F' ι') (h : RS K Γ F ι σ ds) : RS K Γ F' ι' σ ds := ⟨h.1, fun i d e => let ⟨v, e1, r⟩ := h.2 i d e; ⟨v, e1, r.ext x⟩⟩
theorem RS.set {v : V} {d : D} (h : RS K Γ F ι σ ds) (r : Rp K Γ F ι v d) (i : Nat) : RS K Γ F ι (σ.set i (some v)) (ds.set i (some d)) := by
  refine ⟨by rw [List.length_set, List.length_set]; exact h.1, fun j e q => ?_⟩
  by_cases hj : i = j
  · subst hj
    by_cases hi : i < ds.length
    · rw [List.getElem?_set_self hi] at q
      cases q
      exact ⟨v, by rw [List.getElem?_set_self (by rw [h.1]; exact hi)], r⟩
    · rw [List.getElem?_eq_none (by rw [List.length_set]; omega)] at q
      cases q
  · rw [List.getElem?_set_ne hj] at q
    obtain ⟨w, e1, r1⟩ := h.2 j e q
    exact ⟨w, by rw [List.getElem?_set_ne hj]; exact e1, r1⟩
theorem same_new (h : H p = none) : Same H (upd H p o) := fun c u e => (upd_ne (ne_of_none e h)).trans e
theorem same_newF (h : Same F H) (hp : H p = none) : F p = none := by
  cases e : F p with
  | none => rfl
  | some u => rw [h _ _ e] at hp; cases hp
theorem same_upd2 (h : Same F H) : Same (upd F p o) (upd H p o) := fun c u e => by
  by_cases hc : c = p
  · subst hc; rw [upd_same] at e ⊢; exact e
  · rw [upd_ne hc] at e ⊢; exact h c u e
theorem InsAt.keep {a C dx : Addr} {vs : List (Option V)} (h : InsAt G F H a C dx vs) (k : ∀ b u, H b = some u → b = a ∨ b = dx → H' b = some u) (f : ∀ b, H b = some (.own a) → F b = none → F' b = none) : InsAt G F' H' a C dx vs := by
  rcases h with ⟨h1, h2, h3, h4, h5⟩ | ⟨h1, h2, h3⟩
  · exact Or.inl ⟨k _ _ h1 (Or.inl rfl), h2, k _ _ h3 (Or.inr rfl), f _ h3 h4, h5⟩
  · exact Or.inr ⟨k _ _ h1 (Or.inl rfl), k _ _ h2 (Or.inr rfl), h3⟩
/-- what a cell knows stays, if what it leans on stays -/
theorem CellOk.keep {a : Addr} {c : Cl} (h : CellOk K Γ G F H ι a c) (x : Ext F ι F' ι') (k : ∀ b u, H b = some u → b = a ∨ u = .own a ∨ u = .xd [] → H' b = some u)
    (fa : F a = none → F' a = none) (fo : ∀ b, H b = some (.own a) → F b = none → F' b = none) : CellOk K Γ G F' H' ι' a c := by
  cases c with
  | dead => trivial
  | lst es =>
    obtain ⟨n, xs, e, r⟩ := h
    exact ⟨fa n, xs, k _ _ e (Or.inl rfl), r.ext x.nil⟩
  | dic es =>
    obtain ⟨n, xs, e, r⟩ := h
    exact ⟨fa n, xs, k _ _ e (Or.inl rfl), r.ext x⟩
  | ins c fs =>
    obtain ⟨n, dx, vs, i, r⟩ := h
    refine ⟨fa n, dx, vs, i.keep (fun b u e hb => ?_) fo, fun j d e => let ⟨v, e1, r1⟩ := r j d e; ⟨v, e1, r1.ext x⟩⟩
    rcases hb with hb | hb
    · exact k b u e (Or.inl hb)
    · subst hb
      rcases i with ⟨_, _, h3, _⟩ | ⟨_, h3, _⟩
      · rw [h3] at e; cases e; exact k _ _ h3 (Or.inr (Or.inl rfl))
      · rw [h3] at e; cases e; exact k _ _ h3 (Or.inr (Or.inr rfl))
  | obj c fs =>
    obtain ⟨n, dx, vs, e, r⟩ := h
    exact ⟨fa n, dx, vs, k _ _ e (Or.inl rfl), r.ext x⟩
  | dct es =>
    obtain ⟨n, xs, e, r⟩ := h
    exact ⟨fa n, xs, k _ _ e (Or.inl rfl), r.ext x⟩
  | dcn es =>
    obtain ⟨n, xs, e, r⟩ := h
    exact ⟨fa n, xs, k _ _ e (Or.inl rfl), r.ext x⟩
/-- a new thing, frozen at once -/
theorem Rel.new (r : Rel K Γ G F H ι s) (hp : H p = none) (ho : Pl o := by exact (Pl.of (fun _ z => nomatch z) (fun _ z => nomatch z))) : Rel K Γ G (upd F p o) (upd H p o) ι s ∧ Ext F ι (upd F p o) ι := by
  have hF := same_newF r.sub hp
  have x : Ext F ι (upd F p o) ι := ⟨same_new hF, fun _ _ e => e⟩
  have np : ∀ b u, H b = some u → b ≠ p := fun b u e => ne_of_none e hp
  refine ⟨⟨same_upd2 r.sub, fun c u e => (upd_ne (np _ _ (r.aside _ _ e))).trans (r.aside _ _ e), fun a u e => ?_, r.nd, r.len, fun a ha => ⟨(r.free a ha).1, ?_⟩, fun n c a e1 e2 => ?_, (r.rest.fz ho).junk hp fun z => by have q := (r.free p z).2; rw [hp] at q; cases q⟩, x⟩
  · rw [upd_ne (np _ _ (r.aside _ _ e))]; exact r.apart a u e
  · obtain ⟨u, hu⟩ := Option.isSome_iff_exists.mp (r.free a ha).2
    rw [upd_ne (np _ _ hu), hu]; rfl
  · have hu := Option.isSome_iff_exists.mp (r.free a (List.mem_of_getElem? e2)).2
    obtain ⟨u, hu⟩ := hu
    refine (r.at_ n c a e1 e2).keep x (fun b u e _ => (upd_ne (np _ _ e)).trans e) (fun h => (upd_ne (np _ _ hu)).trans h) (fun b e h => (upd_ne (np _ _ e)).trans h)
/-- a tuple that stands is known from now on -/
theorem Rel.learn {T : Addr} {vs : List V} (r : Rel K Γ G F H ι s) (h : H T = some (.tup vs)) : ∃ F', Ext F ι F' ι ∧ Rel K Γ G F' H ι s ∧ F' T = some (.tup vs) := by
  cases e : F T with
  | some o =>
    have q := r.sub T o e
    rw [h] at q
    cases q
    exact ⟨F, ⟨fun _ _ e => e, fun _ _ e => e⟩, r, e⟩
  | none =>
    have x : Ext F ι (upd F T (.tup vs)) ι := ⟨same_new e, fun _ _ e => e⟩
    have pl : Pl (.tup vs) := Pl.of (fun _ z => nomatch z) (fun _ z => nomatch z)
    refine ⟨upd F T (.tup vs), x, ⟨fun c u q => ?_, r.aside, fun a u q => ?_, r.nd, r.len, r.free, fun n c a e1 e2 => ?_, r.rest.fz pl⟩, upd_same⟩
    · by_cases hc : c = T
      · rw [hc, upd_same] at q; cases q; rw [hc]; exact h
      · rw [upd_ne hc] at q; exact r.sub c u q
    · have ne : a ≠ T := fun z => by
        have q2 := r.aside a u q
        rw [z, h] at q2
        cases q2
        exact r.rest.plU a vs q
      rw [upd_ne ne]; exact r.apart a u q
    · have ck := r.at_ n c a e1 e2
      by_cases hd : c = .dead
      · subst hd; trivial
      · have ne : a ≠ T := fun z => by
          subst z
          cases c with
          | dead => exact hd rfl
          | lst es => obtain ⟨_, xs, e3, _⟩ := ck; rw [h] at e3; cases e3
          | dic es => obtain ⟨_, xs, e3, _⟩ := ck; rw [h] at e3; cases e3
          | ins c fs =>
            obtain ⟨_, dx, ws, ia, _⟩ := ck
            rcases ia with ⟨h1, _⟩ | ⟨h1, _⟩ <;> (rw [h] at h1; cases h1)
          | obj c fs => obtain ⟨_, dx, ws, e3, _⟩ := ck; rw [h] at e3; cases e3
          | dct es => obtain ⟨_, xs, e3, _⟩ := ck; rw [h] at e3; cases e3
          | dcn es => obtain ⟨_, xs, e3, _⟩ := ck; rw [h] at e3; cases e3
        refine ck.keep x (fun _ _ e _ => e) (fun q => (upd_ne ne).trans q) (fun b e3 q => (upd_ne fun z => by rw [z, h] at e3; cases e3).trans q)
/-- a new cell -/
theorem Rel.push (r : Rel K Γ G F H ι s) (hp : H p = none) {c : Cl} (hc : CellOk K Γ G F (upd H p o) (ι ++ [p]) p c) (ho : Pl o := by exact (Pl.of (fun _ z => nomatch z) (fun _ z => nomatch z))) : Rel K Γ G F (upd H p o) (ι ++ [p]) (s ++ [c]) ∧ Ext F ι F (ι ++ [p]) := by
  have hF := same_newF r.sub hp
  have hG := same_newF r.aside hp
  have x : Ext F ι F (ι ++ [p]) := ⟨fun _ _ e => e, fun n a e => by rw [List.getElem?_append_left (List.getElem?_eq_some_iff.mp e).1]; exact e⟩
  have np : ∀ b u, H b = some u → b ≠ p := fun b u e => ne_of_none e hp
  have hi : p ∉ ι := fun z => by have q := (r.free p z).2; rw [hp] at q; cases q
  refine ⟨⟨fun c u e => (upd_ne (np _ _ (r.sub _ _ e))).trans (r.sub _ _ e), fun c u e => (upd_ne (np _ _ (r.aside _ _ e))).trans (r.aside _ _ e), r.apart, ?_, by rw [List.length_append, List.length_append, r.len]; rfl, fun a ha => ?_, fun n d a e1 e2 => ?_, r.rest.push hp hi ho⟩, x⟩
  · exact List.nodup_append.mpr ⟨r.nd, by simp, fun a ha b hb => by rw [List.mem_singleton] at hb; subst hb; exact fun z => hi (z ▸ ha)⟩
  · rcases List.mem_append.mp ha with h | h
    · obtain ⟨u, hu⟩ := Option.isSome_iff_exists.mp (r.free a h).2
      exact ⟨(r.free a h).1, by rw [upd_ne (np _ _ hu), hu]; rfl⟩
    · rw [List.mem_singleton] at h; subst h
      exact ⟨hG, by rw [upd_same]; rfl⟩
  · by_cases hn : n < s.length
    · rw [List.getElem?_append_left hn] at e1
      rw [List.getElem?_append_left (by rw [r.len]; exact hn)] at e2
      exact (r.at_ n d a e1 e2).keep x (fun b u e _ => (upd_ne (np _ _ e)).trans e) (fun h => h) (fun b e h => h)
    · have hn' : n = s.length := by
        have := (List.getElem?_eq_some_iff.mp e1).1
        rw [List.length_append] at this
        have h1 : [c].length = 1 := rfl
        omega
      subst hn'
      rw [List.getElem?_append_right (Nat.le_refl _), Nat.sub_self] at e1
      rw [List.getElem?_append_right (by rw [r.len]; exact Nat.le_refl _), r.len, Nat.sub_self] at e2
      cases e1; cases e2
      exact hc
/-- a cell is written -/
theorem Rel.write {n : Nat} {a : Addr} {c : Cl} {u : HO} (r : Rel K Γ G F H ι s) (ha : ι[n]? = some a) (hu : H a = some u) (n1 : ∀ b, u ≠ .own b) (n2 : u ≠ .xd []) (hF : F a = none) (hc : CellOk K Γ G F (upd H a o) ι a c) (hpu : Pl u := by exact (Pl.of (fun _ z => nomatch z) (fun _ z => nomatch z))) (ho : Pl o := by exact (Pl.of (fun _ z => nomatch z) (fun _ z => nomatch z))) : Rel K Γ G F (upd H a o) ι (s.set n c) := by
  have hm := List.mem_of_getElem? ha
  have hG := (r.free a hm).1
  refine ⟨fun b v e => ?_, fun b v e => ?_, r.apart, r.nd, by rw [List.length_set]; exact r.len, fun b hb => ⟨(r.free b hb).1, ?_⟩, fun m d b e1 e2 => ?_, r.rest.write hu hpu ho⟩
  · rw [upd_ne (ne_of_none e hF)]; exact r.sub b v e
  · rw [upd_ne (ne_of_none e hG)]; exact r.aside b v e
  · by_cases h : b = a
    · subst h; rw [upd_same]; rfl
    · rw [upd_ne h]; exact (r.free b hb).2
  · by_cases h : n = m
    · subst h
      rw [ha] at e2; cases e2
      have hn : n < s.length := by rw [← r.len]; exact (List.getElem?_eq_some_iff.mp ha).1
      rw [List.getElem?_set_self hn] at e1; cases e1
      exact hc
    · rw [List.getElem?_set_ne h] at e1
      have hb : b ≠ a := by
        rintro rfl
        obtain ⟨h1, e3⟩ := List.getElem?_eq_some_iff.mp ha
        obtain ⟨h2, e4⟩ := List.getElem?_eq_some_iff.mp e2
        exact h ((List.getElem_inj r.nd).mp (e3.trans e4.symm))
      refine (r.at_ m d b e1 e2).keep Ext.refl (fun b' v e hb' => ?_) (fun h => h) (fun _ _ h => h)
      refine (upd_ne ?_).trans e
      rintro rfl
      rw [hu] at e; cases e
      rcases hb' with z | z | z
      · exact hb z.symm
      · exact n1 _ z
      · exact n2 z
/-- a new thing stands aside -/
theorem Rel.put (r : Rel K Γ G F H ι s) (n0 : H p = none) (ho : ∀ ps, o ≠ .tbl ps := by exact (fun _ z => nomatch z)) (hu : ∀ vs, o ≠ .tup vs := by exact (fun _ z => nomatch z)) : Rel K Γ (upd G p o) F (upd H p o) ι s := by
  have nF : F p = none := same_newF r.sub n0
  have nι : p ∉ ι := fun z => by have q := (r.free p z).2; rw [n0] at q; cases q
  have np : ∀ b u, H b = some u → b ≠ p := fun b u e => ne_of_none e n0
  refine ⟨fun c u e => (upd_ne (np _ _ (r.sub _ _ e))).trans (r.sub _ _ e), same_upd2 r.aside, fun a u e => ?_, r.nd, r.len, fun a ha => ?_, fun n c a e1 e2 => ?_, (r.rest.junk n0 nι).aside ho hu⟩
  · by_cases h : a = p
    · rw [h]; exact nF
    · rw [upd_ne h] at e; exact r.apart a u e
  · have h : a ≠ p := fun z => nι (z ▸ ha)
    rw [upd_ne h, upd_ne h]
    exact r.free a ha
  · have ck := r.at_ n c a e1 e2
    have ck' : CellOk K Γ (upd G p o) F H ι a c := by
      cases c with
      | dead => trivial
      | lst es => exact ck
      | dic es => exact ck
      | obj cc fs => exact ck
      | dct es => exact ck
      | dcn es => exact ck
      | ins cc fs =>
        obtain ⟨n1, dx, vs, i1, r1⟩ := ck
        refine ⟨n1, dx, vs, ?_, r1⟩
        rcases i1 with ⟨h1, h2, h3, h4, h5⟩ | ⟨h1, h2, h3⟩
        · exact Or.inl ⟨h1, h2, h3, h4, (upd_ne (np _ _ h3)).trans h5⟩
        · exact Or.inr ⟨h1, h2, (upd_ne (np _ _ h2)).trans h3⟩
    exact ck'.keep Ext.refl (fun b u e _ => (upd_ne (np _ _ e)).trans e) (fun h => h) (fun _ _ h => h)
/-- it stands aside no more -/
theorem Rel.back (r : Rel K Γ (upd G p o) F H ι s) (nG : G p = none) (o1 : ∀ b, o ≠ .own b) (o2 : o ≠ .xd []) (ho : Pl o := by exact (Pl.of (fun _ z => nomatch z) (fun _ z => nomatch z))) : ∃ H3, H3 p = none ∧ (∀ u, upd H3 p u = upd H p u) ∧ Rel K Γ G F H3 ι s ∧ H p = some o := by
  have e2 : H p = some o := r.aside p _ upd_same
  have f2 : F p = none := r.apart p _ upd_same
  have i2 : p ∉ ι := fun z => by have q := (r.free p z).1; rw [upd_same] at q; cases q
  have kp : ∀ b u, H b = some u → b ≠ p → (fun b => if b = p then none else H b) b = some u := fun b u e h => by show (if b = p then none else H b) = some u; rw [if_neg h]; exact e
  refine ⟨fun b => if b = p then none else H b, if_pos rfl, fun u => ?_, ⟨fun b u e => kp b u (r.sub b u e) (ne_of_none e f2), fun b u e => ?_, fun b u e => ?_, r.nd, r.len, fun a ha => ?_, fun n c a e1 e3 => ?_, r.rest.back nG e2 ho⟩, e2⟩
  · funext b
    unfold upd
    by_cases h : b = p
    · rw [if_pos h, if_pos h]
    · rw [if_neg h, if_neg h]
      exact if_neg h
  · have h : b ≠ p := ne_of_none e nG
    exact kp b u (r.aside b u ((upd_ne h).trans e)) h
  · have h : b ≠ p := ne_of_none e nG
    exact r.apart b u ((upd_ne h).trans e)
  · have h : a ≠ p := fun z => i2 (z ▸ ha)
    have q := r.free a ha
    rw [upd_ne h] at q
    refine ⟨q.1, ?_⟩
    show (if a = p then none else H a).isSome = true
    rw [if_neg h]
    exact q.2
  · have h : a ≠ p := fun z => i2 (z ▸ List.mem_of_getElem? e3)
    have ck := r.at_ n c a e1 e3
    have ck' : CellOk K Γ G F H ι a c := by
      cases c with
      | dead => trivial
      | lst es => exact ck
      | dic es => exact ck
      | obj cc fs => exact ck
      | dct es => exact ck
      | dcn es => exact ck
      | ins cc fs =>
        obtain ⟨n1, dx, vs, i1, r1⟩ := ck
        refine ⟨n1, dx, vs, ?_, r1⟩
        rcases i1 with ⟨h1, h2, h3, h4, h5⟩ | ⟨h1, h2, h3⟩
        · have hd : dx ≠ p := fun z => by rw [z, upd_same] at h5; cases h5
          rw [upd_ne hd] at h5
          exact Or.inl ⟨h1, h2, h3, h4, h5⟩
        · have hd : dx ≠ p := fun z => by rw [z, upd_same] at h3; cases h3
          rw [upd_ne hd] at h3
          exact Or.inr ⟨h1, h2, h3⟩
    refine ck'.keep Ext.refl (fun b u e hb => kp b u e ?_) (fun h => h) (fun _ _ h => h)
    rintro rfl
    rw [e2] at e; cases e
    rcases hb with z | z | z
    · exact h z.symm
    · exact o1 _ z
    · exact o2 z
/-- a new thing that no one needs -/
theorem Rel.junk (r : Rel K Γ G F H ι s) (hp : H p = none) : Rel K Γ G F (upd H p o) ι s := by
  have np : ∀ b u, H b = some u → b ≠ p := fun b u e => ne_of_none e hp
  refine ⟨fun c u e => (upd_ne (np _ _ (r.sub _ _ e))).trans (r.sub _ _ e), fun c u e => (upd_ne (np _ _ (r.aside _ _ e))).trans (r.aside _ _ e), r.apart, r.nd, r.len, fun a ha => ?_, fun n c a e1 e2 => ?_, r.rest.junk hp fun z => by have q := (r.free p z).2; rw [hp] at q; cases q⟩
  · obtain ⟨u, hu⟩ := Option.isSome_iff_exists.mp (r.free a ha).2
    exact ⟨(r.free a ha).1, by rw [upd_ne (np _ _ hu), hu]; rfl⟩
  · exact (r.at_ n c a e1 e2).keep Ext.refl (fun b u e _ => (upd_ne (np _ _ e)).trans e) (fun h => h) (fun _ _ h => h)
end
end Md

set_option Elab.async false
set_option maxRecDepth 100000
set_option maxHeartbeats 4000000
set_option linter.all false
/-! the mirror layer: readings and their data -/
namespace Md
open PySem PySem.Spec PyProof.Rows L2
/-- an exception's payload -/
def ErrAt (K : PySem.W.Frag) (Γ : Gam) (F H : Hp) (ι : List Addr) (dd : Option Addr) (p : Option (Str × D)) : Prop :=
  match p with
  | none => dd = none
  | some (f, d) => ∃ a v, dd = some a ∧ H a = some (.xd [(f, v)]) ∧ Rp K Γ F ι v d
section
variable (K : PySem.W.Frag) (Γ : Gam) (W : WX) (σ : L2.St) (G F : Hp) (ι : List Addr)
/-- behind an outcome -/
def Post {α β : Type} (R : Hp → List Addr → α → β → Prop) (Q : α → Hp → Prop) : Out β → Prop
  | .ok d s => ∀ v H' F' ι', Ext F ι F' ι' → Rel K Γ G F' H' ι' s → R F' ι' v d → Q v H'
  | .err c p s => ∀ dd H' F' ι', Ext F ι F' ι' → Rel K Γ G F' H' ι' s → ErrAt K Γ F' H' ι' dd p → W (.ref (Γ c)) dd σ H'
  | .bad => False
end
abbrev RV (K : PySem.W.Frag) (Γ : Gam) : Hp → List Addr → V → D → Prop := Rp K Γ
abbrev RA (K : PySem.W.Frag) (Γ : Gam) : Hp → List Addr → List V → List D → Prop := RpA K Γ
abbrev RB : Hp → List Addr → Bool → Bool → Prop := fun _ _ a b => a = b
section
variable {K : PySem.W.Frag} {Γ : Gam} {W : WX} {σ : L2.St} {G F F' : Hp} {ι ι' : List Addr} {α β : Type} {R : Hp → List Addr → α → β → Prop} {Q Q' : α → Hp → Prop} {o : Out β}
theorem Post.ext (x : Ext F ι F' ι') (h : Post K Γ W σ G F ι R Q o) : Post K Γ W σ G F' ι' R Q o := by
  cases o with
  | ok d s => exact fun v H' F2 ι2 y => h v H' F2 ι2 (x.trans y)
  | err c p s => exact fun v H' F2 ι2 y => h v H' F2 ι2 (x.trans y)
  | bad => exact h
theorem Post.mono (h : Post K Γ W σ G F ι R Q o) (k : ∀ v H, Q v H → Q' v H) : Post K Γ W σ G F ι R Q' o := by
  cases o with
  | ok d s => exact fun v H' F2 ι2 y r q => k _ _ (h v H' F2 ι2 y r q)
  | err c p s => exact h
  | bad => exact h
end
/-- a reading's data: of an expression, arguments, a test -/
def GdX (K : PySem.W.Frag) (Γ : Gam) (W : WX) {α β : Type} (R : Hp → List Addr → α → β → Prop) (t : L2.St → Hp → (α → Hp → Prop) → Prop) (φ : DSt → Sto → Out β) : Prop :=
  ∀ (σ : L2.St) (H : Hp) (Q : α → Hp → Prop) (G F : Hp) (ι : List Addr) (s : Sto) (ds : DSt), RS K Γ F ι σ ds → Rel K Γ G F H ι s → Post K Γ W σ G F ι R Q (φ ds s) → t σ H Q
abbrev Gd (K : PySem.W.Frag) (Γ : Gam) (W : WX) (t : TE) (φ : FE) : Prop := GdX K Γ W (RV K Γ) t φ
abbrev Ga (K : PySem.W.Frag) (Γ : Gam) (W : WX) (t : TA) (φ : FA) : Prop := GdX K Γ W (RA K Γ) t φ
abbrev Gt (K : PySem.W.Frag) (Γ : Gam) (W : WX) (t : TT) (φ : FT) : Prop := GdX K Γ W RB t φ
structure DE (X : Cx) (K : PySem.W.Frag) (Γ : Gam) (W : WX) (e : Expr) (t : TE) (φ : FE) : Prop where
  pe : PE X e t
  gd : Gd K Γ W t φ
structure DA (X : Cx) (K : PySem.W.Frag) (Γ : Gam) (W : WX) (es : List Expr) (t : TA) (φ : FA) : Prop where
  pa : PA X es t
  gd : Ga K Γ W t φ
structure DT (X : Cx) (K : PySem.W.Frag) (Γ : Gam) (W : WX) (e : Expr) (t : TT) (φ : FT) : Prop where
  pt : PT X e t
  gd : Gt K Γ W t φ
structure DW (X : Cx) (K : PySem.W.Frag) (Γ : Gam) (W : WX) (e : Expr) (t : TT) (φ : FT) : Prop where
  pw : PW X e t
  gd : Gt K Γ W t φ
def bindX {α β : Type} (φ : DSt → Sto → Out α) (k : DSt → α → Sto → Out β) : DSt → Sto → Out β := fun ds s => (φ ds s).bind (k ds)
section
variable {X : Cx} {K : PySem.W.Frag} {Γ : Gam} {W : WX} {σ : L2.St} {H G F : Hp} {ι : List Addr} {s : Sto} {ds : DSt}
/-- one reading, then what follows -/
theorem GdX.step {α β α' β' : Type} {R : Hp → List Addr → α → β → Prop} {R' : Hp → List Addr → α' → β' → Prop} {t : L2.St → Hp → (α → Hp → Prop) → Prop} {φ : DSt → Sto → Out β} {Q : α → Hp → Prop} {Q' : α' → Hp → Prop} {k : β → Sto → Out β'}
    (g : GdX K Γ W R t φ) (hs : RS K Γ F ι σ ds) (hr : Rel K Γ G F H ι s) (hp : Post K Γ W σ G F ι R' Q' ((φ ds s).bind k))
    (hk : ∀ d s1 v H1 F1 ι1, Ext F ι F1 ι1 → Rel K Γ G F1 H1 ι1 s1 → R F1 ι1 v d → RS K Γ F1 ι1 σ ds → Post K Γ W σ G F1 ι1 R' Q' (k d s1) → Q v H1) : t σ H Q := by
  refine g σ H Q G F ι s ds hs hr ?_
  cases e : φ ds s with
  | ok d s1 =>
    rw [e] at hp
    exact fun v H1 F1 ι1 x r q => hk d s1 v H1 F1 ι1 x r q (hs.ext x) (hp.ext x)
  | err c p s1 => rw [e] at hp; exact hp
  | bad => rw [e] at hp; exact hp
end

/-! ### names and constants -/
def varD (i : Nat) : FE := fun ds s => match ds[i]? with
  | some (some d) => .ok d s
  | _ => .bad
def cD (d : D) : FE := fun _ s => .ok d s
section
variable {X : Cx} {K : PySem.W.Frag} {Γ : Gam} {W : WX} {pos : Pos}
theorem gd_var {i : Nat} : Gd K Γ W (tVar i) (varD i) := by
  intro σ H Q G F ι s ds hs hr hp
  unfold varD at hp
  split at hp
  · rename_i d e
    obtain ⟨v, e1, r⟩ := hs.2 i d e
    exact ⟨v, e1, hp v H F ι Ext.refl hr r⟩
  · exact hp.elim
theorem gd_c {v : V} {d : D} (h : ∀ F ι, Rp K Γ F ι v d) : Gd K Γ W (tC v) (cD d) := fun σ H Q G F ι s ds hs hr hp => hp v H F ι Ext.refl hr (h F ι)
theorem de_int {i : Int} {j} : DE X K Γ W (.Constant (.int i) j pos) (tC (.int i)) (cD (.int i)) := ⟨pe_int, gd_c fun _ _ => .int _⟩
theorem de_bl {b : Bool} {j} : DE X K Γ W (.Constant (.bool b) j pos) (tC (.bl b)) (cD (.bl b)) := ⟨pe_bl, gd_c fun _ _ => .bl _⟩
theorem de_non {j} : DE X K Γ W (.Constant .none j pos) (tC .non) (cD .non) := ⟨pe_non, gd_c fun _ _ => .non⟩
theorem de_str {x : Str} {j} : DE X K Γ W (.Constant (.str x) j pos) (tC (.str x)) (cD (.str x)) := ⟨pe_str, gd_c fun _ _ => .str _⟩
end

/-! ### argument lists, displays -/
def nilD : FA := fun _ s => .ok [] s
def consD (φ : FE) (ψ : FA) : FA := bindX φ fun ds x s => (ψ ds s).bind fun xs s => .ok (x :: xs) s
def tupD (φ : FA) : FE := bindX φ fun _ xs s => if (decide (xs.length ≤ sizeLine) && ncA xs) = true then .ok (.tup xs) s else .bad
def lstD (φ : FA) : FE := bindX φ fun _ xs s => if (decide (xs.length ≤ sizeLine) && ncA xs) = true then .ok (.lst xs) s else .bad
/-- a display that is a cell -/
def lstC (φ : FA) : FE := bindX φ fun _ xs s => if (decide (xs.length ≤ sizeLine) && ncA xs) = true then .ok (.cell s.length) (s ++ [.lst xs]) else .bad
section
variable {X : Cx} {K : PySem.W.Frag} {Γ : Gam} {W : WX} {pos : Pos} {e : Expr} {es : List Expr} {te : TE} {ta : TA} {φ : FE} {ψ : FA}
theorem da_nil : DA X K Γ W [] tNil nilD := ⟨pa_nil, fun σ H Q G F ι s ds hs hr hp => hp [] H F ι Ext.refl hr .nil⟩
theorem ga_cons (h1 : Gd K Γ W te φ) (h2 : Ga K Γ W ta ψ) : Ga K Γ W (tCons te ta) (consD φ ψ) := by
  intro σ H Q G F ι s ds hs hr hp
  refine h1.step hs hr hp fun d s1 v H1 F1 ι1 x1 r1 q1 hs1 hp1 => ?_
  refine h2.step hs1 r1 hp1 fun es s2 vs H2 F2 ι2 x2 r2 q2 hs2 hp2 => ?_
  exact hp2 (v :: vs) H2 F2 ι2 Ext.refl r2 (.cons (q1.ext x2) q2)
theorem da_cons (h1 : DE X K Γ W e te φ) (h2 : DA X K Γ W es ta ψ) (hs : starEach (e :: es) X.env = (false, eval e X.env) :: starEach es X.env := by rfl) : DA X K Γ W (e :: es) (tCons te ta) (consD φ ψ) :=
  ⟨pa_cons h1.pe h2.pa hs, ga_cons h1.gd h2.gd⟩
theorem de_tup {x1} (h : DA X K Γ W es ta ψ) : DE X K Γ W (.Tuple es x1 pos) (tTup ta) (tupD ψ) := by
  refine ⟨pe_tup h.pa, fun σ H Q G F ι s ds hs hr hp => h.gd.step hs hr hp fun xs s1 vs H1 F1 ι1 x1 r1 q1 hs1 hp1 => ?_⟩
  dsimp only at hp1
  split at hp1
  · rename_i hz
    rw [Bool.and_eq_true, decide_eq_true_eq] at hz
    refine ⟨by rw [q1.length]; exact hz.1, fun p np => ?_⟩
    obtain ⟨r2, x2⟩ := r1.new (o := .tup vs) np
    exact hp1 _ _ _ _ x2 r2 (.tup (TupF.of upd_same) ((q1.fz hz.2).ext x2.nil))
  · exact hp1.elim
theorem de_lst (h : DA X K Γ W es ta ψ) : DE X K Γ W (.List es pos) (tLst ta) (lstD ψ) := by
  refine ⟨pe_lst h.pa, fun σ H Q G F ι s ds hs hr hp => h.gd.step hs hr hp fun xs s1 vs H1 F1 ι1 x1 r1 q1 hs1 hp1 => ?_⟩
  dsimp only at hp1
  split at hp1
  · rename_i hz
    rw [Bool.and_eq_true, decide_eq_true_eq] at hz
    refine ⟨by rw [q1.length]; exact hz.1, fun p np => ?_⟩
    obtain ⟨r2, x2⟩ := r1.new (o := .lst vs) np
    exact hp1 _ _ _ _ x2 r2 (.lst upd_same ((q1.fz hz.2).ext x2.nil))
  · exact hp1.elim
theorem de_lstC (h : DA X K Γ W es ta ψ) : DE X K Γ W (.List es pos) (tLst ta) (lstC ψ) := by
  refine ⟨pe_lst h.pa, fun σ H Q G F ι s ds hs hr hp => h.gd.step hs hr hp fun xs s1 vs H1 F1 ι1 x1 r1 q1 hs1 hp1 => ?_⟩
  dsimp only at hp1
  split at hp1
  · rename_i hz
    rw [Bool.and_eq_true, decide_eq_true_eq] at hz
    refine ⟨by rw [q1.length]; exact hz.1, fun p np => ?_⟩
    have x2 : Ext F1 ι1 F1 (ι1 ++ [p]) := ⟨fun _ _ e => e, fun n a e => by rw [List.getElem?_append_left (List.getElem?_eq_some_iff.mp e).1]; exact e⟩
    obtain ⟨r2, x2⟩ := r1.push (o := .lst vs) (c := .lst xs) np ⟨same_newF r1.sub np, vs, upd_same, q1.fz hz.2⟩
    refine hp1 _ _ _ _ x2 r2 (.cell ?_)
    rw [List.getElem?_append_right (by rw [r1.len]; exact Nat.le_refl _), r1.len, Nat.sub_self]
    rfl
  · exact hp1.elim
end

/-! ### operators -/
/-- what an operator does to data -/
def OpG (K : PySem.W.Frag) (Γ : Gam) (r : R2) (f : D → D → Sto → Out D) : Prop :=
  ∀ (W : WX) (σ : L2.St) (H : Hp) (Q : VK) (G F : Hp) (ι : List Addr) (s : Sto) (x y : D) (v u : V), Rel K Γ G F H ι s → Rp K Γ F ι v x → Rp K Γ F ι u y → Post K Γ W σ G F ι (RV K Γ) Q (f x y s) → r v u H Q
def op2 (f : D → D → Sto → Out D) (φ ψ : FE) : FE := bindX φ fun ds x s => (ψ ds s).bind fun y s => f x y s
theorem OpR.or {X : Cx} {f : Value → Value → Sem Value} {r r' : R2} (h : OpR X f r) (h' : OpR X f r') : OpR X f (fun x y H Q => r x y H Q ∨ r' x y H Q) := by
  intro pins s σ H x y v u Q I rx ry q
  rcases q with q | q
  · exact h pins s σ H x y v u Q I rx ry q
  · exact h' pins s σ H x y v u Q I rx ry q
section
variable {X : Cx} {K : PySem.W.Frag} {Γ : Gam} {W : WX} {pos : Pos} {a b c : Expr} {ta tb tc : TE} {φ ψ χ : FE} {r r' : R2} {f f' : D → D → Sto → Out D}
theorem gd_op (g : OpG K Γ r f) (ha : Gd K Γ W ta φ) (hb : Gd K Γ W tb ψ) : Gd K Γ W (tOp r ta tb) (op2 f φ ψ) := by
  intro σ H Q G F ι s ds hs hr hp
  refine ha.step hs hr hp fun x s1 v H1 F1 ι1 x1 r1 q1 hs1 hp1 => ?_
  refine hb.step hs1 r1 hp1 fun y s2 u H2 F2 ι2 x2 r2 q2 hs2 hp2 => ?_
  exact g W σ H2 Q G F2 ι2 s2 x y v u r2 (q1.ext x2) q2 hp2
theorem de_op {op : Operator} (ho : OpR X (binaryOp op) r) (g : OpG K Γ r f) (ha : DE X K Γ W a ta φ) (hb : DE X K Γ W b tb ψ) : DE X K Γ W (.BinOp a op b pos) (tOp r ta tb) (op2 f φ ψ) := ⟨pe_op ho ha.pe hb.pe, gd_op g ha.gd hb.gd⟩
theorem de_cmp {op : CmpOp} (ho : OpR X (compareOp op) r) (g : OpG K Γ r f) (ha : DE X K Γ W a ta φ) (hb : DE X K Γ W b tb ψ) (hm : behindInMarks op b = false) : DE X K Γ W (.Compare a [op] [b] pos) (tOp r ta tb) (op2 f φ ψ) := ⟨pe_cmpR ho ha.pe hb.pe hm, gd_op g ha.gd hb.gd⟩
/-- a value that is a bool, as a test -/
def testD (φ : FE) : FT := bindX φ fun _ x s => match x with
  | .bl b => .ok b s
  | _ => .bad
theorem gt_test (h : Gd K Γ W ta φ) : Gt K Γ W (tTest ta) (testD φ) := by
  intro σ H Q G F ι s ds hs hr hp
  refine h.step hs hr hp fun x s1 v H1 F1 ι1 x1 r1 q1 hs1 hp1 => ?_
  cases x <;> first | exact hp1.elim | skip
  cases q1
  exact ⟨_, rfl, hp1 _ _ _ _ Ext.refl r1 rfl⟩
theorem dt_cmp {op : CmpOp} (ho : OpR X (compareOp op) r) (g : OpG K Γ r f) (ha : DE X K Γ W a ta φ) (hb : DE X K Γ W b tb ψ) (hm : behindInMarks op b = false) : DT X K Γ W (.Compare a [op] [b] pos) (tTest (tOp r ta tb)) (testD (op2 f φ ψ)) := ⟨pt_cmpR ho ha.pe hb.pe hm, gt_test (gd_op g ha.gd hb.gd)⟩
theorem dt_val (h : DE X K Γ W a ta φ) (he : ∀ whole, isTrue a X.env whole = (do let v ← whole; standAt a.pos; holding [v] (truthy v)) := by intro _; rfl) : DT X K Γ W a (tB ta) (testD φ) := ⟨pt_val h.pe he, gt_test h.gd⟩
/-- a < b < c -/
def chainD (f f' : D → D → Sto → Out D) (φ ψ χ : FE) : FE := bindX φ fun ds x s => (ψ ds s).bind fun y s => (f x y s).bind fun z s => match z with
  | .bl true => (χ ds s).bind fun w s => f' y w s
  | .bl false => .ok (.bl false) s
  | _ => .bad
end
/-! ### and, or, not, x if c else y -/
def notD (x : D) (s : Sto) : Out D := match x with
  | .bl b => .ok (.bl (!b)) s
  | _ => .bad
def andD (φ ψ : FE) : FE := bindX φ fun ds x s => match x with
  | .bl true => ψ ds s
  | .bl false => .ok (.bl false) s
  | _ => .bad
def orD (φ ψ : FE) : FE := bindX φ fun ds x s => match x with
  | .bl false => ψ ds s
  | .bl true => .ok (.bl true) s
  | _ => .bad
def andT (φ ψ : FT) : FT := bindX φ fun ds x s => match x with
  | true => ψ ds s
  | false => .ok false s
def orT (φ ψ : FT) : FT := bindX φ fun ds x s => match x with
  | false => ψ ds s
  | true => .ok true s
def notT (φ : FT) : FT := bindX φ fun _ x s => .ok (!x) s
def ifD (c : FT) (φ ψ : FE) : FE := bindX c fun ds x s => match x with
  | true => φ ds s
  | false => ψ ds s
section
variable {X : Cx} {K : PySem.W.Frag} {Γ : Gam} {W : WX} {pos : Pos} {a b : Expr} {rest : List Expr} {ta tb : TE} {φ ψ : FE} {tt tu : TT} {μ ν : FT}
def negD (x : D) (s : Sto) : Out D := match x with
  | .int i => .ok (.int (-i)) s
  | _ => .bad
theorem dt_not (h : DT X K Γ W a tt μ) : DT X K Γ W (.UnaryOp .Not a pos) (tNot tt) (notT μ) := by
  refine ⟨pt_not h.pt, fun σ H Q G F ι s ds hs hr hp => h.gd.step hs hr hp fun x s1 v H1 F1 ι1 x1 r1 q1 hs1 hp1 => ?_⟩
  cases (show v = x from q1)
  exact hp1 _ _ _ _ Ext.refl r1 rfl
theorem de_if {c : Expr} (hc : DT X K Γ W c tt μ) (h1 : DE X K Γ W a ta φ) (h2 : DE X K Γ W b tb ψ) : DE X K Γ W (.IfExp c a b pos) (tIf tt ta tb) (ifD μ φ ψ) := by
  refine ⟨pe_ifExp hc.pt h1.pe h2.pe, fun σ H Q G F ι s ds hs hr hp => hc.gd.step hs hr hp fun x s1 v H1 F1 ι1 x1 r1 q1 hs1 hp1 => ?_⟩
  cases (show v = x from q1)
  cases x with
  | true => exact iteT (h1.gd σ H1 Q G F1 ι1 s1 ds hs1 r1 hp1)
  | false => exact iteF (h2.gd σ H1 Q G F1 ι1 s1 ds hs1 r1 hp1)
end
end Md

set_option Elab.async false
set_option maxRecDepth 100000
set_option maxHeartbeats 4000000
set_option linter.all false
/-! the mirror layer: operators over data -/
namespace Md
open PySem PySem.Spec PyProof.Rows L2
/-- the items of a list, frozen or a cell -/
def viewL : D → Sto → Option (List D)
  | .lst xs, _ => some xs
  | .cell n, s => match s[n]? with
    | some (.lst xs) => some xs
    | _ => none
  | _, _ => none
section
variable {K : PySem.W.Frag} {Γ : Gam} {W : WX} {σ : L2.St} {H G F : Hp} {ι : List Addr} {s : Sto} {x y : D} {v u : V} {xs : List D}
theorem Rel.view (r : Rel K Γ G F H ι s) (h : Rp K Γ F ι v x) (e : viewL x s = some xs) : ∃ a vs, v = .ref a ∧ H a = some (.lst vs) ∧ RpA K Γ F [] vs xs := by
  cases x <;> first | (cases e; done) | skip
  · cases e
    cases h with
    | lst h g => exact ⟨_, _, rfl, r.sub _ _ h, g⟩
  · rename_i n
    cases h with
    | cell h =>
      have e' : (match s[n]? with | some (.lst xs) => some xs | _ => none) = some xs := e
      split at e'
      · rename_i q
        cases e'
        obtain ⟨_, vs, e1, g⟩ := r.at_ n _ _ q h
        exact ⟨_, vs, rfl, e1, g⟩
      · cases e'
end
/-! ### + -/
def addD (x y : D) (s : Sto) : Out D := match x, y with
  | .int a, .int b => .ok (.int (a + b)) s
  | .str a, .str b => if a.length + b.length ≤ sizeLine then .ok (.str (a ++ b)) s else .bad
  | .tup a, .tup b => if a.length + b.length ≤ sizeLine then .ok (.tup (a ++ b)) s else .bad
  | x, y => match viewL x s, viewL y s with
    | some a, some b => if a.length + b.length ≤ sizeLine then .ok (.lst (a ++ b)) s else .bad
    | _, _ => .bad
def subD (x y : D) (s : Sto) : Out D := match x, y with
  | .int a, .int b => .ok (.int (a - b)) s
  | _, _ => .bad
/-- a size that products may have -/
def smB (x : Int) : Bool := decide (x.natAbs.log2 < 100000)
/-- a factor that asks nothing of the other -/
def sm64 (x : Int) : Bool := decide (-(2 ^ 64) < x) && decide (x < 2 ^ 64)
def mulB (a b : Int) : Bool := sm64 a || (sm64 b || (smB a && smB b))
def mulD (x y : D) (s : Sto) : Out D := match x, y with
  | .int a, .int b => if mulB a b = true then .ok (.int (a * b)) s else .bad
  | x, .int k => match viewL x s with
    | some a => if (decide (-1000 ≤ k) && decide (k ≤ 1000) && decide (a.length ≤ 1000)) = true then .ok (.lst (List.replicate k.toNat a).flatten) s else .bad
    | none => .bad
  | _, _ => .bad
def divD (x y : D) (s : Sto) : Out D := match x, y with
  | .int a, .int b => if (decide (0 < b) && decide (b < Gl.B9)) = true then .ok (.int (a / b)) s else .bad
  | _, _ => .bad
def modD (x y : D) (s : Sto) : Out D := match x, y with
  | .int a, .int b => if 0 < b then .ok (.int (a % b)) s else .bad
  | _, _ => .bad
def powD (x y : D) (s : Sto) : Out D := match x, y with
  | .int a, .int b => if (decide (0 ≤ b) && decide ((Builtin.Int.intBits a : Int) * b ≤ 2 ^ 27)) = true then .ok (.int (a ^ b.toNat)) s else .bad
  | _, _ => .bad
def cmpD (f : Int → Int → Bool) (g : Str → Str → Bool) (x y : D) (s : Sto) : Out D := match x, y with
  | .int a, .int b => .ok (.bl (f a b)) s
  | .str a, .str b => .ok (.bl (g a b)) s
  | _, _ => .bad
def ltD : D → D → Sto → Out D := cmpD (fun a b => decide (a < b)) fun a b => decide (a.cps.toList < b.cps.toList)
def leD : D → D → Sto → Out D := cmpD (fun a b => decide (a ≤ b)) fun a b => !decide (b.cps.toList < a.cps.toList)
def gtD : D → D → Sto → Out D := cmpD (fun a b => decide (b < a)) fun a b => decide (b.cps.toList < a.cps.toList)
def geD : D → D → Sto → Out D := cmpD (fun a b => decide (b ≤ a)) fun a b => !decide (a.cps.toList < b.cps.toList)
section
variable {X : Cx} {K : PySem.W.Frag} {Γ : Gam}
def rStr2 (C : Str → Str → Prop) (g : Str → Str → V) : R2 := fun x y H Q => ∃ i j, x = .str i ∧ y = .str j ∧ C i j ∧ Q (g i j) H
def rAddA (K : PySem.W.Frag) : R2 := fun x y H Q => (rI0 (fun i j => .int (i + j)) x y H Q) ∨ (rStr2 (fun i j => i.length + j.length ≤ sizeLine) (fun i j => .str (i ++ j)) x y H Q) ∨ (rCatA K x y H Q) ∨ (rCat x y H Q)
theorem op_addA (hK : X.K = K := by rfl) : OpR X (binaryOp .Add) (rAddA K) := by
  subst hK
  exact op_add.or (op_add_str.or (op_catA.or op_cat))
theorem og_add : OpG K Γ (rAddA K) addD := by
  intro W σ H Q G F ι s x y v u r h1 h2 hp
  unfold addD at hp
  split at hp
  · cases h1; cases h2
    exact Or.inl ⟨_, _, rfl, rfl, hp _ _ _ _ Ext.refl r (.int _)⟩
  · cases h1; cases h2
    split at hp
    · rename_i hz
      exact Or.inr (Or.inl ⟨_, _, rfl, rfl, hz, hp _ _ _ _ Ext.refl r (.str _)⟩)
    · exact hp.elim
  · split at hp
    · rename_i a b hz
      cases h1 with
      | tup t1 g1 =>
        cases h2 with
        | tup t2 g2 =>
          refine Or.inr (Or.inr (Or.inl ⟨_, _, _, _, rfl, rfl, Gl.sqTS r.sub t1.sq, Gl.sqTS r.sub t2.sq, by rw [g1.length, g2.length]; exact hz, fun e => ?_, fun _ e => ?_, fun _ _ p np => ?_⟩))
          · subst e; cases g1
            exact hp _ _ _ _ Ext.refl r (.tup t2 g2)
          · subst e; cases g2
            rw [List.append_nil] at hp
            exact hp _ _ _ _ Ext.refl r (.tup t1 g1)
          · obtain ⟨r2, x2⟩ := r.new (o := .tup _) np
            exact hp _ _ _ _ x2 r2 (.tup (TupF.of upd_same) ((g1.append g2).ext x2.nil))
    · exact hp.elim
  · split at hp
    · rename_i e1 e2
      obtain ⟨a1, vs1, rfl, m1, g1⟩ := r.view h1 e1
      obtain ⟨a2, vs2, rfl, m2, g2⟩ := r.view h2 e2
      split at hp
      · rename_i hz
        refine Or.inr (Or.inr (Or.inr ⟨_, _, _, _, rfl, rfl, m1, m2, by rw [g1.length, g2.length]; exact hz, fun p np => ?_⟩))
        obtain ⟨r2, x2⟩ := r.new (o := .lst _) np
        exact hp _ _ _ _ x2 r2 (.lst upd_same ((g1.append g2).ext x2.nil))
      · exact hp.elim
    · exact hp.elim
theorem og_sub : OpG K Γ (rI0 fun i j => .int (i - j)) subD := by
  intro W σ H Q G F ι s x y v u r h1 h2 hp
  unfold subD at hp
  split at hp
  · cases h1; cases h2
    exact ⟨_, _, rfl, rfl, hp _ _ _ _ Ext.refl r (.int _)⟩
  · exact hp.elim
theorem flat_rep {F : Hp} {ι : List Addr} {vs : List V} {ds : List D} (h : RpA K Γ F ι vs ds) : ∀ n, RpA K Γ F ι (List.replicate n vs).flatten (List.replicate n ds).flatten
  | 0 => .nil
  | n + 1 => by
    rw [List.replicate_succ, List.flatten_cons, List.replicate_succ, List.flatten_cons]
    exact h.append (flat_rep h n)
def rMulA : R2 := fun x y H Q => (rI Gl.CMulA (fun i j => .int (i * j)) x y H Q) ∨ rRep x y H Q
theorem op_mulAA : OpR X (binaryOp .Mult) rMulA := Gl.op_mulA.or op_rep
theorem og_mul : OpG K Γ rMulA mulD := by
  intro W σ H Q G F ι s x y v u r h1 h2 hp
  unfold mulD at hp
  split at hp
  · cases h1; cases h2
    split at hp
    · rename_i hc
      refine Or.inl ⟨_, _, rfl, rfl, ?_, hp _ _ _ _ Ext.refl r (.int _)⟩
      unfold mulB sm64 smB at hc
      simp only [Bool.or_eq_true, Bool.and_eq_true, decide_eq_true_eq] at hc
      rcases hc with c | c | c
      · exact Gl.cmulL c.1 c.2
      · exact Gl.cmulR c.1 c.2
      · exact Gl.cmulS c.1 c.2
    · exact hp.elim
  · rename_i k hk
    cases h2
    split at hp
    · rename_i a e1
      obtain ⟨a1, vs1, rfl, m1, g1⟩ := r.view h1 e1
      split at hp
      · rename_i hc
        simp only [Bool.and_eq_true, decide_eq_true_eq] at hc
        obtain ⟨⟨c1, c2⟩, c3⟩ := hc
        have hz : vs1.length * k.toNat ≤ 1000 * 1000 := Nat.mul_le_mul (by rw [g1.length]; exact c3) (by omega)
        refine Or.inr ⟨_, _, _, rfl, rfl, m1, by omega, by omega, Nat.le_trans hz (by decide), fun p np => ?_⟩
        obtain ⟨r2, x2⟩ := r.new (o := .lst _) np
        exact hp _ _ _ _ x2 r2 (.lst upd_same ((flat_rep g1 _).ext x2.nil))
      · exact hp.elim
    · exact hp.elim
  · exact hp.elim
theorem og_div : OpG K Γ (rI Gl.CDivA fun i j => .int (i / j)) divD := by
  intro W σ H Q G F ι s x y v u r h1 h2 hp
  unfold divD at hp
  split at hp
  · cases h1; cases h2
    split at hp
    · rename_i hc
      simp only [Bool.and_eq_true, decide_eq_true_eq] at hc
      exact ⟨_, _, rfl, rfl, hc, hp _ _ _ _ Ext.refl r (.int _)⟩
    · exact hp.elim
  · exact hp.elim
theorem og_mod : OpG K Γ (rI (fun _ j => 0 < j) fun i j => .int (i % j)) modD := by
  intro W σ H Q G F ι s x y v u r h1 h2 hp
  unfold modD at hp
  split at hp
  · cases h1; cases h2
    split at hp
    · rename_i hc
      exact ⟨_, _, rfl, rfl, hc, hp _ _ _ _ Ext.refl r (.int _)⟩
    · exact hp.elim
  · exact hp.elim
theorem og_pow : OpG K Γ (rI Gl.CPowA fun i j => .int (i ^ j.toNat)) powD := by
  intro W σ H Q G F ι s x y v u r h1 h2 hp
  unfold powD at hp
  split at hp
  · cases h1; cases h2
    split at hp
    · rename_i hc
      simp only [Bool.and_eq_true, decide_eq_true_eq] at hc
      exact ⟨_, _, rfl, rfl, hc, hp _ _ _ _ Ext.refl r (.int _)⟩
    · exact hp.elim
  · exact hp.elim
def rCmp (f : Int → Int → Bool) (g : Str → Str → Bool) : R2 := fun x y H Q => (rI0 (fun i j => .bl (f i j)) x y H Q) ∨ ∃ i j, x = .str i ∧ y = .str j ∧ Q (.bl (g i j)) H
theorem og_cmp {f : Int → Int → Bool} {g : Str → Str → Bool} : OpG K Γ (rCmp f g) (cmpD f g) := by
  intro W σ H Q G F ι s x y v u r h1 h2 hp
  unfold cmpD at hp
  split at hp
  · cases h1; cases h2
    exact Or.inl ⟨_, _, rfl, rfl, hp _ _ _ _ Ext.refl r (.bl _)⟩
  · cases h1; cases h2
    exact Or.inr ⟨_, _, rfl, rfl, hp _ _ _ _ Ext.refl r (.bl _)⟩
  · exact hp.elim
theorem op_ltA : OpR X (compareOp .Lt) (rCmp (fun a b => decide (a < b)) fun a b => decide (a.cps.toList < b.cps.toList)) := op_lt.or op_lt_str
theorem op_gtA : OpR X (compareOp .Gt) (rCmp (fun a b => decide (b < a)) fun a b => decide (b.cps.toList < a.cps.toList)) := op_gt.or op_gt_str
/-! is None -/
def isND (x y : D) (s : Sto) : Out D := match x, y with
  | .raw _, _ => .bad
  | .non, .non => .ok (.bl true) s
  | _, .non => .ok (.bl false) s
  | _, _ => .bad
def isNotND (x y : D) (s : Sto) : Out D := match x, y with
  | .raw _, _ => .bad
  | .non, .non => .ok (.bl false) s
  | _, .non => .ok (.bl true) s
  | _, _ => .bad
end
end Md

set_option Elab.async false
set_option maxRecDepth 100000
set_option maxHeartbeats 4000000
set_option linter.all false
/-! the mirror layer: data that is compared, looked into, cut, shown -/
namespace Md
open PySem PySem.Spec PyProof.Rows L2
/-! ### plain data of the library -/
mutual
def D.py : D → Option PyData
  | .non => some .none
  | .bl b => some (.bool b)
  | .int i => some (.int i)
  | .str x => some (.str x)
  | .lst xs => match pyA xs with
    | some ys => some (.list ys)
    | none => none
  | .tup xs => match pyA xs with
    | some ys => some (.tuple ys)
    | none => none
  | _ => none
def pyA : List D → Option (List PyData)
  | [] => some []
  | x :: xs => match x.py, pyA xs with
    | some y, some ys => some (y :: ys)
    | _, _ => none
end
/-- a cell's list as it stands -/
def vw (x : D) (s : Sto) : D := match x with
  | .cell n => match s[n]? with
    | some (.lst xs) => .lst xs
    | some (.dic kvs) => .dic kvs
    | _ => .cell n
  | x => x
section
variable {K : PySem.W.Frag} {Γ : Gam} {F H G : Hp} {ι : List Addr} {s : Sto}
mutual
theorem Rp.dp (sm : Same F H) : ∀ {ι : List Addr} {d : D} {v : V} {q : PyData}, Rp K Γ F ι v d → d.py = some q → Dp K H v q
  | _, .non, _, _, .non, e => by cases e; exact .non
  | _, .bl _, _, _, .bl b, e => by cases e; exact .bl b
  | _, .int _, _, _, .int i, e => by cases e; exact .int i
  | _, .str _, _, _, .str z, e => by cases e; exact .str z
  | _, .lst ds, _, q, .lst h g, e => by
    unfold D.py at e
    split at e
    · rename_i ys e1
      cases e
      exact .lst (SqL.of (sm _ _ h)) (RpA.dp sm g e1)
    · cases e
  | _, .tup ds, _, q, .tup h g, e => by
    unfold D.py at e
    split at e
    · rename_i ys e1
      cases e
      exact .tup (Gl.sqTS sm h.sq) (RpA.dp sm g e1)
    · cases e
theorem RpA.dp (sm : Same F H) : ∀ {ι : List Addr} {ds : List D} {vs : List V} {qs : List PyData}, RpA K Γ F ι vs ds → pyA ds = some qs → DpAll K H vs qs
  | _, [], _, _, .nil, e => by cases e; exact .nil
  | _, d :: ds, _, qs, .cons h g, e => by
    unfold pyA at e
    split at e
    · rename_i y ys e1 e2
      cases e
      exact .cons (Rp.dp sm h e1) (RpA.dp sm g e2)
    · cases e
end
theorem Rel.viewP (r : Rel K Γ G F H ι s) {x : D} {v : V} {q : PyData} (h : Rp K Γ F ι v x) (e : (vw x s).py = some q) : Dp K H v q := by
  cases x <;> first | exact h.dp r.sub e | skip
  rename_i n
  cases h with
  | cell h =>
    have e' : (match s[n]? with | some (.lst xs) => D.lst xs | some (.dic kvs) => .dic kvs | _ => .cell n).py = some q := e
    split at e'
    · rename_i xs en
      obtain ⟨_, vs, e1, g⟩ := r.at_ n _ _ en h
      unfold D.py at e'
      split at e'
      · rename_i ys e2
        cases e'
        exact .lst (SqL.of e1) (g.dp r.sub e2)
      · cases e'
    · cases e'
    · cases e'
end
/-! ### == and != -/
def eqP (x y : D) (s : Sto) (k : Bool → Bool) : Out D := match (vw x s).py, (vw y s).py with
  | some p, some q => if (SeqAt.shaped p && SeqAt.shaped q) = true then .ok (.bl (k (PyData.eqv p q))) s else .bad
  | _, _ => .bad
def eqD (x y : D) (s : Sto) : Out D := match x, y with
  | .int a, .int b => .ok (.bl (decide (a = b))) s
  | .str a, .str b => .ok (.bl (decide (a = b))) s
  | .bl a, .bl b => .ok (.bl (decide (a = b))) s
  | x, y => eqP x y s id
def neD (x y : D) (s : Sto) : Out D := match x, y with
  | .int a, .int b => .ok (.bl (!decide (a = b))) s
  | .str a, .str b => .ok (.bl (!decide (a = b))) s
  | .bl a, .bl b => .ok (.bl (!decide (a = b))) s
  | x, y => eqP x y s not
section
variable {X : Cx} {K : PySem.W.Frag} {Γ : Gam}
def rEqA (K : PySem.W.Frag) : R2 := fun x y H Q => rEq x y H Q ∨ rEqD K x y H Q
def rNeA (K : PySem.W.Frag) : R2 := fun x y H Q => rNe x y H Q ∨ rNeD K x y H Q
theorem op_eqA {k : Nat} (hr : Room k X.A) (hK : X.K = K := by rfl) : OpR X (compareOp .Eq) (rEqA K) := by
  subst hK
  exact op_eq.or (op_eqD hr.units)
theorem op_neA {k : Nat} (hr : Room k X.A) (hK : X.K = K := by rfl) : OpR X (compareOp .NotEq) (rNeA K) := by
  subst hK
  exact op_ne.or (op_neD hr.units)
theorem dec_int (a b : Int) : decide (V.int a = V.int b) = decide (a = b) := by
  by_cases h : a = b
  · subst h; simp
  · rw [decide_eq_false h, decide_eq_false (fun e => h (V.int.inj e))]
theorem dec_str (a b : Str) : decide (V.str a = V.str b) = decide (a = b) := by
  by_cases h : a = b
  · subst h; simp
  · rw [decide_eq_false h, decide_eq_false (fun e => h (V.str.inj e))]
theorem dec_bl (a b : Bool) : decide (V.bl a = V.bl b) = decide (a = b) := by cases a <;> cases b <;> rfl
theorem og_eq : OpG K Γ (rEqA K) eqD := by
  intro W σ H Q G F ι s x y v u r h1 h2 hp
  unfold eqD at hp
  split at hp
  · cases h1; cases h2
    exact Or.inl ⟨rfl, by rw [dec_int]; exact hp _ _ _ _ Ext.refl r (.bl _)⟩
  · cases h1; cases h2
    exact Or.inl ⟨rfl, by rw [dec_str]; exact hp _ _ _ _ Ext.refl r (.bl _)⟩
  · cases h1; cases h2
    exact Or.inl ⟨rfl, by rw [dec_bl]; exact hp _ _ _ _ Ext.refl r (.bl _)⟩
  · unfold eqP at hp
    split at hp
    · rename_i p q e1 e2
      split at hp
      · rename_i hc
        rw [Bool.and_eq_true] at hc
        exact Or.inr ⟨p, q, r.viewP h1 e1, r.viewP h2 e2, hc.1, hc.2, hp _ _ _ _ Ext.refl r (.bl _)⟩
      · exact hp.elim
    · exact hp.elim
theorem og_ne : OpG K Γ (rNeA K) neD := by
  intro W σ H Q G F ι s x y v u r h1 h2 hp
  unfold neD at hp
  split at hp
  · cases h1; cases h2
    exact Or.inl ⟨rfl, by rw [dec_int]; exact hp _ _ _ _ Ext.refl r (.bl _)⟩
  · cases h1; cases h2
    exact Or.inl ⟨rfl, by rw [dec_str]; exact hp _ _ _ _ Ext.refl r (.bl _)⟩
  · cases h1; cases h2
    exact Or.inl ⟨rfl, by rw [dec_bl]; exact hp _ _ _ _ Ext.refl r (.bl _)⟩
  · unfold eqP at hp
    split at hp
    · rename_i p q e1 e2
      split at hp
      · rename_i hc
        rw [Bool.and_eq_true] at hc
        exact Or.inr ⟨p, q, r.viewP h1 e1, r.viewP h2 e2, hc.1, hc.2, hp _ _ _ _ Ext.refl r (.bl _)⟩
      · exact hp.elim
    · exact hp.elim
end
/-! ### in, not in -/
def keyOf : D → Option Key
  | .int i => some (.inl i)
  | .str x => some (.inr x)
  | _ => none
def valD (kvs : List (Key × D)) (k : Key) : Option D := (kvs.find? fun kv => decide (kv.1 = k)).map (·.2)
section
variable {X : Cx} {K : PySem.W.Frag} {Γ : Gam} {H G F : Hp} {ι : List Addr} {s : Sto}
theorem RpK.val : ∀ {kvs : List (Key × V)} {ds : List (Key × D)}, RpK K Γ F ι kvs ds → ∀ (k : Key), (valV kvs k = none ∧ valD ds k = none) ∨ ∃ v d, valV kvs k = some v ∧ valD ds k = some d ∧ Rp K Γ F ι v d
  | _, _, .nil, k => Or.inl ⟨rfl, rfl⟩
  | _, _, .cons (k := k') (v := v) (d := d) h g, k => by
    by_cases e : k' = k
    · exact Or.inr ⟨v, d, valV_pos e, by simp [valD, List.find?_cons, e], h⟩
    · have e1 : ∀ r, valD ((k', d) :: r) k = valD r k := fun r => by simp only [valD, List.find?_cons, decide_eq_false e]
      rw [valV_neg (p := (k', v)) e, e1]
      exact RpK.val g k
theorem keyOf_rp {x : D} {v : V} {k : Key} (h : Rp K Γ F ι v x) (e : keyOf x = some k) : v = kV k := by
  cases x <;> first | (cases e; done) | skip
  · cases e; cases h; rfl
  · cases e; cases h; rfl
/-- a dict, frozen or a cell -/
theorem Rel.viewD (r : Rel K Γ G F H ι s) {x : D} {v : V} {kvs : List (Key × D)} (h : Rp K Γ F ι v x) (e : vw x s = .dic kvs) : ∃ a ks, v = .ref a ∧ Rd H a (.dK ks) ∧ RpK K Γ F ι ks kvs := by
  cases x <;> first | (cases e; done) | skip
  · cases e
    cases h with
    | dK h g => exact ⟨_, _, rfl, Or.inr ⟨_, r.sub _ _ h⟩, g.up⟩
  · rename_i n
    cases h with
    | cell h =>
      have e' : (match s[n]? with | some (.lst xs) => D.lst xs | some (.dic kvs) => .dic kvs | _ => .cell n) = .dic kvs := e
      split at e'
      · cases e'
      · rename_i q
        cases e'
        obtain ⟨_, ks, e1, g⟩ := r.at_ n _ _ q h
        exact ⟨_, ks, rfl, Or.inl e1, g⟩
      · cases e'
theorem view_str {x : D} {z : Str} (e : vw x s = .str z) : x = .str z := by
  cases x <;> first | exact e | skip
  rename_i n
  have e' : (match s[n]? with | some (.lst xs) => D.lst xs | some (.dic kvs) => .dic kvs | _ => .cell n) = .str z := e
  split at e' <;> cases e'
theorem view_tup {x : D} {z : List D} (e : vw x s = .tup z) : x = .tup z := by
  cases x <;> first | exact e | skip
  rename_i n
  have e' : (match s[n]? with | some (.lst xs) => D.lst xs | some (.dic kvs) => .dic kvs | _ => .cell n) = .tup z := e
  split at e' <;> cases e'
theorem view_lst {x : D} {z : List D} (e : vw x s = .lst z) : viewL x s = some z := by
  cases x <;> first | (cases e; done) | skip
  · cases e; rfl
  · rename_i n
    have e' : (match s[n]? with | some (.lst xs) => D.lst xs | some (.dic kvs) => .dic kvs | _ => .cell n) = .lst z := e
    show (match s[n]? with | some (.lst xs) => some xs | _ => none) = some z
    split at e'
    · rename_i q; cases e'; rw [q]
    · cases e'
    · cases e'
end
end Md

set_option Elab.async false
set_option maxRecDepth 100000
set_option maxHeartbeats 4000000
set_option linter.all false
/-! the mirror layer: subscripts, slices, built-in functions -/
namespace Md
open PySem PySem.Spec PyProof.Rows L2
/-! ### subscripts -/
def ixD (x y : D) (s : Sto) : Out D := match vw x s with
  | .dic kvs => match keyOf y with
    | some k => match valD kvs k with
      | some d => .ok d s
      | none => .bad
    | none => .bad
  | .lst xs => match y with
    | .int i => match atI xs i with
      | some d => .ok d s
      | none => .bad
    | _ => .bad
  | .tup xs => match y with
    | .int i => match atI xs i with
      | some d => .ok d s
      | none => .bad
    | _ => .bad
  | .scr xs => match y with
    | .int i => match atI xs i with
      | some d => .ok (.int d) s
      | none => .bad
    | _ => .bad
  | .str z => match y with
    | .int i => if z.length ≤ sizeLine then match atI z.cps.toList i with
      | some c => .ok (.str ⟨#[c]⟩) s
      | none => .bad
      else .bad
    | _ => .bad
  | _ => .bad
section
variable {X : Cx} {K : PySem.W.Frag} {Γ : Gam} {H G F : Hp} {ι : List Addr} {s : Sto} {W : WX} {pos : Pos} {a b : Expr} {ta tb : TE} {φ ψ : FE}
theorem atI_len {α β : Type} {xs : List α} {ys : List β} (h : xs.length = ys.length) {i : Int} {y : β} (e : atI ys i = some y) : ∃ j : Nat, ys[j]? = some y ∧ ∀ x, xs[j]? = some x → atI xs i = some x := by
  unfold atI at e ⊢
  rw [h]
  cases q : ixN ys.length i with
  | none => rw [q] at e; cases e
  | some j =>
    rw [q] at e
    exact ⟨j, e, fun x ex => ex⟩
theorem RpA.atI {vs : List V} {ds : List D} (h : RpA K Γ F ι vs ds) {i : Int} {d : D} (e : L2.atI ds i = some d) : ∃ v, L2.atI vs i = some v ∧ Rp K Γ F ι v d := by
  obtain ⟨j, e1, k⟩ := atI_len (xs := vs) h.length e
  obtain ⟨v, e2, r⟩ := h.get e1
  exact ⟨v, k v e2, r⟩
def rIxDic : R2 := fun x y H Q => ∃ a v, x = .ref a ∧ DGet H a y (some v) ∧ Q v H
theorem ix_dic {k : Nat} (hr : Room k X.A) : IxR X rIxDic := by
  intro value slice pins s σ H x y v u Q I rx ry h hs
  obtain ⟨a, z, rfl, g, q⟩ := h
  obtain rfl : v = Value.ref a := rx
  have hu := Gl.in_room hr
  exact tail_any (dict_typeIs I g) PySem.F.slot_dict_getitem.lookup (d_getItem (by omega) I g ry fun w' s3 I3 rw' => ⟨z, H, I3, rw', q⟩) hs
def rIxA (K : PySem.W.Frag) : R2 := fun x y H Q => rIxDic x y H Q ∨ rIx K x y H Q
theorem ix_A {k : Nat} (hr : Room k X.A) (hK : X.K = K := by rfl) : IxR X (rIxA K) := by
  subst hK
  exact (ix_dic hr).or ix_seq
theorem vw_scr {x : D} {z : List Int} (e : vw x s = .scr z) : x = .scr z := by
  cases x <;> first | exact e | skip
  rename_i n
  have e' : (match s[n]? with | some (.lst xs) => D.lst xs | some (.dic kvs) => .dic kvs | _ => .cell n) = .scr z := e
  split at e' <;> cases e'
theorem og_ix : OpG K Γ (rIxA K) ixD := by
  intro W σ H Q G F ι s x y v u r g1 g2 hp
  unfold ixD at hp
  split at hp
  · rename_i kvs e
    split at hp
    · rename_i k ek
      split at hp
      · rename_i d ed
        obtain ⟨a, ks, rfl, ha, gk⟩ := r.viewD g1 e
        have ev := keyOf_rp g2 ek
        subst ev
        rcases gk.val k with ⟨_, a2⟩ | ⟨w, d', a1, a2, rw'⟩
        · rw [a2] at ed; cases ed
        · rw [a2] at ed; cases ed
          refine Or.inl ⟨a, w, rfl, ?_, hp _ _ _ _ Ext.refl r rw'⟩
          exact Or.inl ⟨ks, k, ha, rfl, a1.symm⟩
      · exact hp.elim
    · exact hp.elim
  · rename_i xs e
    split at hp
    · split at hp
      · rename_i d ed
        obtain ⟨a, vs, rfl, ha, gk⟩ := r.view g1 (view_lst e)
        cases g2
        obtain ⟨w, ew, rw'⟩ := gk.atI ed
        exact Or.inr (Or.inl ⟨a, vs, _, w, rfl, rfl, SqL.of ha, ew, hp _ _ _ _ Ext.refl r rw'.up⟩)
      · exact hp.elim
    · exact hp.elim
  · rename_i xs e
    split at hp
    · split at hp
      · rename_i d ed
        have ex := view_tup e
        subst ex
        cases g1 with
        | tup t1 gk =>
          cases g2
          obtain ⟨w, ew, rw'⟩ := gk.atI ed
          exact Or.inr (Or.inr (Or.inl ⟨_, _, _, w, rfl, rfl, Gl.sqTS r.sub t1.sq, ew, hp _ _ _ _ Ext.refl r rw'.up⟩))
      · exact hp.elim
    · exact hp.elim
  · rename_i xs e
    split at hp
    · split at hp
      · rename_i d ed
        have ex := vw_scr e
        subst ex
        cases g1 with
        | scr t1 =>
          cases g2
          obtain ⟨j, e1, k⟩ := atI_len (xs := xs.map V.int) (by simp) ed
          exact Or.inr (Or.inl ⟨_, _, _, .int d, rfl, rfl, Gl.sqLS r.sub t1, k _ (by rw [List.getElem?_map, e1]; rfl), hp _ _ _ _ Ext.refl r (.int _)⟩)
      · exact hp.elim
    · exact hp.elim
  · rename_i z e
    split at hp
    · split at hp
      · rename_i hz
        split at hp
        · rename_i c ec
          have ex := view_str e
          subst ex
          cases g1
          cases g2
          exact Or.inr (Or.inr (Or.inr ⟨_, _, c, rfl, rfl, hz, ec, hp _ _ _ _ Ext.refl r (.str _)⟩))
        · exact hp.elim
      · exact hp.elim
    · exact hp.elim
  · exact hp.elim
theorem de_ix {k : Nat} (hr : Room k X.A) (ha : DE X K Γ W a ta φ) (hb : DE X K Γ W b tb ψ) (hK : X.K = K := by rfl) (hs : PlainIx b := by exact (fun _ _ => rfl)) : DE X K Γ W (.Subscript a b pos) (tOp (rIxA K) ta tb) (op2 ixD φ ψ) :=
  ⟨pe_ix (ix_A hr hK) ha.pe hb.pe hs, gd_op og_ix ha.gd hb.gd⟩
end
end Md

set_option Elab.async false
set_option maxRecDepth 100000
set_option maxHeartbeats 4000000
set_option linter.all false
/-! the mirror layer: slices, built-in functions -/
namespace Md
open PySem PySem.Spec PyProof.Rows L2
/-! ### slices -/
abbrev FO := DSt → Sto → Out (Option Int)
abbrev RO : Hp → List Addr → Option Int → Option Int → Prop := fun _ _ a b => a = b
structure DO (X : Cx) (K : PySem.W.Frag) (Γ : Gam) (W : WX) (e : Option Expr) (t : TO) (φ : FO) : Prop where
  po : PO X e t
  gd : GdX K Γ W RO t φ
def noneO : FO := fun _ s => .ok none s
def someO (φ : FE) : FO := bindX φ fun _ x s => match x with
  | .int i => .ok (some i) s
  | _ => .bad
def cutD (xs : List D) (lo hi : Option Int) : List D := (xs.drop (HT.sIx xs.length 0 lo)).take (HT.sIx xs.length xs.length hi - HT.sIx xs.length 0 lo)
def sliceD (x : D) (lo hi : Option Int) (s : Sto) : Out D := match vw x s with
  | .lst xs => .ok (.lst (cutD xs lo hi)) s
  | .tup xs => .ok (.tup (cutD xs lo hi)) s
  | .str z => if z.length ≤ sizeLine then .ok (.str (cutS z lo hi)) s else .bad
  | _ => .bad
def slD (φ : FE) (l u : FO) : FE := bindX φ fun ds x s => (l ds s).bind fun lo s => (u ds s).bind fun hi s => sliceD x lo hi s
section
variable {X : Cx} {K : PySem.W.Frag} {Γ : Gam} {H G F : Hp} {ι : List Addr} {s : Sto} {W : WX} {pos p2 : Pos} {e : Expr} {te : TE} {φ : FE} {lo hi : Option Expr} {tl th : TO} {l u : FO}
end
/-! ### calls of built-in functions -/
def CallG (K : PySem.W.Frag) (Γ : Gam) (r : List V → Hp → VK → Prop) (f : List D → Sto → Out D) : Prop :=
  ∀ (W : WX) (σ : L2.St) (H : Hp) (Q : VK) (G F : Hp) (ι : List Addr) (s : Sto) (xs : List D) (vs : List V), Rel K Γ G F H ι s → RpA K Γ F ι vs xs → Post K Γ W σ G F ι (RV K Γ) Q (f xs s) → r vs H Q
def callB (f : List D → Sto → Out D) (ψ : FA) : FE := bindX ψ fun _ xs s => f xs s
theorem CallR.or {X : Cx} {f : Value} {r r' : List V → Hp → VK → Prop} (h : CallR X f r) (h' : CallR X f r') : CallR X f (fun xs H Q => r xs H Q ∨ r' xs H Q) := by
  intro pins s σ H xs us Q I rx q
  rcases q with q | q
  · exact h pins s σ H xs us Q I rx q
  · exact h' pins s σ H xs us Q I rx q
section
variable {X : Cx} {K : PySem.W.Frag} {Γ : Gam} {H G F : Hp} {ι : List Addr} {s : Sto} {W : WX} {pos p : Pos} {e : Expr} {es : List Expr} {ta : TA} {ψ : FA} {r r' : List V → Hp → VK → Prop} {f : List D → Sto → Out D} {x : Str} {id T : String}
theorem gd_callB (g : CallG K Γ r f) (ha : Ga K Γ W ta ψ) : Gd K Γ W (tCB r ta) (callB f ψ) := by
  intro σ H Q G F ι s ds hs hr hp
  exact ha.step hs hr hp fun xs s1 vs H1 F1 ι1 x1 r1 q1 hs1 hp1 => g W σ H1 Q G F1 ι1 s1 xs vs r1 q1 hp1
theorem de_callB (hc : CallR X (.builtin id) r) (g : CallG K Γ r f) (hg : L2.Gl X x) (hm : X.mg x = none) (hv : bootBuiltins x = some (.builtin id)) (ha : DA X K Γ W (e :: es) ta ψ) (hn : x ≠ "__name__" := by decide) (hdb : (x == ("__debug__" : Str)) = false := by decide)
    (he : starEach (e :: es) X.env = (false, eval e X.env) :: starEach es X.env := by rfl) (hpl : (backTo pos (starEach es X.env)).any (·.1) = false := by rfl) : DE X K Γ W (.Call (.Name x p) (e :: es) [] pos) (tCB r ta) (callB f ψ) :=
  ⟨pe_callB hc hg hm hv ha.pa hn hdb he hpl, gd_callB g ha.gd⟩
theorem de_callTy (hc : CallR X (.type T) r) (g : CallG K Γ r f) (hg : L2.Gl X x) (hm : X.mg x = none) (hv : bootBuiltins x = some (.type T)) (ha : DA X K Γ W (e :: es) ta ψ) (hn : x ≠ "__name__" := by decide) (hdb : (x == ("__debug__" : Str)) = false := by decide)
    (he : starEach (e :: es) X.env = (false, eval e X.env) :: starEach es X.env := by rfl) (hpl : (backTo pos (starEach es X.env)).any (·.1) = false := by rfl) : DE X K Γ W (.Call (.Name x p) (e :: es) [] pos) (tCB r ta) (callB f ψ) :=
  ⟨pe_callTy hc hg hm hv ha.pa hn hdb he hpl, gd_callB g ha.gd⟩
/-! len -/
def lenD (xs : List D) (s : Sto) : Out D := match xs with
  | [x] => match vw x s with
    | .lst ys => .ok (.int ys.length) s
    | .tup ys => .ok (.int ys.length) s
    | .scr ys => .ok (.int ys.length) s
    | .dic ys => .ok (.int ys.length) s
    | .str z => if z.length ≤ sizeLine then .ok (.int z.length) s else .bad
    | _ => .bad
  | _ => .bad
theorem RpK.length : ∀ {vs : List (Key × V)} {ds : List (Key × D)}, RpK K Γ F ι vs ds → vs.length = ds.length
  | _, _, .nil => rfl
  | _, _, .cons _ g => congrArg (· + 1) (RpK.length g)
def rLenA (K : PySem.W.Frag) : List V → Hp → VK → Prop := fun xs H Q => Gl.rLen K xs H Q ∨ ∃ a kvs, xs = [V.ref a] ∧ Rd H a (.dK kvs) ∧ Q (.int kvs.length) H
theorem call_lenDR : CallR X (.builtin "len") (fun xs H Q => ∃ a kvs, xs = [V.ref a] ∧ Rd H a (.dK kvs) ∧ Q (.int kvs.length) H) := by
  intro pins s σ H xs us Q I r h
  obtain ⟨a, kvs, rfl, ha, q⟩ := h
  obtain ⟨u, rfl, ru⟩ := vals1 r
  cases ru
  exact d_len I ha fun t s' I' => ⟨.int kvs.length, H, I', ⟨t, rfl⟩, q⟩
theorem call_lenAA (hK : X.K = K := by rfl) : CallR X (.builtin "len") (rLenA K) := by
  subst hK
  exact CallR.or Gl.call_lenA call_lenDR
theorem one_rp {vs : List V} {x : D} (h : RpA K Γ F ι vs [x]) : ∃ v, vs = [v] ∧ Rp K Γ F ι v x := by
  cases h with
  | cons h t => cases t; exact ⟨_, rfl, h⟩
theorem two_rp {vs : List V} {x y : D} (h : RpA K Γ F ι vs [x, y]) : ∃ v w, vs = [v, w] ∧ Rp K Γ F ι v x ∧ Rp K Γ F ι w y := by
  cases h with
  | cons h t => obtain ⟨w, rfl, r⟩ := one_rp t; exact ⟨_, w, rfl, h, r⟩
theorem cg_len : CallG K Γ (rLenA K) lenD := by
  intro W σ H Q G F ι s xs vs r g hp
  unfold lenD at hp
  split at hp
  · rename_i x
    obtain ⟨v, rfl, gx⟩ := one_rp g
    split at hp
    · rename_i ys e
      obtain ⟨a, ws, rfl, ha, gk⟩ := r.view gx (view_lst e)
      refine Or.inl ⟨_, _, rfl, Or.inl ⟨_, SqL.of ha, rfl⟩, ?_⟩
      rw [gk.length]
      exact hp _ _ _ _ Ext.refl r (.int _)
    · rename_i ys e
      have ex := view_tup e
      subst ex
      cases gx with
      | tup t1 gk =>
        refine Or.inl ⟨_, _, rfl, Or.inr ⟨_, Gl.sqTS r.sub t1.sq, rfl⟩, ?_⟩
        rw [gk.length]
        exact hp _ _ _ _ Ext.refl r (.int _)
    · rename_i ys e
      have ex := vw_scr e
      subst ex
      cases gx with
      | scr t1 =>
        refine Or.inl ⟨_, _, rfl, Or.inl ⟨_, Gl.sqLS r.sub t1, rfl⟩, ?_⟩
        rw [List.length_map]
        exact hp _ _ _ _ Ext.refl r (.int _)
    · rename_i ys e
      obtain ⟨a, ks, rfl, ha, gk⟩ := r.viewD gx e
      refine Or.inr ⟨a, ks, rfl, ha, ?_⟩
      rw [gk.length]
      exact hp _ _ _ _ Ext.refl r (.int _)
    · rename_i z e
      have ex := view_str e
      subst ex
      cases gx
      split at hp
      · rename_i hz
        exact Or.inl ⟨_, _, rfl, ⟨hz, rfl⟩, hp _ _ _ _ Ext.refl r (.int _)⟩
      · exact hp.elim
    · exact hp.elim
  · exact hp.elim
/-! abs, int, bool, max, min, str(int) -/
def absD (xs : List D) (s : Sto) : Out D := match xs with
  | [.int i] => .ok (.int (if i < 0 then -i else i)) s
  | _ => .bad
theorem cg_abs : CallG K Γ (fun xs H Q => ∃ i, xs = [.int i] ∧ Q (.int (if i < 0 then -i else i)) H) absD := by
  intro W σ H Q G F ι s xs vs r g hp
  unfold absD at hp
  split at hp
  · obtain ⟨v, rfl, gx⟩ := one_rp g
    cases gx
    exact ⟨_, rfl, hp _ _ _ _ Ext.refl r (.int _)⟩
  · exact hp.elim
def intD (xs : List D) (s : Sto) : Out D := match xs with
  | [.int i] => .ok (.int i) s
  | [.bl b] => .ok (.int (if b then 1 else 0)) s
  | _ => .bad
def maxD (xs : List D) (s : Sto) : Out D := match xs with
  | [.int i, .int j] => .ok (.int (if j > i then j else i)) s
  | _ => .bad
def minD (xs : List D) (s : Sto) : Out D := match xs with
  | [.int i, .int j] => .ok (.int (if j < i then j else i)) s
  | _ => .bad
theorem cg_max : CallG K Γ (fun xs H Q => ∃ i j, xs = [.int i, .int j] ∧ Q (.int (if j > i then j else i)) H) maxD := by
  intro W σ H Q G F ι s xs vs r g hp
  unfold maxD at hp
  split at hp
  · obtain ⟨v, w, rfl, gx, gy⟩ := two_rp g
    cases gx; cases gy
    exact ⟨_, _, rfl, hp _ _ _ _ Ext.refl r (.int _)⟩
  · exact hp.elim
theorem cg_min : CallG K Γ (fun xs H Q => ∃ i j, xs = [.int i, .int j] ∧ Q (.int (if j < i then j else i)) H) minD := by
  intro W σ H Q G F ι s xs vs r g hp
  unfold minD at hp
  split at hp
  · obtain ⟨v, w, rfl, gx, gy⟩ := two_rp g
    cases gx; cases gy
    exact ⟨_, _, rfl, hp _ _ _ _ Ext.refl r (.int _)⟩
  · exact hp.elim
/-! tuple, list -/
def tupleD (xs : List D) (s : Sto) : Out D := match xs with
  | [x] => match vw x s with
    | .lst ys => .ok (.tup ys) s
    | .tup ys => .ok (.tup ys) s
    | _ => .bad
  | _ => .bad
def listD (xs : List D) (s : Sto) : Out D := match xs with
  | [x] => match vw x s with
    | .lst ys => .ok (.lst ys) s
    | .tup ys => .ok (.lst ys) s
    | _ => .bad
  | _ => .bad
/-! sum, any, all -/
end
/-! ### repr -/
mutual
def wideB : PyData → Bool
  | .none => true
  | .bool _ => true
  | .str _ => true
  | .int i => decide (i.natAbs < 10 ^ 4300)
  | .list xs => wideA xs
  | .tuple xs => wideA xs
  | .dict _ => false
def wideA : List PyData → Bool
  | [] => true
  | x :: xs => wideB x && wideA xs
end
mutual
theorem wide_of : ∀ d : PyData, wideB d = true → Gl.Wide d
  | .none, _ => trivial
  | .bool _, _ => trivial
  | .str _, _ => trivial
  | .int i, h => of_decide_eq_true (p := i.natAbs < 10 ^ 4300) h
  | .list xs, h => wide_all xs h
  | .tuple xs, h => wide_all xs h
theorem wide_all : ∀ ds : List PyData, wideA ds = true → Gl.WideAll ds
  | [], _ => trivial
  | x :: xs, h => by
    unfold wideA at h
    rw [Bool.and_eq_true] at h
    exact ⟨wide_of x h.1, wide_all xs h.2⟩
end
/-- data that may be shown -/
def canShow (q : PyData) : Bool := wideB q && (decide (q.depth ≤ 30) && decide (Gl.wt q ≤ sizeLine))
def reprD (xs : List D) (s : Sto) : Out D := match xs with
  | [x] => match (vw x s).py with
    | some q => if canShow q = true then .ok (.str q.shown) s else .bad
    | none => .bad
  | _ => .bad
section
variable {X : Cx} {K : PySem.W.Frag} {Γ : Gam}
theorem cg_repr : CallG K Γ (Gl.rReprW K) reprD := by
  intro W σ H Q G F ι s xs vs r g hp
  unfold reprD at hp
  split at hp
  · obtain ⟨v, rfl, gx⟩ := one_rp g
    split at hp
    · rename_i q e
      split at hp
      · rename_i hc
        unfold canShow at hc
        simp only [Bool.and_eq_true, decide_eq_true_eq] at hc
        exact Gl.r_reprW q (r.viewP gx e) (wide_of q hc.1) hc.2.1 hc.2.2 (hp _ _ _ _ Ext.refl r (.str _))
      · exact hp.elim
    · exact hp.elim
  · exact hp.elim
/-! ### isinstance -/
def kindD (x : D) (s : Sto) : Option String := match vw x s with
  | .non => some "NoneType"
  | .bl _ => some "bool"
  | .int _ => some "int"
  | .str _ => some "str"
  | .lst _ => some "list"
  | .scr _ => some "list"
  | .tup _ => some "tuple"
  | .dic _ => some "dict"
  | _ => none
/-- what is known of the classes cs -/
structure Cls (K : PySem.W.Frag) (Γ : Gam) (cs : List Nat) : Prop where
  sc : ∀ c ∈ cs, SlX.SCls K (Γ c)
  si : ∀ c ∈ cs, SlX.SIsi K (Γ c)
  toB : ∀ c ∈ cs, ∀ T ∈ Gl.asked, PySem.W.kitOne K (.ref (Γ c)) (.type T) = some false
  ofB : ∀ c ∈ cs, ∀ n ∈ Gl.kinds, PySem.W.kitOne K (.type n) (.ref (Γ c)) = some false
  own : ∀ c ∈ cs, ∀ k ∈ cs, PySem.W.kitOne K (.ref (Γ c)) (.ref (Γ k)) = some (c == k)
  nf : ∀ c ∈ cs, ∀ k ∈ cs, PySem.W.notFirst K (Γ c) (.ref (Γ k)) = true
/-- the class of an instance -/
def clsD (x : D) (s : Sto) : Option Nat := match x with
  | .ins c _ => some c
  | .cell n => match s[n]? with
    | some (.ins c _) => some c
    | _ => none
  | _ => none
/-- isinstance(x, T), T built in -/
def isiT (cs : List Nat) (T : String) (xs : List D) (s : Sto) : Out D := match xs with
  | [x, _] => match kindD x s with
    | some n => .ok (.bl (Gl.isKind n T)) s
    | none => match clsD x s with
      | some c => if c ∈ cs then .ok (.bl false) s else .bad
      | none => .bad
  | _ => .bad
/-- isinstance(x, C), C the class k -/
def isiC (cs : List Nat) (k : Nat) (xs : List D) (s : Sto) : Out D := match xs with
  | [x, _] => match kindD x s with
    | some _ => .ok (.bl false) s
    | none => match clsD x s with
      | some c => if c ∈ cs then .ok (.bl (c == k)) s else .bad
      | none => .bad
  | _ => .bad
def isiD (φ : FE) (f : List D → Sto → Out D) : FE := bindX φ fun _ x s => f [x, .non] s
end
section
variable {X : Cx} {K : PySem.W.Frag} {Γ : Gam} {W : WX} {pos p p2 : Pos} {e : Expr} {te : TE} {φ : FE} {cs : List Nat} {x : Str}
end
end Md

set_option Elab.async false
set_option maxRecDepth 100000
set_option maxHeartbeats 4000000
set_option linter.all false
/-! the mirror layer: statements, loops, comprehensions -/
namespace Md
open PySem PySem.Spec PyProof.Rows L2
section
variable (K : PySem.W.Frag) (Γ : Gam) (W : WX) (G F : Hp) (ι : List Addr)
def PostS (E : Ends) : SOut → Prop
  | .nx ds s => ∀ σ' H' F' ι', Ext F ι F' ι' → RS K Γ F' ι' σ' ds → Rel K Γ G F' H' ι' s → E.nx σ' H'
  | .rt d s => ∀ v H' F' ι', Ext F ι F' ι' → Rel K Γ G F' H' ι' s → Rp K Γ F' ι' v d → E.rt v H'
  | .bk ds s => ∀ σ' H' F' ι', Ext F ι F' ι' → RS K Γ F' ι' σ' ds → Rel K Γ G F' H' ι' s → E.bk σ' H'
  | .ct ds s => ∀ σ' H' F' ι', Ext F ι F' ι' → RS K Γ F' ι' σ' ds → Rel K Γ G F' H' ι' s → E.ct σ' H'
  | .err c p ds s => ∀ dd σ' H' F' ι', Ext F ι F' ι' → RS K Γ F' ι' σ' ds → Rel K Γ G F' H' ι' s → ErrAt K Γ F' H' ι' dd p → W (.ref (Γ c)) dd σ' H'
  | .bad => False
end
theorem PostS.ext {K : PySem.W.Frag} {Γ : Gam} {W : WX} {G F F' : Hp} {ι ι' : List Addr} {E : Ends} {o : SOut} (x : Ext F ι F' ι') (h : PostS K Γ W G F ι E o) : PostS K Γ W G F' ι' E o := by
  cases o with
  | nx ds s => exact fun σ' H' F2 ι2 y => h σ' H' F2 ι2 (x.trans y)
  | rt d s => exact fun σ' H' F2 ι2 y => h σ' H' F2 ι2 (x.trans y)
  | bk ds s => exact fun σ' H' F2 ι2 y => h σ' H' F2 ι2 (x.trans y)
  | ct ds s => exact fun σ' H' F2 ι2 y => h σ' H' F2 ι2 (x.trans y)
  | err c p ds s => exact fun dd σ' H' F2 ι2 y => h dd σ' H' F2 ι2 (x.trans y)
  | bad => exact h
def GS (K : PySem.W.Frag) (Γ : Gam) (W : WX) (t : TS) (ψ : FS) : Prop :=
  ∀ (E : Ends) (σ : L2.St) (H G F : Hp) (ι : List Addr) (s : Sto) (ds : DSt), RS K Γ F ι σ ds → Rel K Γ G F H ι s → PostS K Γ W G F ι E (ψ ds s) → t E σ H
structure DS (X : Cx) (K : PySem.W.Frag) (Γ : Gam) (W : WX) (st : Stmt) (t : TS) (ψ : FS) : Prop where
  ps : PS X st t
  gd : GS K Γ W t ψ
structure DSs (X : Cx) (K : PySem.W.Frag) (Γ : Gam) (W : WX) (st : List Stmt) (t : TS) (ψ : FS) : Prop where
  ps : PSs X st t
  gd : GS K Γ W t ψ
def bindS {α : Type} (o : Out α) (ds : DSt) (k : α → Sto → SOut) : SOut := match o with
  | .ok a s => k a s
  | .err c p s => .err c p ds s
  | .bad => .bad
theorem GdX.stepS {K : PySem.W.Frag} {Γ : Gam} {W : WX} {σ : L2.St} {H G F : Hp} {ι : List Addr} {s : Sto} {ds : DSt} {α β : Type} {R : Hp → List Addr → α → β → Prop} {t : L2.St → Hp → (α → Hp → Prop) → Prop} {φ : DSt → Sto → Out β} {Q : α → Hp → Prop} {E : Ends} {k : β → Sto → SOut}
    (g : GdX K Γ W R t φ) (hs : RS K Γ F ι σ ds) (hr : Rel K Γ G F H ι s) (hp : PostS K Γ W G F ι E (bindS (φ ds s) ds k))
    (hk : ∀ d s1 v H1 F1 ι1, Ext F ι F1 ι1 → Rel K Γ G F1 H1 ι1 s1 → R F1 ι1 v d → RS K Γ F1 ι1 σ ds → PostS K Γ W G F1 ι1 E (k d s1) → Q v H1) : t σ H Q := by
  refine g σ H Q G F ι s ds hs hr ?_
  cases e : φ ds s with
  | ok d s1 =>
    rw [e] at hp
    exact fun v H1 F1 ι1 x r q => hk d s1 v H1 F1 ι1 x r q (hs.ext x) (hp.ext x)
  | err c p s1 =>
    rw [e] at hp
    exact fun dd H1 F1 ι1 x r q => hp dd σ H1 F1 ι1 x (hs.ext x) r q
  | bad => rw [e] at hp; exact hp
/-! ### small statements -/
def nilS : FS := fun ds s => .nx ds s
def seqS (a b : FS) : FS := fun ds s => match a ds s with
  | .nx ds' s' => b ds' s'
  | o => o
def exprS (φ : FE) : FS := fun ds s => bindS (φ ds s) ds fun _ s => .nx ds s
def retS (φ : FE) : FS := fun ds s => bindS (φ ds s) ds fun d s => .rt d s
def retN : FS := fun _ s => .rt .non s
def ifS (μ : FT) (a b : FS) : FS := fun ds s => bindS (μ ds s) ds fun c s => match c with
  | true => a ds s
  | false => b ds s
def brkS : FS := fun ds s => .bk ds s
def cntS : FS := fun ds s => .ct ds s
section
variable {X : Cx} {K : PySem.W.Frag} {Γ : Gam} {W : WX} {pos : Pos} {e : Expr} {te : TE} {φ : FE} {st : Stmt} {sts : List Stmt} {t u : TS} {a b : FS} {c : Expr} {tc : TT} {μ : FT}
theorem ds_nil : DSs X K Γ W [] tNext nilS := ⟨pss_nil, fun E σ H G F ι s ds hs hr hp => hp σ H F ι Ext.refl hs hr⟩
theorem gs_seq (g1 : GS K Γ W t a) (g2 : GS K Γ W u b) : GS K Γ W (tSeq t u) (seqS a b) := by
  intro E σ H G F ι s ds hs hr hp
  refine g1 _ σ H G F ι s ds hs hr ?_
  unfold seqS at hp
  cases e : a ds s with
  | nx ds1 s1 =>
    rw [e] at hp
    exact fun σ' H' F' ι' x rs r => g2 E σ' H' G F' ι' s1 ds1 rs r (hp.ext x)
  | rt d s1 => rw [e] at hp; exact hp
  | bk d s1 => rw [e] at hp; exact hp
  | ct d s1 => rw [e] at hp; exact hp
  | err c p d s1 => rw [e] at hp; exact hp
  | bad => rw [e] at hp; exact hp
theorem ds_cons (h1 : DS X K Γ W st t a) (h2 : DSs X K Γ W sts u b) : DSs X K Γ W (st :: sts) (tSeq t u) (seqS a b) := ⟨pss_cons h1.ps h2.ps, gs_seq h1.gd h2.gd⟩
theorem ds_one (h1 : DS X K Γ W st t a) : DSs X K Γ W [st] t a := ⟨pss_one h1.ps, h1.gd⟩
theorem ds_expr (h : DE X K Γ W e te φ) (hs : swapsWith e none pos.line X.env = pure false := by rfl) : DS X K Γ W (.Expr e pos) (tDrop te) (exprS φ) :=
  ⟨ps_expr h.pe hs, fun E σ H G F ι s ds hs hr hp => h.gd.stepS hs hr hp fun d s1 v H1 F1 ι1 x1 r1 q1 hs1 hp1 => hp1 σ H1 F1 ι1 Ext.refl hs1 r1⟩
theorem ds_ret (h : DE X K Γ W e te φ) : DS X K Γ W (.Return (some e) pos) (tRet te) (retS φ) :=
  ⟨ps_ret h.pe, fun E σ H G F ι s ds hs hr hp => h.gd.stepS hs hr hp fun d s1 v H1 F1 ι1 x1 r1 q1 hs1 hp1 => hp1 v H1 F1 ι1 Ext.refl r1 q1⟩
theorem ds_if (hc : DT X K Γ W c tc μ) (h1 : DSs X K Γ W sts t a) {sts' : List Stmt} (h2 : DSs X K Γ W sts' u b) : DS X K Γ W (.If c sts sts' pos) (tIfS tc t u) (ifS μ a b) := by
  refine ⟨ps_if hc.pt h1.ps h2.ps, fun E σ H G F ι s ds hs hr hp => hc.gd.stepS hs hr hp fun d s1 v H1 F1 ι1 x1 r1 q1 hs1 hp1 => ?_⟩
  cases (show v = d from q1)
  cases d with
  | true => exact iteT (h1.gd E σ H1 G F1 ι1 s1 ds hs1 r1 hp1)
  | false => exact iteF (h2.gd E σ H1 G F1 ι1 s1 ds hs1 r1 hp1)
end
/-! ### targets -/
def Outside (sl : List Nat) (σ σ' : L2.St) : Prop := σ'.length = σ.length ∧ ∀ i : Nat, i ∉ sl → σ'[i]? = σ[i]?
theorem Outside.refl {σ : L2.St} : Outside [] σ σ := ⟨rfl, fun _ _ => rfl⟩
abbrev FG := D → DSt → Option DSt
def GG (K : PySem.W.Frag) (Γ : Gam) (sl : List Nat) (g : TG) (γ : FG) : Prop :=
  ∀ (v : V) (d : D) (σ : L2.St) (H : Hp) (Q : L2.St → Hp → Prop) (G F : Hp) (ι : List Addr) (s : Sto) (ds ds' : DSt), RS K Γ F ι σ ds → Rel K Γ G F H ι s → Rp K Γ F ι v d → γ d ds = some ds' → (∀ σ', RS K Γ F ι σ' ds' → Outside sl σ σ' → Q σ' H) → g v σ H Q
def GGs (K : PySem.W.Frag) (Γ : Gam) (sl : List Nat) (g : TGs) (γ : List D → DSt → Option DSt) : Prop :=
  ∀ (vs : List V) (es : List D) (σ : L2.St) (H : Hp) (Q : L2.St → Hp → Prop) (G F : Hp) (ι : List Addr) (s : Sto) (ds ds' : DSt), RS K Γ F ι σ ds → Rel K Γ G F H ι s → RpA K Γ F ι vs es → γ es ds = some ds' → (∀ σ', RS K Γ F ι σ' ds' → Outside sl σ σ' → Q σ' H) → g vs σ H Q
structure DG (X : Cx) (K : PySem.W.Frag) (Γ : Gam) (sl : List Nat) (e : Expr) (g : TG) (γ : FG) : Prop where
  pg : PG X e g
  gd : GG K Γ sl g γ
structure DGs (X : Cx) (K : PySem.W.Frag) (Γ : Gam) (sl : List Nat) (es : List Expr) (g : TGs) (γ : List D → DSt → Option DSt) : Prop where
  pg : PGs X es g
  gd : GGs K Γ sl g γ
def nameG (i : Nat) : FG := fun d ds => some (ds.set i (some d))
def nilG : List D → DSt → Option DSt := fun es ds => match es with
  | [] => some ds
  | _ => none
def consG (γ : FG) (δ : List D → DSt → Option DSt) : List D → DSt → Option DSt := fun es ds => match es with
  | d :: r => match γ d ds with
    | some ds' => δ r ds'
    | none => none
  | [] => none
def tupG (n : Nat) (δ : List D → DSt → Option DSt) : FG := fun d ds => match d with
  | .tup es => if es.length = n then δ es ds else none
  | _ => none
section
variable {X : Cx} {K : PySem.W.Frag} {Γ : Gam} {W : WX} {pos : Pos} {i n k : Nat} {x : Str} {e : Expr} {es : List Expr} {g : TG} {gs : TGs} {γ : FG} {δ : List D → DSt → Option DSt} {sl sl' : List Nat}
theorem gg_name : GG K Γ [i] (gName i) (nameG i) := fun v d σ H Q G F ι s ds ds' hs hr rp e hq => by
  cases e
  exact hq _ (hs.set rp i) ⟨by rw [List.length_set], fun j hj => List.getElem?_set_ne fun z => hj (by simp [z])⟩
theorem dg_name (hN : X.N.Nodup) (hi : X.N[i]? = some x) (hx : Loc X.env.scope x) (hf : X.fn x = true ∨ X.env.scope.names.lookup x = some .local := by first | exact .inl rfl | exact .inr rfl | assumption) : DG X K Γ [i] (.Name x pos) (gName i) (nameG i) := ⟨pg_name hN hi hx hf, gg_name⟩
end
def asgS (φ : FE) (γ : FG) : FS := fun ds s => bindS (φ ds s) ds fun d s => match γ d ds with
  | some ds' => .nx ds' s
  | none => .bad
def parS (i j : Nat) (ψ : FA) : FS := fun ds s => bindS (ψ ds s) ds fun xs s => match xs with
  | [x, y] => .nx ((ds.set i (some x)).set j (some y)) s
  | _ => .bad
def par3S (i j l : Nat) (ψ : FA) : FS := fun ds s => bindS (ψ ds s) ds fun xs s => match xs with
  | [x, y, z] => .nx (((ds.set i (some x)).set j (some y)).set l (some z)) s
  | _ => .bad
section
variable {X : Cx} {K : PySem.W.Frag} {Γ : Gam} {W : WX} {pos pos' : Pos} {i j l n k : Nat} {x y z : Str} {e tg : Expr} {te : TE} {φ : FE} {g : TG} {γ : FG} {sl : List Nat} {ta : TA} {ψ : FA}
theorem gs_asg (h : Gd K Γ W te φ) (hg : GG K Γ sl g γ) : GS K Γ W (tAsg te g) (asgS φ γ) := by
  intro E σ H G F ι s ds hs hr hp
  refine h.stepS hs hr hp fun d s1 v H1 F1 ι1 x1 r1 q1 hs1 hp1 => ?_
  try dsimp only at hp1
  split at hp1
  · rename_i ds' e
    exact hg v d σ H1 _ G F1 ι1 s1 ds ds' hs1 r1 q1 e fun σ' rs o => hp1 σ' H1 F1 ι1 Ext.refl rs r1
  · exact hp1.elim
theorem ds_set (hN : X.N.Nodup) (hi : X.N[i]? = some x) (hx : Loc X.env.scope x) (h : DE X K Γ W e te φ) (hs : swapsWith e (some (.Name x pos')) pos.line X.env = pure false := by rfl) (hf : X.fn x = true ∨ X.env.scope.names.lookup x = some .local := by first | exact .inl rfl | exact .inr rfl | assumption) :
    DS X K Γ W (.Assign [.Name x pos'] e pos) (tAsg te (gName i)) (asgS φ (nameG i)) := ⟨ps_set hN hi hx h.pe hs hf, gs_asg h.gd gg_name⟩
theorem gs_par (h : Ga K Γ W ta ψ) : GS K Γ W (tPar i j ta) (parS i j ψ) := by
  intro E σ H G F ι s ds hs hr hp
  refine h.stepS hs hr hp fun xs s1 vs H1 F1 ι1 x1 r1 q1 hs1 hp1 => ?_
  try dsimp only at hp1
  split at hp1
  · obtain ⟨v, w, rfl, g1, g2⟩ := two_rp q1
    exact ⟨v, w, rfl, hp1 _ H1 F1 ι1 Ext.refl ((hs1.set g1 i).set g2 j) r1⟩
  · exact hp1.elim
theorem gs_par3 (h : Ga K Γ W ta ψ) : GS K Γ W (tPar3 i j l ta) (par3S i j l ψ) := by
  intro E σ H G F ι s ds hs hr hp
  refine h.stepS hs hr hp fun xs s1 vs H1 F1 ι1 x1 r1 q1 hs1 hp1 => ?_
  try dsimp only at hp1
  split at hp1
  · cases q1 with
    | cons g0 t =>
      obtain ⟨v, w, rfl, g1, g2⟩ := two_rp t
      exact ⟨_, v, w, rfl, hp1 _ H1 F1 ι1 Ext.refl (((hs1.set g0 i).set g1 j).set g2 l) r1⟩
  · exact hp1.elim
theorem ds_par {a b : Expr} {px py pt : Pos} {kt k2 pt2} (hc : X.calm = true) (hN : X.N.Nodup) (hi : X.N[i]? = some x) (hj : X.N[j]? = some y) (hij : i ≠ j) (hx : X.env.scope.names.lookup x = some .local) (hy : X.env.scope.names.lookup y = some .local) (ha : DA X K Γ W [a, b] ta ψ)
    (hw : swappedStores [.Tuple [.Name x px, .Name y py] kt pt] (.Tuple [a, b] k2 pt2) X.env = pure (some [x, y])) (hs : swapsWithSole [.Tuple [.Name x px, .Name y py] kt pt] (.Tuple [a, b] k2 pt2) pos.line X.env = pure false := by rfl) :
    DS X K Γ W (.Assign [.Tuple [.Name x px, .Name y py] kt pt] (.Tuple [a, b] k2 pt2) pos) (tPar i j ta) (parS i j ψ) := ⟨ps_par hc hN hi hj hij hx hy ha.pa hw hs, gs_par ha.gd⟩
theorem ds_par3 {a b c : Expr} {px py pz pt : Pos} {kt k2 pt2} (hc : X.calm = true) (hN : X.N.Nodup) (hi : X.N[i]? = some x) (hj : X.N[j]? = some y) (hl : X.N[l]? = some z) (hij : i ≠ j) (hil : i ≠ l) (hjl : j ≠ l) (hx : X.env.scope.names.lookup x = some .local) (hy : X.env.scope.names.lookup y = some .local) (hz : X.env.scope.names.lookup z = some .local) (ha : DA X K Γ W [a, b, c] ta ψ)
    (hw : swappedStores [.Tuple [.Name x px, .Name y py, .Name z pz] kt pt] (.Tuple [a, b, c] k2 pt2) X.env = pure (some [x, y, z])) (hs : swapsWithSole [.Tuple [.Name x px, .Name y py, .Name z pz] kt pt] (.Tuple [a, b, c] k2 pt2) pos.line X.env = pure false := by rfl) :
    DS X K Γ W (.Assign [.Tuple [.Name x px, .Name y py, .Name z pz] kt pt] (.Tuple [a, b, c] k2 pt2) pos) (tPar3 i j l ta) (par3S i j l ψ) := ⟨ps_par3 hc hN hi hj hl hij hil hjl hx hy hz ha.pa hw hs, gs_par3 ha.gd⟩
end
/-! ### what is walked -/
structure WalkD (K : PySem.W.Frag) (Γ : Gam) (F : Hp) (ι : List Addr) (J : It) (xs : List D) : Prop where
  goes : ∀ (i : Nat) (H : Hp), i < xs.length → Same F H → J.go i H
  stops : ∀ H : Hp, Same F H → J.stop xs.length H
  yields : ∀ (i : Nat) (H : Hp) (v : V) (H' : Hp) (d : D), Same F H → J.yld i H v H' → xs[i]? = some d → (H' = H ∧ Rp K Γ F [] v d) ∨ (∃ T vs ds, v = .ref T ∧ H T = none ∧ H' = upd H T (.tup vs) ∧ RpA K Γ F [] vs ds ∧ d = .tup ds) ∨ (∃ T vs ds, v = .ref T ∧ ((H T = some (.tup vs) ∧ H' = H) ∨ (H T = none ∧ H' = upd H T (.tup vs))) ∧ RpA K Γ F [] vs ds ∧ (d = .tup ds ∨ d = .ptp ds)) ∨
    ∃ T1 T2 vs ds k, v = .ref T2 ∧ H T1 = none ∧ upd H T1 (.tup vs) T2 = none ∧ H' = upd (upd H T1 (.tup vs)) T2 (.tup [.int k, .ref T1]) ∧ RpA K Γ F [] vs ds ∧ d = .tup [.int k, .ptp ds]
theorem WalkD.ext {K : PySem.W.Frag} {Γ : Gam} {F F' : Hp} {ι ι' : List Addr} {J : It} {xs : List D} (w : WalkD K Γ F ι J xs) (x : Ext F ι F' ι') : WalkD K Γ F' ι' J xs := by
  have tr : ∀ {H : Hp}, Same F' H → Same F H := fun s c o e => s c o (x.same c o e)
  refine ⟨fun i H hi s => w.goes i H hi (tr s), fun H s => w.stops H (tr s), fun i H v H' d s y e => ?_⟩
  rcases w.yields i H v H' d (tr s) y e with ⟨h1, h2⟩ | ⟨T, vs, ds, h1, h2, h3, h4, h5⟩ | ⟨T, vs, ds, h1, h2, h4, h5⟩ | ⟨T1, T2, vs, ds, k, h1, h2, h3, h4, h5, h6⟩
  · exact Or.inl ⟨h1, h2.ext x.nil⟩
  · exact Or.inr (Or.inl ⟨T, vs, ds, h1, h2, h3, h4.ext x.nil, h5⟩)
  · exact Or.inr (Or.inr (Or.inl ⟨T, vs, ds, h1, h2, h4.ext x.nil, h5⟩))
  · exact Or.inr (Or.inr (Or.inr ⟨T1, T2, vs, ds, k, h1, h2, h3, h4, h5.ext x.nil, h6⟩))
/-- an iterable's data -/
def GI (K : PySem.W.Frag) (Γ : Gam) (W : WX) (wi : TI) (η : FA) : Prop := GdX K Γ W (fun F ι (J : It) xs => WalkD K Γ F ι J xs) wi η
structure DI (X : Cx) (K : PySem.W.Frag) (Γ : Gam) (W : WX) (tg iter : Expr) (wi : TI) (η : FA) : Prop where
  pi : PI X tg iter wi
  gd : GI K Γ W wi η
/-- a list, a tuple, a text, the keys of a dict: whatever the value is -/
def iAny (K : PySem.W.Frag) (te : TE) : TI := fun σ H R => te σ H fun x H1 => (∃ a xs, x = .ref a ∧ SqL K H1 a xs ∧ R (Itl K a) H1) ∨ (∃ a xs, x = .ref a ∧ SqT K H1 a xs ∧ R (Itt K a) H1) ∨ (∃ z, x = .str z ∧ R (Its z) H1) ∨ ∃ d o kvs, x = .ref d ∧ H1 d = some (.frz o (.dK kvs)) ∧ R (Itk d o kvs) H1
theorem pi_any {X : Cx} {K : PySem.W.Frag} {tg l : Expr} {tl : TE} (hK : X.K = K) (hl : PE X l tl) : PI X tg l (iAny K tl) := by
  subst hK
  constructor
  intro pins s σ H R I h
  refine thn (hl.run pins s σ H _ I h) ?_
  rintro v s1 ⟨x, H1, I1, r1, q1⟩
  rcases q1 with ⟨a, xs, rfl, hq, q⟩ | ⟨a, xs, rfl, hq, q⟩ | ⟨z, rfl, q⟩ | ⟨d, o, kvs, rfl, hd, q⟩
  · cases r1
    obtain ⟨its, _, pl, _⟩ := I1.list hq
    exact wpAny_pyIter_list pl.isList (pi_one (tk := s1.toks) I1 _ (turn_list a _) ⟨_, Heap.get?_push_size _ rfl, rfl, rfl⟩ q)
  · cases r1
    obtain ⟨its, _, pl, _⟩ := I1.tuple hq
    exact wpAny_pyIter_tuple (show s1.heap.IsTuple a its.toArray from pl) (pi_one (tk := s1.toks) I1 _ (turn_tuple a _) ⟨_, Heap.get?_push_size _ rfl, rfl, rfl⟩ q)
  · obtain ⟨t, rfl⟩ := r1
    cases ha : z.cps.all (· < 128) with
    | false => exact wpAny_pyIter_wide ha (pi_one (tk := s1.toks) I1 _ (turn_str _ z t "str_iterator" (Or.inr rfl)) ⟨_, Heap.get?_push_size _ rfl, rfl, rfl⟩ q)
    | true => exact wpAny_pyIter_ascii ha (pi_one (tk := s1.toks) I1 _ (turn_str _ z t "str_ascii_iterator" (Or.inl rfl)) ⟨_, Heap.get?_push_size _ rfl, rfl, rfl⟩ q)
  · obtain rfl : v = Value.ref d := r1
    obtain ⟨hs, hgd, hx, es, ep, vs, hdt, hsz, kv, hm⟩ := I1.frzK hd
    refine iter_keys hs hgd hx hdt (pi_one (tk := s1.toks) I1 _ (turn_keys _ hdt) ⟨_, Heap.get?_push_size _ rfl, rfl, ?_⟩ q)
    rw [hsz] <;> rfl
def strL (z : Str) : List D := z.cps.toList.map fun c => .str ⟨#[c]⟩
def itemsD (x : D) (s : Sto) : Out (List D) := match x with
  | .lst xs => .ok xs s
  | .tup xs => .ok xs s
  | .str z => .ok (strL z) s
  | .dic kvs => .ok (kvs.map fun kv => kD kv.1) s
  | _ => .bad
def itD (φ : FE) : FA := bindX φ fun _ x s => itemsD x s
section
variable {X : Cx} {K : PySem.W.Frag} {Γ : Gam} {W : WX} {F : Hp} {ι : List Addr} {tg l : Expr} {tl : TE} {φ : FE} {a : Addr} {vs : List V} {ds : List D}
theorem walk_lst (h : F a = some (.lst vs)) (g : RpA K Γ F [] vs ds) : WalkD K Γ F ι (Itl K a) ds := by
  refine ⟨fun i H hi s => ?_, fun H s => ⟨vs, SqL.of (s _ _ h), by rw [g.length]; exact Nat.le_refl _⟩, fun i H v H' d s y e => ?_⟩
  · have hv : i < vs.length := by rw [g.length]; exact hi
    exact ⟨vs, vs[i], SqL.of (s _ _ h), by simp [hv]⟩
  · obtain ⟨w, ew, rw'⟩ := g.get e
    have := y.2 vs (SqL.of (s _ _ h))
    rw [ew] at this
    cases this
    exact Or.inl ⟨y.1, rw'⟩
theorem walk_tupD (h : SqT K F a vs) (g : RpA K Γ F [] vs ds) : WalkD K Γ F ι (Itt K a) ds := by
  refine ⟨fun i H hi s => ?_, fun H s => ⟨vs, Gl.sqTS s h, by rw [g.length]; exact Nat.le_refl _⟩, fun i H v H' d s y e => ?_⟩
  · have hv : i < vs.length := by rw [g.length]; exact hi
    exact ⟨vs, vs[i], Gl.sqTS s h, by simp [hv]⟩
  · obtain ⟨w, ew, rw'⟩ := g.get e
    have := y.2 vs (Gl.sqTS s h)
    rw [ew] at this
    cases this
    exact Or.inl ⟨y.1, rw'⟩
theorem walk_strD (z : Str) : WalkD K Γ F ι (Its z) (strL z) := by
  have hl : (strL z).length = z.cps.size := by simp [strL]
  refine ⟨fun i H hi s => ?_, fun H s => ?_, fun i H v H' d s y e => ?_⟩
  · rw [hl] at hi; exact hi
  · rw [hl]; exact Nat.le_refl _
  · obtain ⟨rfl, c, ec, rfl⟩ := y
    refine Or.inl ⟨rfl, ?_⟩
    unfold strL at e
    rw [List.getElem?_map, Array.getElem?_toList, ec] at e
    cases e
    exact .str _
theorem RpK.getK : ∀ {kvs : List (Key × V)} {es : List (Key × D)}, RpK K Γ F ι kvs es → ∀ {i : Nat} {k : Key} {v : V}, kvs[i]? = some (k, v) → ∃ d, es[i]? = some (k, d) ∧ Rp K Γ F ι v d
  | _, _, .nil, i, k, v, e => by simp at e
  | _, _, .cons h g, 0, k, v, e => by cases e; exact ⟨_, rfl, h⟩
  | _, _, .cons h g, i + 1, k, v, e => by
    obtain ⟨d, e1, r⟩ := RpK.getK g (i := i) (k := k) (v := v) e
    exact ⟨d, e1, r⟩
theorem key_rp (k : Key) : Rp K Γ F ι (kV k) (kD k) := by
  cases k with
  | inl i => exact .int i
  | inr x => exact .str x
theorem walk_keysD {o : Obj} {kvs : List (Key × V)} {es : List (Key × D)} (h : F a = some (.frz o (.dK kvs))) (g : RpK K Γ F [] kvs es) : WalkD K Γ F ι (Itk a o kvs) (es.map fun kv => kD kv.1) := by
  have hl : (es.map fun kv => kD kv.1).length = kvs.length := by rw [List.length_map, g.length]
  refine ⟨fun i H hi s => ⟨s _ _ h, by rw [← hl]; exact hi⟩, fun H s => ⟨s _ _ h, by rw [hl]; exact Nat.le_refl _⟩, fun i H v H' d s y e => ?_⟩
  obtain ⟨rfl, k, w, ek, rfl⟩ := y
  obtain ⟨d', e1, _⟩ := g.getK ek
  rw [List.getElem?_map, e1] at e
  cases e
  exact Or.inl ⟨rfl, key_rp k⟩
theorem gi_any (h : Gd K Γ W tl φ) : GI K Γ W (iAny K tl) (itD φ) := by
  intro σ H R G F ι s ds hs hr hp
  refine h.step hs hr hp fun x s1 v H1 F1 ι1 x1 r1 q1 hs1 hp1 => ?_
  try dsimp only at hp1
  unfold itemsD at hp1
  split at hp1
  · cases q1 with
    | lst e g => exact Or.inl ⟨_, _, rfl, SqL.of (r1.sub _ _ e), hp1 _ _ _ _ Ext.refl r1 (walk_lst e g)⟩
  · cases q1 with
    | tup e g => exact Or.inr (Or.inl ⟨_, _, rfl, Gl.sqTS r1.sub e.sq, hp1 _ _ _ _ Ext.refl r1 (walk_tupD e.sq g)⟩)
  · cases q1
    exact Or.inr (Or.inr (Or.inl ⟨_, rfl, hp1 _ _ _ _ Ext.refl r1 (walk_strD _)⟩))
  · cases q1 with
    | dK e g => exact Or.inr (Or.inr (Or.inr ⟨_, _, _, rfl, r1.sub _ _ e, hp1 _ _ _ _ Ext.refl r1 (walk_keysD e g)⟩))
  · exact hp1.elim
theorem di_any (h : DE X K Γ W l tl φ) (hK : X.K = K := by rfl) : DI X K Γ W tg l (iAny K tl) (itD φ) := ⟨pi_any hK h.pe, gi_any h.gd⟩
/-! range -/
def rngL (lo : Int) (n : Nat) : List D := (List.range n).map fun i => .int (lo + (i : Nat))
def rng1D (ψ : FA) : FA := bindX ψ fun _ xs s => match xs with
  | [.int j] => if (decide (-(2 ^ 62) ≤ j) && decide (j < 2 ^ 62)) = true then .ok (rngL 0 j.toNat) s else .bad
  | _ => .bad
theorem walk_rng (lo : Int) (n : Nat) : WalkD K Γ F ι (Itr lo n) (rngL lo n) := by
  have hl : (rngL lo n).length = n := by simp [rngL]
  refine ⟨fun i H hi s => ?_, fun H s => ?_, fun i H v H' d s y e => ?_⟩
  · rw [hl] at hi; exact hi
  · rw [hl]; exact Nat.le_refl _
  · obtain ⟨rfl, rfl⟩ := y
    refine Or.inl ⟨rfl, ?_⟩
    have hi : i < n := by have := (List.getElem?_eq_some_iff.mp e).1; rw [hl] at this; exact this
    unfold rngL at e
    rw [List.getElem?_map, List.getElem?_range hi] at e
    cases e
    exact .int _
theorem di_range1 {a : Expr} {ta : TA} {ψ : FA} {p pos : Pos} (hg : L2.Gl X "range") (hm : X.mg "range" = none) (ha : DA X K Γ W [a] ta ψ) (hs : starEach [a] X.env = [(false, eval a X.env)] := by rfl) : DI X K Γ W tg (.Call (.Name "range" p) [a] [] pos) (iRng1 ta) (rng1D ψ) := by
  refine ⟨pi_range1 hg hm ha.pa hs, fun σ H R G F ι s ds hs hr hp => ha.gd.step hs hr hp fun xs s1 vs H1 F1 ι1 x1 r1 q1 hs1 hp1 => ?_⟩
  try dsimp only at hp1
  split at hp1
  · obtain ⟨v, rfl, gx⟩ := one_rp q1
    cases gx
    split at hp1
    · rename_i hc
      simp only [Bool.and_eq_true, decide_eq_true_eq] at hc
      exact ⟨_, rfl, hc.1, hc.2, hp1 _ _ _ _ Ext.refl r1 (walk_rng _ _)⟩
    · exact hp1.elim
  · exact hp1.elim
end
/-! ### for -/
def forGo (γ : FG) (body : FS) : List D → DSt → Sto → SOut
  | [], ds, s => .nx ds s
  | x :: r, ds, s => match γ x ds with
    | none => .bad
    | some ds1 => match body ds1 s with
      | .nx ds2 s2 => forGo γ body r ds2 s2
      | .ct ds2 s2 => forGo γ body r ds2 s2
      | .bk ds2 s2 => .nx ds2 s2
      | o => o
def forS (η : FA) (γ : FG) (body : FS) : FS := fun ds s => bindS (η ds s) ds fun xs s => forGo γ body xs ds s
theorem Rel.item {K : PySem.W.Frag} {Γ : Gam} {G F H H' : Hp} {ι : List Addr} {s : Sto} {J : It} {xs : List D} {i : Nat} {v : V} {d : D} (r : Rel K Γ G F H ι s) (w : WalkD K Γ F ι J xs) (y : J.yld i H v H') (e : xs[i]? = some d) :
    ∃ F', Ext F ι F' ι ∧ Rel K Γ G F' H' ι s ∧ Rp K Γ F' ι v d := by
  rcases w.yields i H v H' d r.sub y e with ⟨rfl, h2⟩ | ⟨T, vs, ds, rfl, h2, rfl, h4, rfl⟩ | ⟨T, vs, ds, rfl, ⟨h2, rfl⟩ | ⟨h2, rfl⟩, h4, hd⟩ | ⟨T1, T2, vs, ds, k, rfl, h2, h3, rfl, h4, rfl⟩
  · exact ⟨F, Ext.refl, r, h2.up⟩
  · obtain ⟨r2, x2⟩ := r.new (o := .tup vs) h2
    exact ⟨_, x2, r2, .tup (TupF.of upd_same) (h4.ext x2.nil)⟩
  · obtain ⟨F', x2, r2, e2⟩ := r.learn h2
    rcases hd with rfl | rfl
    · exact ⟨_, x2, r2, .tup (TupF.of e2) (h4.ext x2.nil)⟩
    · exact ⟨_, x2, r2, .ptp e2 (h4.ext x2.nil)⟩
  · obtain ⟨r2, x2⟩ := r.new (o := .tup vs) h2
    rcases hd with rfl | rfl
    · exact ⟨_, x2, r2, .tup (TupF.of upd_same) (h4.ext x2.nil)⟩
    · exact ⟨_, x2, r2, .ptp upd_same (h4.ext x2.nil)⟩
  · obtain ⟨r2, x2⟩ := r.new (o := .tup vs) h2
    obtain ⟨r3, x3⟩ := r2.new (o := .tup [.int k, .ref T1]) h3
    exact ⟨_, x2.trans x3, r3, .tup (TupF.of upd_same) (.cons (.int _) (.cons (.ptp (x3.same _ _ upd_same) (h4.ext (x2.trans x3).nil)) .nil))⟩
section
variable {X : Cx} {K : PySem.W.Frag} {Γ : Gam} {W : WX} {pos : Pos} {tg iter : Expr} {wi : TI} {η : FA} {g : TG} {γ : FG} {sl : List Nat} {body : List Stmt} {tb : TS} {ψ : FS}
theorem gs_for (hi : GI K Γ W wi η) (hg : GG K Γ sl g γ) (hb : GS K Γ W tb ψ) : GS K Γ W (tFor wi g tb) (forS η γ ψ) := by
  intro E σ H G F ι s ds hs hr hp
  refine hi.stepS hs hr hp fun xs s1 J H1 F1 ι1 x1 r1 w1 hs1 hp1 => ?_
  refine ⟨fun i m σ' H' => m + i = xs.length ∧ ∃ F' ι' s' ds', Ext F1 ι1 F' ι' ∧ RS K Γ F' ι' σ' ds' ∧ Rel K Γ G F' H' ι' s' ∧ PostS K Γ W G F' ι' E (forGo γ ψ (xs.drop i) ds' s'), ⟨xs.length, rfl, F1, ι1, s1, ds, Ext.refl, hs1, r1, hp1⟩, ?_⟩
  rintro i m σ' H' ⟨hm, F', ι', s', ds', x', rs', r', p'⟩
  have w' := w1.ext x'
  by_cases hlt : i < xs.length
  · have e : xs[i]? = some xs[i] := by simp [hlt]
    rw [List.drop_eq_getElem_cons hlt] at p'
    refine Or.inr ⟨w'.goes i H' hlt r'.sub, fun σ2 H2 => ∃ F' ι' s' ds', Ext F1 ι1 F' ι' ∧ RS K Γ F' ι' σ2 ds' ∧ Rel K Γ G F' H2 ι' s' ∧ PostS K Γ W G F' ι' E (forGo γ ψ (xs.drop (i + 1)) ds' s'), fun σ2 H2 q => ⟨m - 1, by omega, by omega, q⟩, fun v H2 y => ?_⟩
    obtain ⟨F2, x2, r2, rp2⟩ := r'.item w' y e
    unfold forGo at p'
    cases eg : γ xs[i] ds' with
    | none => rw [eg] at p'; exact p'.elim
    | some ds1 =>
      rw [eg] at p'
      dsimp only at p'
      refine hg v _ σ' H2 _ G F2 ι' s' ds' ds1 (rs'.ext x2) r2 rp2 eg fun σ3 rs3 _ => ?_
      refine hb _ σ3 H2 G F2 ι' s' ds1 rs3 r2 ?_
      cases eb : ψ ds1 s' with
      | nx ds2 s2 =>
        rw [eb] at p'
        exact fun σ4 H4 F4 ι4 x4 rs4 r4 => ⟨F4, ι4, s2, ds2, (x'.trans x2).trans x4, rs4, r4, (p'.ext x2).ext x4⟩
      | ct ds2 s2 =>
        rw [eb] at p'
        exact fun σ4 H4 F4 ι4 x4 rs4 r4 => ⟨F4, ι4, s2, ds2, (x'.trans x2).trans x4, rs4, r4, (p'.ext x2).ext x4⟩
      | bk ds2 s2 =>
        rw [eb] at p'
        exact fun σ4 H4 F4 ι4 x4 rs4 r4 => p' σ4 H4 F4 ι4 (x2.trans x4) rs4 r4
      | rt d s2 =>
        rw [eb] at p'
        exact fun v4 H4 F4 ι4 x4 r4 q4 => p' v4 H4 F4 ι4 (x2.trans x4) r4 q4
      | err c p ds2 s2 =>
        rw [eb] at p'
        exact fun dd σ4 H4 F4 ι4 x4 rs4 r4 q4 => p' dd σ4 H4 F4 ι4 (x2.trans x4) rs4 r4 q4
      | bad => rw [eb] at p'; exact p'
  · have hi : i = xs.length := by omega
    subst hi
    rw [List.drop_length] at p'
    exact Or.inl ⟨w'.stops H' r'.sub, p' σ' H' F' ι' Ext.refl rs' r'⟩
theorem ds_for (hp : PassesOwn (model X.prog X.w) X.A X.env X.xe) (hc : X.calm = true) (hi : DI X K Γ W tg iter wi η) (hg : DG X K Γ sl tg g γ) (hb : DSs X K Γ W body tb ψ) (hs : ∀ x, foldedSetIterable iter X.env x = pure x := by intro _; rfl) :
    DS X K Γ W (.For tg iter body [] pos) (tFor wi g tb) (forS η γ ψ) := ⟨ps_for hp hc hi.pi hg.pg hb.ps hs, gs_for hi.gd hg.gd hb.gd⟩
/-! while -/
end
end Md

set_option Elab.async false
set_option maxRecDepth 100000
set_option maxHeartbeats 4000000
set_option linter.all false
/-! the mirror layer: comprehensions, defs, calls -/
namespace Md
open PySem PySem.Spec PyProof.Rows L2
/-! ### list comprehensions -/
def wipeD (ds : DSt) : List Nat → DSt
  | [] => ds
  | v :: vs => (wipeD ds vs).set v none
/-- nothing is raised -/
def nb {α : Type} : Out α → Out α
  | .err _ _ _ => .bad
  | o => o
def lcGo (γ : FG) (μ : FT) (φ : FE) (ds : DSt) : List D → Sto → Out (List D)
  | [], s => .ok [] s
  | x :: r, s => match γ x ds with
    | none => .bad
    | some ds1 => (nb (μ ds1 s)).bind fun c s1 => match c with
      | true => (nb (φ ds1 s1)).bind fun y s2 => if nc y = true then (lcGo γ μ φ ds r s2).bind fun ys s3 => .ok (y :: ys) s3 else .bad
      | false => lcGo γ μ φ ds r s1
def lcA (η : FA) (γ : FG) (μ : FT) (φ : FE) (vs : List Nat) : FA := bindX η fun ds xs s => if xs.length < sizeLine then lcGo γ μ φ (wipeD ds vs) xs s else .bad
def lcD (η : FA) (γ : FG) (μ : FT) (φ : FE) (vs : List Nat) : FE := bindX (lcA η γ μ φ vs) fun _ ys s => .ok (.lst ys) s
def lcC (η : FA) (γ : FG) (μ : FT) (φ : FE) (vs : List Nat) : FE := bindX (lcA η γ μ φ vs) fun _ ys s => .ok (.cell s.length) (s ++ [.lst ys])
def yesD : FT := fun _ s => .ok true s
section
variable {K : PySem.W.Frag} {Γ : Gam} {W : WX} {F : Hp} {ι : List Addr} {σ : L2.St} {ds : DSt}
theorem RS.wipe (h : RS K Γ F ι σ ds) : ∀ vs : List Nat, RS K Γ F ι (L2.wipe σ vs) (wipeD ds vs)
  | [] => h
  | v :: vs => by
    have ih := RS.wipe h vs
    refine ⟨by unfold L2.wipe wipeD; rw [List.length_set, List.length_set]; exact ih.1, fun i d e => ?_⟩
    unfold wipeD at e
    unfold L2.wipe
    by_cases hi : v = i
    · subst hi
      by_cases hv : v < (wipeD ds vs).length
      · rw [List.getElem?_set_self hv] at e; cases e
      · rw [List.getElem?_eq_none (by rw [List.length_set]; omega)] at e; cases e
    · rw [List.getElem?_set_ne hi] at e ⊢
      exact ih.2 i d e
theorem wipe_ge : ∀ (σ : L2.St) (vs : List Nat) (i : Nat), i ∉ vs → (L2.wipe σ vs)[i]? = σ[i]?
  | _, [], _, _ => rfl
  | σ, v :: vs, i, h => by
    unfold L2.wipe
    rw [List.mem_cons, not_or] at h
    rw [List.getElem?_set_ne (Ne.symm h.1)]
    exact wipe_ge σ vs i h.2
theorem wipe_in : ∀ (σ : L2.St) (vs : List Nat) (i : Nat), i ∈ vs → i < σ.length → (L2.wipe σ vs)[i]? = some none
  | _, [], _, h, _ => by cases h
  | σ, v :: vs, i, h, hl => by
    unfold L2.wipe
    by_cases e : v = i
    · subst e
      rw [List.getElem?_set_self (by rw [wipe_length]; exact hl)]
    · rw [List.getElem?_set_ne e]
      rcases List.mem_cons.mp h with h | h
      · exact absurd h.symm e
      · exact wipe_in σ vs i h hl
theorem wipe_eq {σ' : L2.St} {vs sl : List Nat} (h : Outside sl (L2.wipe σ vs) σ') (hsub : ∀ i ∈ sl, i ∈ vs) : L2.wipe σ' vs = L2.wipe σ vs := by
  have hl : σ'.length = σ.length := by rw [h.1, wipe_length]
  refine List.ext_getElem? fun i => ?_
  by_cases hi : i ∈ vs
  · by_cases hb : i < σ.length
    · rw [wipe_in σ' vs i hi (by rw [hl]; exact hb), wipe_in σ vs i hi hb]
    · rw [List.getElem?_eq_none (by rw [wipe_length, hl]; omega), List.getElem?_eq_none (by rw [wipe_length]; omega)]
  · rw [wipe_ge σ' vs i hi, h.2 i fun z => hi (hsub i z)]
end
section
variable {X : Cx} {K : PySem.W.Frag} {Γ : Gam} {W : WX} {pos : Pos} {tg iter elt : Expr} {ifs : List Expr} {wi : TI} {η : FA} {g : TG} {γ : FG} {sl : List Nat} {tt : TT} {μ : FT} {te : TE} {φ : FE} {vs : List Nat}
abbrev W0 : WX := fun _ _ _ _ => False
structure DTs (X : Cx) (K : PySem.W.Frag) (Γ : Gam) (W : WX) (es : List Expr) (t : TT) (φ : FT) : Prop where
  pt : PTs X es t
  gd : Gt K Γ W t φ
theorem dts_nil : DTs X K Γ W [] tYes yesD := ⟨pts_nil, fun σ H Q G F ι s ds hs hr hp => hp _ _ _ _ Ext.refl hr rfl⟩
/-- what a comprehension leaves: the new list at a new place -/
theorem gd_lcX {Q' : V → Hp → Prop} {σ : L2.St} {H G F : Hp} {ι : List Addr} {s : Sto} {ds : DSt} {o : Out D} (k : List D → Sto → Out D) (hi : GI K Γ W wi η) (hg : GG K Γ sl g γ) (ht : Gt K Γ W0 tt μ) (he : Gd K Γ W0 te φ) (hsub : ∀ i ∈ sl, i ∈ vs)
    (hs : RS K Γ F ι σ ds) (hr : Rel K Γ G F H ι s) (hp : Post K Γ W σ G F ι (RV K Γ) Q' ((lcA η γ μ φ vs ds s).bind k))
    (fin : ∀ p xs ys H1 F1 ι1 s1, Ext F ι F1 ι1 → Rel K Γ G F1 H1 ι1 s1 → H1 p = none → RpA K Γ F1 [] xs ys → Post K Γ W σ G F1 ι1 (RV K Γ) Q' (k ys s1) → Q' (.ref p) (upd H1 p (.lst xs))) : tLc wi g tt te vs σ H Q' := by
  have hp2 : Post K Γ W σ G F ι (RV K Γ) Q' ((η ds s).bind fun xs s => (if xs.length < sizeLine then lcGo γ μ φ (wipeD ds vs) xs s else .bad).bind k) := by
    unfold lcA bindX at hp
    cases e : η ds s with
    | ok xs s1 => rw [e] at hp; exact hp
    | err c p s1 => rw [e] at hp; exact hp
    | bad => rw [e] at hp; exact hp
  refine hi.step hs hr hp2 fun xs s1 J H1 F1 ι1 x1 r1 w1 hs1 hp1 => ?_
  intro Dd hD
  by_cases hz : xs.length < sizeLine
  rotate_left
  · rw [if_neg hz] at hp1; exact hp1.elim
  rw [if_pos hz] at hp1
  have rsw := hs1.wipe vs
  -- at turn i: acc made so far
  refine ⟨fun i m H' => m + i = xs.length ∧ ∃ F' ι' s' acc ys, Ext F1 ι1 F' ι' ∧ ys.length ≤ i ∧ H' Dd = some (.lst acc) ∧ RpA K Γ F' [] acc ys ∧ (∃ H0, H0 Dd = none ∧ H' = upd H0 Dd (.lst acc) ∧ Rel K Γ G F' H0 ι' s') ∧
    Post K Γ W σ G F' ι' (RV K Γ) Q' ((lcGo γ μ φ (wipeD ds vs) (xs.drop i) s').bind fun r s2 => k (ys ++ r) s2),
    ⟨xs.length, rfl, F1, ι1, s1, [], [], Ext.refl, Nat.le_refl _, upd_same, .nil, ⟨H1, hD, rfl, r1⟩, by simpa using hp1⟩, ?_⟩
  rintro i m H' ⟨hm, F', ι', s', acc, ys, x', hy, eD, ra, ⟨H0, n0, rfl, r0⟩, p'⟩
  have w' := w1.ext x'
  -- the list stands aside
  have nG : G Dd = none := same_newF r0.aside n0
  have ra' : Rel K Γ (upd G Dd (.lst acc)) F' (upd H0 Dd (.lst acc)) ι' s' := r0.put n0
  have back : ∀ {F2 H2 : Hp} {ι2 : List Addr} {s2 : Sto}, Rel K Γ (upd G Dd (.lst acc)) F2 H2 ι2 s2 → ∃ H3, H3 Dd = none ∧ (∀ o, upd H3 Dd o = upd H2 Dd o) ∧ Rel K Γ G F2 H3 ι2 s2 ∧ H2 Dd = some (.lst acc) :=
    fun r2 => r2.back nG (fun b z => nomatch z) (fun z => nomatch z)
  by_cases hlt : i < xs.length
  · have e : xs[i]? = some xs[i] := by simp [hlt]
    rw [List.drop_eq_getElem_cons hlt] at p'
    refine Or.inr ⟨w'.goes i _ hlt ra'.sub, fun H2 => ∃ F' ι' s' acc ys, Ext F1 ι1 F' ι' ∧ ys.length ≤ i + 1 ∧ H2 Dd = some (.lst acc) ∧ RpA K Γ F' [] acc ys ∧ (∃ H0, H0 Dd = none ∧ H2 = upd H0 Dd (.lst acc) ∧ Rel K Γ G F' H0 ι' s') ∧
      Post K Γ W σ G F' ι' (RV K Γ) Q' ((lcGo γ μ φ (wipeD ds vs) (xs.drop (i + 1)) s').bind fun r s2 => k (ys ++ r) s2), fun H2 q => ⟨m - 1, by omega, by omega, q⟩, fun v H2 y => ?_⟩
    obtain ⟨F2, x2, r2, rp2⟩ := ra'.item w' y e
    unfold lcGo at p'
    cases eg : γ xs[i] (wipeD ds vs) with
    | none => rw [eg] at p'; exact p'.elim
    | some ds1 =>
      rw [eg] at p'
      dsimp only at p'
      refine hg v _ _ H2 _ _ F2 ι' s' _ ds1 ((rsw.ext x').ext x2) r2 rp2 eg fun σ3 rs3 o3 => ⟨wipe_eq o3 hsub, ?_⟩
      refine ht σ3 H2 _ _ F2 ι' s' ds1 rs3 r2 ?_
      cases em : μ ds1 s' with
      | bad => rw [em] at p'; exact p'
      | err c p s3 => rw [em] at p'; exact p'.elim
      | ok c s3 =>
        rw [em] at p'
        intro c' H3 F3 ι3 x3 r3 q3
        cases (show c' = c from q3)
        have p3 := (p'.ext x2).ext x3
        cases c with
        | false =>
          obtain ⟨H5, n5, up5, r5, e5⟩ := back r3
          refine iteF ⟨F3, ι3, s3, acc, ys, (x'.trans x2).trans x3, by omega, e5, ra.ext (x2.trans x3).nil, ⟨H5, n5, ?_, r5⟩, p3⟩
          rw [up5]
          funext b
          by_cases h : b = Dd
          · rw [h, upd_same]; exact e5
          · rw [upd_ne h]
        | true =>
          refine iteT (he σ3 H3 _ _ F3 ι3 s3 ds1 (rs3.ext x3) r3 ?_)
          change Post K Γ W σ G F3 ι3 (RV K Γ) Q' (((nb (φ ds1 s3)).bind fun y s2 => if nc y = true then (lcGo γ μ φ (wipeD ds vs) (xs.drop (i + 1)) s2).bind fun ys s3 => .ok (y :: ys) s3 else .bad).bind fun r s2 => k (ys ++ r) s2) at p3
          cases ee : φ ds1 s3 with
          | bad => rw [ee] at p3; exact p3
          | err c p s4 => rw [ee] at p3; exact p3.elim
          | ok y4 s4 =>
            rw [ee] at p3
            intro v4 H4 F4 ι4 x4 r4 q4
            change Post K Γ W σ G F3 ι3 (RV K Γ) Q' ((if nc y4 = true then (lcGo γ μ φ (wipeD ds vs) (xs.drop (i + 1)) s4).bind fun ys s3 => .ok (y4 :: ys) s3 else .bad).bind fun r s2 => k (ys ++ r) s2) at p3
            by_cases hn : nc y4 = true
            rotate_left
            · rw [if_neg hn] at p3; exact p3.elim
            rw [if_pos hn] at p3
            obtain ⟨H5, n5, up5, r5, e5⟩ := back r4
            have hl : acc.length = ys.length := ra.length
            refine ⟨acc, e5, by omega, F4, ι4, s4, acc ++ [v4], ys ++ [y4], ((x'.trans x2).trans x3).trans x4, by rw [List.length_append]; show ys.length + 1 ≤ i + 1; omega, upd_same, (ra.ext ((x2.trans x3).trans x4).nil).append (.cons (q4.fz hn) .nil), ⟨H5, n5, (up5 _).symm, r5⟩, ?_⟩
            have p4 := p3.ext x4
            have ea : ∀ o : Out (List D), (o.bind fun r s2 => k (ys ++ [y4] ++ r) s2) = ((o.bind fun ys s3 => Out.ok (y4 :: ys) s3).bind fun r s2 => k (ys ++ r) s2) := by
              intro o
              cases o with
              | ok r s5 => show k (ys ++ [y4] ++ r) s5 = k (ys ++ y4 :: r) s5; rw [List.append_assoc]; rfl
              | err c p s5 => rfl
              | bad => rfl
            rw [ea]
            exact p4
  · have hi : i = xs.length := by omega
    subst hi
    rw [List.drop_length] at p'
    refine Or.inl ⟨w'.stops _ ra'.sub, ?_⟩
    have p2 : Post K Γ W σ G F' ι' (RV K Γ) Q' (k ys s') := by
      have : ((lcGo γ μ φ (wipeD ds vs) [] s').bind fun r s2 => k (ys ++ r) s2) = k ys s' := by
        show k (ys ++ []) s' = k ys s'
        rw [List.append_nil]
      rw [this] at p'
      exact p'
    exact fin Dd acc ys H0 F' ι' s' (x1.trans x') r0 n0 ra p2
end
end Md

set_option Elab.async false
set_option maxRecDepth 100000
set_option maxHeartbeats 4000000
set_option linter.all false
/-! the mirror layer: the rules of comprehensions; defs and calls -/
namespace Md
open PySem PySem.Spec PyProof.Rows L2
section
variable {X : Cx} {K : PySem.W.Frag} {Γ : Gam} {W : WX} {pos : Pos} {tg iter elt : Expr} {ifs : List Expr} {wi : TI} {η : FA} {g : TG} {γ : FG} {sl : List Nat} {tt : TT} {μ : FT} {te : TE} {φ : FE} {own : List (Str × Nat)} {scope : Scope}
theorem gd_lc {vs : List Nat} (hi : GI K Γ W wi η) (hg : GG K Γ sl g γ) (ht : Gt K Γ W0 tt μ) (he : Gd K Γ W0 te φ) (hsub : ∀ i ∈ sl, i ∈ vs) : Gd K Γ W (tLc wi g tt te vs) (lcD η γ μ φ vs) := by
  intro σ H Q G F ι s ds hs hr hp
  refine gd_lcX (o := .bad) (fun ys s => .ok (.lst ys) s) hi hg ht he hsub hs hr hp fun p xs ys H1 F1 ι1 s1 x1 r1 n1 ra hp1 => ?_
  obtain ⟨r2, x2⟩ := r1.new (o := .lst xs) n1
  exact hp1 _ _ _ _ x2 r2 (.lst upd_same (ra.ext x2.nil))
/-- the block's parts, in every block -/
abbrev InBlk (X : Cx) (scope : Scope) (J : Cx → Prop) : Prop := ∀ (s : Shared) (H : Hp) (C : Addr) (cl : List (Str × Addr)) (fp : List Addr), J (X.blk s H scope (compEnvC scope cl C X.env) fp)
theorem InBlk.one {J : Cx → Prop} (h : InBlk X scope J) : ∃ Y, J Y := ⟨_, h X.s_0 X.H_0 0 [] []⟩
theorem de_lc (hc : X.calm = true) (hN : X.N.Nodup) (hi : DI X K Γ W tg iter wi η) (ok : BlkOk X.N X.env.scope scope own) (hg : InBlk X scope fun Y => DG Y K Γ sl tg g γ) (ht : InBlk X scope fun Y => DTs Y K Γ W0 ifs tt μ) (he : InBlk X scope fun Y => DE Y K Γ W0 elt te φ)
    (hsub : ∀ i ∈ sl, i ∈ own.map (·.2) := by decide) (hs : ∀ x, foldedSetIterable iter X.env x = pure x := by intro _; rfl) : DE X K Γ W (.ListComp elt [⟨tg, iter, ifs, 0⟩] scope pos) (tLc wi g tt te (own.map (·.2))) (lcD η γ μ φ (own.map (·.2))) := by
  obtain ⟨_, g1⟩ := hg.one
  obtain ⟨_, t1⟩ := ht.one
  obtain ⟨_, e1⟩ := he.one
  exact ⟨pe_lc hc hN hi.pi ok (fun a b c d e => (hg a b c d e).pg) (fun a b c d e => (ht a b c d e).pt) (fun a b c d e => (he a b c d e).pe) hs, gd_lc hi.gd g1.gd t1.gd e1.gd hsub⟩
/-- y = [..] -/
theorem ds_setLc {i : Nat} {y : Str} {py spos : Pos} (hc : X.calm = true) (hN : X.N.Nodup) (hy : X.N[i]? = some y) (hyl : X.env.scope.names.lookup y = some .local) (hsw : swapsWith (.ListComp elt [⟨tg, iter, ifs, 0⟩] scope pos) (some (.Name y py)) spos.line X.env = pure true)
    (hi : DI X K Γ W tg iter wi η) (ok : BlkOk X.N X.env.scope scope own) (hg : InBlk X scope fun Y => DG Y K Γ sl tg g γ) (ht : InBlk X scope fun Y => DTs Y K Γ W0 ifs tt μ) (he : InBlk X scope fun Y => DE Y K Γ W0 elt te φ)
    (hsub : ∀ i ∈ sl, i ∈ own.map (·.2) := by decide) (hs : ∀ x, foldedSetIterable iter X.env x = pure x := by intro _; rfl) : DS X K Γ W (.Assign [.Name y py] (.ListComp elt [⟨tg, iter, ifs, 0⟩] scope pos) spos) (tAsg (tLc wi g tt te (own.map (·.2))) (gName i)) (asgS (lcD η γ μ φ (own.map (·.2))) (nameG i)) := by
  obtain ⟨_, g1⟩ := hg.one
  obtain ⟨_, t1⟩ := ht.one
  obtain ⟨_, e1⟩ := he.one
  exact ⟨ps_setLc hc hN hy hyl hsw hi.pi ok (fun a b c d e => (hg a b c d e).pg) (fun a b c d e => (ht a b c d e).pt) (fun a b c d e => (he a b c d e).pe) hs, gs_asg (gd_lc hi.gd g1.gd t1.gd e1.gd hsub) gg_name⟩
end
/-! ### defs -/
/-- a def's promise by its meaning -/
def spD (K : PySem.W.Frag) (Γ : Gam) (m : Fn) : Sp := fun vs H Q E =>
  ∃ G F ι s ds, RpA K Γ F ι vs ds ∧ Rel K Γ G F H ι s ∧ Post K Γ (fun c d _ H => E c d H) [] G F ι (RV K Γ) Q (m ds s)
/-! the cells that a def has made go with it -/
def belowD (n : Nat) : D → Bool
  | .cell m => decide (m < n)
  | _ => true
def belowO (n : Nat) : Option D → Bool
  | some d => belowD n d
  | none => true
def belowC (n : Nat) : Cl → Bool
  | .ins _ fs => fs.all (belowO n)
  | .dic kvs => kvs.all fun kv => belowD n kv.2
  | .obj _ fs => fs.all fun kv => belowD n kv.2
  | .dct kvs => kvs.all fun kv => belowD n kv.2
  | .dcn kvs => kvs.all fun kv => belowD n kv.2
  | _ => true
def okS (n : Nat) (s : Sto) : Bool := s.all (belowC n)
def trimS (n : Nat) (tops : List D) (s : Sto) : Sto := if s.length ≤ n then s else if (tops.all (belowD n) && okS n (s.take n)) = true then s.take n else s
def payD : Option (Str × D) → List D
  | some (_, d) => [d]
  | none => []
def trimO (n : Nat) : Out D → Out D
  | .ok d s => .ok d (trimS n [d] s)
  | .err c p s => .err c p (trimS n (payD p) s)
  | .bad => .bad
section
variable {K : PySem.W.Frag} {Γ : Gam} {W : WX} {σ : L2.St} {G F H : Hp} {ι : List Addr} {s : Sto}
theorem Rp.trim {n : Nat} {v : V} {d : D} (h : Rp K Γ F ι v d) (hb : belowD n d = true) : Rp K Γ F (ι.take n) v d := by
  cases h with
  | cell e => exact .cell (by rw [List.getElem?_take_of_lt (of_decide_eq_true hb)]; exact e)
  | non => exact .non
  | bl b => exact .bl b
  | int i => exact .int i
  | str z => exact .str z
  | lst h g => exact .lst h g
  | scr h => exact .scr h
  | tup h g => exact .tup h g
  | ktp k h g => exact .ktp k h g
  | cls c => exact .cls c
  | dK h g => exact .dK h g
  | ins h k g => exact .ins h k g
  | raw v => exact .raw v
  | dT h g => exact .dT h g
  | ptp h g => exact .ptp h g
  | exc h k g => exact .exc h k g
theorem RpK.trim {n : Nat} : ∀ {vs : List (Key × V)} {ds : List (Key × D)}, RpK K Γ F ι vs ds → (ds.all fun kv => belowD n kv.2) = true → RpK K Γ F (ι.take n) vs ds
  | _, _, .nil, _ => .nil
  | _, _, .cons h g, hb => by
    rw [List.all_cons, Bool.and_eq_true] at hb
    exact .cons (h.trim hb.1) (RpK.trim g hb.2)
theorem RpF.trim {n : Nat} : ∀ {vs : List (Str × V)} {ds : List (Str × D)}, RpF K Γ F ι vs ds → (ds.all fun kv => belowD n kv.2) = true → RpF K Γ F (ι.take n) vs ds
  | _, _, .nil, _ => .nil
  | _, _, .cons h g, hb => by
    rw [List.all_cons, Bool.and_eq_true] at hb
    exact .cons (h.trim hb.1) (RpF.trim g hb.2)
theorem RpT.trim {n : Nat} : ∀ {vs : List (List Key × V)} {ds : List (List Key × D)}, RpT K Γ F ι vs ds → (ds.all fun kv => belowD n kv.2) = true → RpT K Γ F (ι.take n) vs ds
  | _, _, .nil, _ => .nil
  | _, _, .cons h g, hb => by
    rw [List.all_cons, Bool.and_eq_true] at hb
    exact .cons (h.trim hb.1) (RpT.trim g hb.2)
theorem RpN.trim {n : Nat} : ∀ {vs : List RowN} {ds : List (PySem.NestedKey × D)}, RpN K Γ F ι vs ds → (ds.all fun kv => belowD n kv.2) = true → RpN K Γ F (ι.take n) vs ds
  | _, _, .nil, _ => .nil
  | _, _, .cons k l h g, hb => by
    rw [List.all_cons, Bool.and_eq_true] at hb
    exact .cons k l (h.trim hb.1) (RpN.trim g hb.2)
theorem Rel.trim {n : Nat} (r : Rel K Γ G F H ι s) (h : okS n (s.take n) = true) : Rel K Γ G F H (ι.take n) (s.take n) := by
  refine ⟨r.sub, r.aside, r.apart, r.nd.sublist (List.take_sublist _ _), by rw [List.length_take, List.length_take, r.len], fun a ha => r.free a (List.mem_of_mem_take ha), fun m c a e1 e2 => ?_, r.rest.less fun a ha => List.mem_of_mem_take ha⟩
  have hm : m < n := by have := (List.getElem?_eq_some_iff.mp e1).1; rw [List.length_take] at this; omega
  have hc : belowC n c = true := by
    unfold okS at h
    exact List.all_eq_true.mp h c (List.mem_of_getElem? e1)
  rw [List.getElem?_take_of_lt hm] at e1 e2
  have ck := r.at_ m c a e1 e2
  cases c with
  | dead => trivial
  | lst es => exact ck
  | dic es =>
    obtain ⟨n1, vs, e3, g3⟩ := ck
    exact ⟨n1, vs, e3, g3.trim hc⟩
  | ins cc fs =>
    obtain ⟨n1, dx, vs, i1, rf⟩ := ck
    refine ⟨n1, dx, vs, i1, fun j d e => ?_⟩
    obtain ⟨v, ev, rv⟩ := rf j d e
    have hb := List.all_eq_true.mp hc (some d) (List.mem_of_getElem? e)
    exact ⟨v, ev, rv.trim hb⟩
  | obj cc fs =>
    obtain ⟨n1, dx, vs, e3, g3⟩ := ck
    exact ⟨n1, dx, vs, e3, g3.trim hc⟩
  | dct es =>
    obtain ⟨n1, vs, e3, g3⟩ := ck
    exact ⟨n1, vs, e3, g3.trim hc⟩
  | dcn es =>
    obtain ⟨n1, vs, e3, g3⟩ := ck
    exact ⟨n1, vs, e3, g3.trim hc⟩
theorem Ext.trim {F' : Hp} {ι' : List Addr} (x : Ext F ι F' ι') : Ext F ι F' (ι'.take ι.length) :=
  ⟨x.same, fun m a e => by rw [List.getElem?_take_of_lt (List.getElem?_eq_some_iff.mp e).1]; exact x.pre m a e⟩
theorem post_trim {Q : VK} {o : Out D} (h : Post K Γ W σ G F ι (RV K Γ) Q (trimO ι.length o)) : Post K Γ W σ G F ι (RV K Γ) Q o := by
  cases o with
  | bad => exact h
  | ok d s =>
    intro v H' F' ι' x r q
    have h' : ∀ v H' F' ι', Ext F ι F' ι' → Rel K Γ G F' H' ι' (trimS ι.length [d] s) → Rp K Γ F' ι' v d → Q v H' := h
    unfold trimS at h'
    split at h'
    · exact h' v H' F' ι' x r q
    · split at h'
      · rename_i hc
        rw [Bool.and_eq_true] at hc
        have hd := List.all_eq_true.mp hc.1 d (by simp)
        exact h' v H' F' _ x.trim (r.trim hc.2) (q.trim hd)
      · exact h' v H' F' ι' x r q
  | err c p s =>
    intro dd H' F' ι' x r q
    have h' : ∀ dd H' F' ι', Ext F ι F' ι' → Rel K Γ G F' H' ι' (trimS ι.length (payD p) s) → ErrAt K Γ F' H' ι' dd p → W (.ref (Γ c)) dd σ H' := h
    unfold trimS at h'
    split at h'
    · exact h' dd H' F' ι' x r q
    · split at h'
      · rename_i hc
        rw [Bool.and_eq_true] at hc
        refine h' dd H' F' _ x.trim (r.trim hc.2) ?_
        cases p with
        | none => exact q
        | some fd =>
          obtain ⟨f, d⟩ := fd
          obtain ⟨a, v, e1, e2, e3⟩ := q
          exact ⟨a, v, e1, e2, e3.trim (List.all_eq_true.mp hc.1 d (by simp [payD]))⟩
      · exact h' dd H' F' ι' x r q
end
def rawD (n : Nat) (ψ : FS) : Fn := fun ds s => match ψ (ds.map some ++ List.replicate n none) s with
  | .rt d s => .ok d s
  | .nx _ s => .ok .non s
  | .err c p _ s => .err c p s
  | _ => .bad
/-- np parameters, n more names -/
def bodyD (np n : Nat) (ψ : FS) : Fn := fun ds s => if ds.length = np then trimO s.length (rawD n ψ ds s) else .bad
def body0 (np n : Nat) (ψ : FS) : Fn := fun ds s => nb (bodyD np n ψ ds s)
section
variable {P : Program} {w : World} {K : PySem.W.Frag} {Γ : Gam} {mg : Str → Option Value} {base : Heap}
theorem rs_start {F : Hp} {ι : List Addr} {N : List Str} {vs : List V} {ds : List D} {n : Nat} (g : RpA K Γ F ι vs ds) (hn : N.length = ds.length + n) : RS K Γ F ι (L2.start N vs) (ds.map some ++ List.replicate n none) := by
  have hl := g.length
  unfold L2.start
  refine ⟨by rw [List.length_append, List.length_append, List.length_map, List.length_map, List.length_replicate, List.length_replicate, hl]; omega, fun i d e => ?_⟩
  by_cases hi : i < ds.length
  · rw [List.getElem?_append_left (by rw [List.length_map]; exact hi), List.getElem?_map] at e
    cases ed : ds[i]? with
    | none => rw [ed] at e; cases e
    | some d' =>
      rw [ed] at e
      cases e
      obtain ⟨v, ev, rv⟩ := g.get ed
      refine ⟨v, ?_, rv⟩
      rw [List.getElem?_append_left (by rw [List.length_map, hl]; exact hi), List.getElem?_map, ev]
      rfl
  · rw [List.getElem?_append_right (by rw [List.length_map]; omega), List.getElem?_replicate] at e
    split at e <;> cases e
theorem spD_len {m : Fn} {np : Nat} (hm : ∀ ds s, ds.length ≠ np → m ds s = .bad) {vs : List V} {H : Hp} {Q : VK} {E : XK} (h : spD K Γ m vs H Q E) : vs.length = np := by
  obtain ⟨G, F, ι, s, ds, g, r, p⟩ := h
  rw [g.length]
  by_cases e : ds.length = np
  · exact e
  · rw [hm ds s e] at p; exact p.elim
theorem bodyD_bad {np n : Nat} {ψ : FS} (ds : List D) (s : Sto) (h : ds.length ≠ np) : bodyD np n ψ ds s = .bad := by unfold bodyD; rw [if_neg h]
theorem body0_bad {np n : Nat} {ψ : FS} (ds : List D) (s : Sto) (h : ds.length ≠ np) : body0 np n ψ ds s = .bad := by unfold body0; rw [bodyD_bad ds s h]; rfl
/-- a def that may raise -/
theorem okD {x qual : Str} {st : Stmt} {f : Addr} {fd : FuncData} {N ps : List Str} {k n : Nat} {ψ : FS} (Fn : Fun K x qual st f fd) (S : FnScope N ps (defScope st)) (hn : N.length = ps.length + n)
    (hb : ∀ (cdv : Value) (A : Around) (outer : List Env) (s : Shared) (H : Hp) (E : XK), Room k (A.deeper (envOfC qual (defScope st) s.heap.objs.size f cdv)) →
      ∃ t, DSs (cxOf (L2.CX P w) P w K mg base N qual (defScope st) f cdv A outer s H E) K Γ (fun c d _ H => E c d H) (defBody st) t ψ) :
    FnOk P w K mg base (L2.CX P w) (k + 1) f fd ps (spD K Γ (bodyD ps.length n ψ)) := by
  refine Fn.okX S (fun vs H Q E h => spD_len (np := ps.length) bodyD_bad h) fun cdv A outer s H vs Q E hr h => ?_
  have hl := spD_len (np := ps.length) bodyD_bad h
  obtain ⟨G, F, ι, s0, ds, g, r, p⟩ := h
  obtain ⟨t, ht⟩ := hb cdv A outer s H E hr
  refine ⟨t, ht.ps, ht.gd _ _ H G F ι s0 _ (rs_start g (by rw [← g.length, hl]; exact hn)) r ?_⟩
  unfold bodyD at p
  rw [if_pos (by rw [← g.length]; exact hl), ← r.len] at p
  replace p := post_trim p
  unfold rawD at p
  cases e : ψ (ds.map some ++ List.replicate n none) s0 with
  | rt d s1 => rw [e] at p; exact p
  | nx ds1 s1 => rw [e] at p; exact fun σ' H' F' ι' x' _ r' => p _ H' F' ι' x' r' .non
  | err c q ds1 s1 => rw [e] at p; exact fun dd σ' H' F' ι' x' _ r' q' => p dd H' F' ι' x' r' q'
  | bk ds1 s1 => rw [e] at p; exact p.elim
  | ct ds1 s1 => rw [e] at p; exact p.elim
  | bad => rw [e] at p; exact p
/-- a def that raises nothing, where nothing is being shown -/
theorem okD0 {x qual : Str} {st : Stmt} {f : Addr} {fd : FuncData} {N ps : List Str} {k n : Nat} {ψ : FS} (Fn : Fun K x qual st f fd) (S : FnScope N ps (defScope st)) (hn : N.length = ps.length + n)
    (hb : ∀ (cdv : Value) (A : Around) (outer : List Env) (s : Shared) (H : Hp) (E : XK), (A.deeper (envOfC qual (defScope st) s.heap.objs.size f cdv)).guards = some [] → Room k (A.deeper (envOfC qual (defScope st) s.heap.objs.size f cdv)) →
      ∃ t, DSs (cxOf CX0 P w K mg base N qual (defScope st) f cdv A outer s H E).nox K Γ W0 (defBody st) t ψ) :
    Gl.FnG P w K mg base CX0 (k + 1) f fd ps (spD K Γ (body0 ps.length n ψ)) := by
  refine Gl.okG Fn S (fun vs H Q E h => spD_len (np := ps.length) body0_bad h) fun cdv A outer s H vs Q E hG hr h => ?_
  have hl := spD_len (np := ps.length) body0_bad h
  obtain ⟨G, F, ι, s0, ds, g, r, p⟩ := h
  obtain ⟨t, ht⟩ := hb cdv A outer s H E hG hr
  refine ⟨t, ht.ps, ht.gd _ _ H G F ι s0 _ (rs_start g (by rw [← g.length, hl]; exact hn)) r ?_⟩
  unfold body0 bodyD at p
  rw [if_pos (by rw [← g.length]; exact hl), ← r.len] at p
  have p : Post K Γ (fun _ _ _ _ => False) [] G F ι (RV K Γ) Q (rawD n ψ ds s0) := by
    refine post_trim ?_
    cases e : trimO ι.length (rawD n ψ ds s0) with
    | ok d s1 => rw [e] at p; exact p
    | err c q s1 => rw [e] at p; exact p.elim
    | bad => rw [e] at p; exact p
  unfold rawD at p
  cases e : ψ (ds.map some ++ List.replicate n none) s0 with
  | rt d s1 => rw [e] at p; exact p
  | nx ds1 s1 => rw [e] at p; exact fun σ' H' F' ι' x' _ r' => p _ H' F' ι' x' r' .non
  | err c q ds1 s1 => rw [e] at p; exact fun dd σ' H' F' ι' x' _ r' q' => p dd H' F' ι' x' r' q'
  | bk ds1 s1 => rw [e] at p; exact p.elim
  | ct ds1 s1 => rw [e] at p; exact p.elim
  | bad => rw [e] at p; exact p
end
/-! ### calls of defs -/
def callD (m : Fn) (ψ : FA) : FE := bindX ψ fun _ xs s => m xs s
section
variable {X : Cx} {K : PySem.W.Frag} {Γ : Gam} {W : WX} {pos p : Pos} {e : Expr} {es : List Expr} {ta : TA} {ψ : FA} {m : Fn} {x : Str} {k : Nat} {f : Addr} {fd : FuncData} {ps : List Str}
theorem gd_call (ha : Ga K Γ W ta ψ) : Gd K Γ W (tCallSD (spD K Γ m) [] (WE W) ta) (callD m ψ) := by
  intro σ H Q G F ι s ds hs hr hp
  refine ha.step hs hr hp fun xs s1 vs H1 F1 ι1 x1 r1 q1 hs1 hp1 => ?_
  refine ⟨G, F1, ι1, s1, xs, by rw [List.append_nil]; exact q1, r1, ?_⟩
  dsimp only at hp1
  cases e : m xs s1 with
  | ok d s2 => rw [e] at hp1; exact hp1
  | err c q s2 => rw [e] at hp1; exact hp1
  | bad => rw [e] at hp1; exact hp1
theorem de_call (Fn : FnOk X.prog X.w X.K X.mg X.base (L2.CX X.prog X.w) k f fd ps (spD K Γ m)) (tk : Takes X W) (hr : Room k X.A) (hg : L2.Gl X x) (hm : X.mg x = some (.ref f)) (hk : PySem.W.keepIn X.K (.ref f) = true) (hb : Binds X.K fd ps []) (ha : DA X K Γ W (e :: es) ta ψ)
    (hdb : (x == ("__debug__" : Str)) = false := by decide) (he : starEach (e :: es) X.env = (false, eval e X.env) :: starEach es X.env := by rfl) (hpl : (backTo pos (starEach es X.env)).any (·.1) = false := by rfl) :
    DE X K Γ W (.Call (.Name x p) (e :: es) [] pos) (tCallSD (spD K Γ m) [] (WE W) ta) (callD m ψ) :=
  ⟨pe_callSD Fn hr hg hm hk hb .nil (fun σ => passAt tk σ) ha.pa hdb he hpl, gd_call ha.gd⟩
theorem pe_callSD0 {E : L2.St → XK} {sp : Sp} {CX : CXT} (Fn : FnOk X.prog X.w X.K X.mg X.base CX k f fd ps sp) (hr : Room k X.A) (hg : L2.Gl X x) (hm : X.mg x = some (.ref f)) (hk : PySem.W.keepIn X.K (.ref f) = true) (hb : Binds X.K fd ps []) (hx : ∀ σ, PassesAt CX X σ (E σ))
    (hdb : (x == ("__debug__" : Str)) = false := by decide) : PE X (.Call (.Name x p) [] [] pos) (tCallSD sp [] E tNil) := by
  constructor
  intro pins s σ H Q I h
  exact wpAny_Call_Name_kw (ld_glob I hg hm (PySem.W.callWith_K0 I.kIn hk (run_fnSD (us := []) Fn hr hb .nil (hx σ) I .nil h)) hdb)
theorem de_call0 (Fn : FnOk X.prog X.w X.K X.mg X.base (L2.CX X.prog X.w) k f fd ps (spD K Γ m)) (tk : Takes X W) (hr : Room k X.A) (hg : L2.Gl X x) (hm : X.mg x = some (.ref f)) (hk : PySem.W.keepIn X.K (.ref f) = true) (hb : Binds X.K fd ps [])
    (hdb : (x == ("__debug__" : Str)) = false := by decide) : DE X K Γ W (.Call (.Name x p) [] [] pos) (tCallSD (spD K Γ m) [] (WE W) tNil) (callD m nilD) :=
  ⟨pe_callSD0 Fn hr hg hm hk hb (fun σ => passAt tk σ) hdb, gd_call (da_nil (X := X)).gd⟩
/-- .. of a def that raises nothing, where nothing is being shown -/
theorem gd_callG {m0 : Fn} (hm0 : ∀ xs s, m0 xs s = nb (m0 xs s)) (ha : Ga K Γ W ta ψ) : Gd K Γ W (tCall (spD K Γ m0) [] E0 ta) (callD m0 ψ) := by
  intro σ H Q G F ι s ds hs hr hp
  refine ha.step hs hr hp fun xs s1 vs H1 F1 ι1 x1 r1 q1 hs1 hp1 => ?_
  refine ⟨G, F1, ι1, s1, xs, by rw [List.append_nil]; exact q1, r1, ?_⟩
  dsimp only at hp1
  have h0 := hm0 xs s1
  cases e : m0 xs s1 with
  | ok d s2 => rw [e] at hp1; exact hp1
  | err c q s2 => rw [e] at h0; cases h0
  | bad => rw [e] at hp1; exact hp1
theorem nb_nb {α : Type} (o : Out α) : nb o = nb (nb o) := by cases o <;> rfl
theorem body0_nb {np n : Nat} {χ : FS} (xs : List D) (s : Sto) : body0 np n χ xs s = nb (body0 np n χ xs s) := by unfold body0; exact nb_nb _
theorem de_callG {m0 : Fn} (Fn : Gl.FnG X.prog X.w X.K X.mg X.base CX0 k f fd ps (spD K Γ m0)) (hm0 : ∀ xs s, m0 xs s = nb (m0 xs s)) (hG : X.A.guards = some []) (hr : Room k X.A) (hg : L2.Gl X x) (hm : X.mg x = some (.ref f)) (hk : PySem.W.keepIn X.K (.ref f) = true) (hb : Binds X.K fd ps []) (ha : DA X K Γ W (e :: es) ta ψ)
    (hdb : (x == ("__debug__" : Str)) = false := by decide) (he : starEach (e :: es) X.env = (false, eval e X.env) :: starEach es X.env := by rfl) (hpl : (backTo pos (starEach es X.env)).any (·.1) = false := by rfl) :
    DE X K Γ W (.Call (.Name x p) (e :: es) [] pos) (tCall (spD K Γ m0) [] E0 ta) (callD m0 ψ) :=
  ⟨Gl.pe_callG Fn hG hr hg hm hk hb .nil pass0 ha.pa hdb he hpl, gd_callG hm0 ha.gd⟩
end
end Md

set_option Elab.async false
set_option maxRecDepth 100000
set_option maxHeartbeats 4000000
set_option linter.all false
/-! the mirror layer: cells written, instances -/
namespace Md
open PySem PySem.Spec PyProof.Rows L2
/-! ### a cell's list is frozen where it is handed on -/
section
variable {X : Cx} {K : PySem.W.Frag} {Γ : Gam} {W : WX} {pos : Pos} {i : Nat} {x : Str}
end
/-! ### methods of lists -/
def MtG (K : PySem.W.Frag) (Γ : Gam) (T : String) (r : V → List V → Hp → VK → Prop) (f : D → List D → Sto → Out D) : Prop :=
  ∀ (W : WX) (σ : L2.St) (H : Hp) (Q : VK) (G F : Hp) (ι : List Addr) (s : Sto) (x : D) (v : V) (xs : List D) (vs : List V), Rel K Γ G F H ι s → Rp K Γ F ι v x → RpA K Γ F ι vs xs → Post K Γ W σ G F ι (RV K Γ) Q (f x xs s) → r v vs H Q
def TyG (K : PySem.W.Frag) (Γ : Gam) (T : String) (g : D → Sto → Bool) : Prop := ∀ (H G F : Hp) (ι : List Addr) (s : Sto) (x : D) (v : V), Rel K Γ G F H ι s → Rp K Γ F ι v x → g x s = true → tyV K T v H
def bmD (g : D → Sto → Bool) (f : D → List D → Sto → Out D) (φ : FE) (ψ : FA) : FE := bindX φ fun ds x s => if g x s = true then (ψ ds s).bind fun xs s => f x xs s else .bad
def isL (x : D) (s : Sto) : Bool := (viewL x s).isSome
def isS (x : D) (_ : Sto) : Bool := match x with
  | .str _ => true
  | _ => false
section
variable {X : Cx} {K : PySem.W.Frag} {Γ : Gam} {W : WX} {o e : Expr} {es : List Expr} {to : TE} {ta : TA} {φ : FE} {ψ : FA} {name : Str} {apos cpos : Pos} {T id : String} {r : V → List V → Hp → VK → Prop} {g : D → Sto → Bool} {f : D → List D → Sto → Out D}
theorem gd_bm (hg : TyG K Γ T g) (hf : MtG K Γ T r f) (ho : Gd K Γ W to φ) (ha : Ga K Γ W ta ψ) : Gd K Γ W (tBM K T r to ta) (bmD g f φ ψ) := by
  intro σ H Q G F ι s ds hs hr hp
  refine ho.step hs hr hp fun x s1 v H1 F1 ι1 x1 r1 q1 hs1 hp1 => ?_
  dsimp only at hp1
  split at hp1
  · rename_i hc
    refine ⟨hg _ _ _ _ _ _ _ r1 q1 hc, ?_⟩
    refine ha.step hs1 r1 hp1 fun xs s2 vs H2 F2 ι2 x2 r2 q2 hs2 hp2 => ?_
    exact hf W σ H2 Q G F2 ι2 s2 x v xs vs r2 (q1.ext x2) q2 hp2
  · exact hp1.elim
theorem de_bm (hg : TyG K Γ T g) (hf : MtG K Γ T r f) (pa : PlainAttrs T) (slot : Slot T name id) (hty : typeOf (.builtin id) = pure (.type "method_descriptor")) (hm : MtR X id r) (ho : DE X K Γ W o to φ) (ha : DA X K Γ W (e :: es) ta ψ) (hK : X.K = K := by rfl)
    (hbase : attributeBase o name X.env (eval o X.env) = eval o X.env := by rfl)
    (hfew : ((backTo cpos (starEach (e :: es) X.env)).all (fun x => !x.1) && (backToKw cpos (keywordEach [] X.env)).all (fun x => x.1.isSome) && decide ((e :: es).length + ([] : List Keyword).length + (if ([] : List Keyword).isEmpty then 0 else 1) < 30)) = true := by rfl)
    (hline : (apos.endLine == cpos.line) = true := by rfl) (hs : starEach (e :: es) X.env = (false, eval e X.env) :: starEach es X.env := by rfl) (hplain : (backTo cpos (starEach es X.env)).any (·.1) = false := by rfl) :
    DE X K Γ W (.Call (.Attribute o name apos) (e :: es) [] cpos) (tBM K T r to ta) (bmD g f φ ψ) := by
  subst hK
  exact ⟨pe_bm pa slot hty hm ho.pe ha.pa hbase hfew hline hs hplain, gd_bm hg hf ho.gd ha.gd⟩
theorem ty_L : TyG K Γ "list" isL := by
  intro H G F ι s x v r h e
  obtain ⟨xs, ex⟩ := Option.isSome_iff_exists.mp (show (viewL x s).isSome = true from e)
  obtain ⟨a, vs, rfl, ha, _⟩ := r.view h ex
  exact Or.inl ⟨rfl, vs, SqL.of ha⟩
/-! append, extend, pop -/
def appendD (x : D) (args : List D) (s : Sto) : Out D := match x, args with
  | .cell n, [d] => match s[n]? with
    | some (.lst xs) => if (decide (xs.length < sizeLine) && nc d) = true then .ok .non (s.set n (.lst (xs ++ [d]))) else .bad
    | _ => .bad
  | _, _ => .bad
theorem mg_append : MtG K Γ "list" rAppend appendD := by
  intro W σ H Q G F ι s x v xs vs r gx gv hp
  unfold appendD at hp
  split at hp
  · rename_i n d
    split at hp
    · rename_i ys en
      split at hp
      · rename_i hc
        rw [Bool.and_eq_true, decide_eq_true_eq] at hc
        obtain ⟨w, rfl, gw⟩ := one_rp gv
        cases gx with
        | cell ea =>
          obtain ⟨hF, us, hu, gu⟩ := r.at_ n _ _ en ea
          refine ⟨_, us, w, rfl, rfl, hu, by rw [gu.length]; exact hc.1, ?_⟩
          exact hp _ _ F ι Ext.refl (r.write (c := .lst (ys ++ [d])) ea hu (fun b z => nomatch z) (fun z => nomatch z) hF ⟨hF, us ++ [w], upd_same, gu.append (.cons (gw.fz hc.2) .nil)⟩) .non
      · exact hp.elim
    · exact hp.elim
  · exact hp.elim
end
/-! ### xs[i] = v -/
def setItD (x y d : D) (s : Sto) : Option Sto := match x with
  | .cell n => match s[n]?, y with
    | some (.lst xs), .int i => match ixN xs.length i with
      | some j => if nc d = true then some (s.set n (.lst (xs.set j d))) else none
      | none => none
    | _, _ => none
  | _ => none
def setItS (φx φi φv : FE) : FS := fun ds s => bindS (φv ds s) ds fun d s => bindS (φx ds s) ds fun x s => bindS (φi ds s) ds fun y s => match setItD x y d s with
  | some s' => .nx ds s'
  | none => .bad
section
variable {X : Cx} {K : PySem.W.Frag} {Γ : Gam} {W : WX} {o i v : Expr} {to ti tv : TE} {φx φi φv : FE} {pos pos' : Pos}
theorem gs_setIt (ho : Gd K Γ W to φx) (hi : Gd K Γ W ti φi) (hv : Gd K Γ W tv φv) : GS K Γ W (tAsg tv (gSub to ti rSetL)) (setItS φx φi φv) := by
  intro E σ H G F ι s ds hs hr hp
  refine hv.stepS hs hr hp fun d s1 w H1 F1 ι1 x1 r1 q1 hs1 hp1 => ?_
  refine ho.stepS hs1 r1 hp1 fun x s2 a H2 F2 ι2 x2 r2 q2 hs2 hp2 => ?_
  refine hi.stepS hs2 r2 hp2 fun y s3 b H3 F3 ι3 x3 r3 q3 hs3 hp3 => ?_
  try dsimp only at hp3
  split at hp3
  · rename_i s' es
    cases x <;> first | (cases es; done) | skip
    rename_i n
    unfold setItD at es
    dsimp only at es
    have es' := es
    clear es
    split at es'
    · rename_i xs k en
      split at es'
      · rename_i j ej
        split at es'
        · rename_i hn
          cases es'
          cases q3
          cases q2 with
          | cell ea =>
            have ea' := x3.pre _ _ ea
            obtain ⟨hF, us, hu, gu⟩ := r3.at_ n _ _ en ea'
            refine ⟨_, us, _, j, rfl, rfl, hu, by rw [gu.length]; exact ej, ?_⟩
            exact hp3 σ _ F3 ι3 Ext.refl hs3 (r3.write (c := .lst (xs.set j d)) ea' hu (fun b z => nomatch z) (fun z => nomatch z) hF ⟨hF, us.set j w, upd_same, gu.set ((q1.ext (x2.trans x3)).fz hn) j⟩)
        · cases es'
      · cases es'
    · cases es'
  · exact hp3.elim
theorem ds_setIt (ho : DE X K Γ W o to φx) (hi : DE X K Γ W i ti φi) (hv : DE X K Γ W v tv φv) (hs : swapsWithSole [.Subscript o i pos'] v pos.line X.env = pure false := by rfl) (hw : swappedStores [.Subscript o i pos'] v X.env = pure none := by rfl) (h1 : (assignEach [.Subscript o i pos'] X.env).map (·.2) = [assign (.Subscript o i pos') X.env] := by rfl)
    (ha : ∀ v, assign (.Subscript o i pos') X.env v = (do
      let ov ← holding [v] (eval o X.env)
      let iv ← holding [v, ov] (eval i X.env)
      standAt pos'
      holding [v, ov, iv] (setItem ov iv v)
      release [v, ov, iv] []) := by intro _; rfl) : DS X K Γ W (.Assign [.Subscript o i pos'] v pos) (tAsg tv (gSub to ti rSetL)) (setItS φx φi φv) :=
  ⟨ps_asg hv.pe (pg_sub ho.pe hi.pe set_list ha) hs hw h1, gs_setIt ho.gd hi.gd hv.gd⟩
end
/-! ### instances with slots: e.f, e.f = v -/
def putO (i : Nat) (d : D) (fs : List (Option D)) : List (Option D) := (fs ++ List.replicate (i + 1 - fs.length) none).set i (some d)
def setAttrD (tab : Nat → Option Nat) (x d : D) (s : Sto) : Option Sto := match x with
  | .cell n => match s[n]? with
    | some (.ins c fs) => match tab c with
      | some i => some (s.set n (.ins c (putO i d fs)))
      | none => none
    | _ => none
  | _ => none
def setAttrS (tab : Nat → Option Nat) (φ ψ : FE) : FS := fun ds s => bindS (ψ ds s) ds fun d s => bindS (φ ds s) ds fun x s => match setAttrD tab x d s with
  | some s' => .nx ds s'
  | none => .bad
section
variable {X : Cx} {K : PySem.W.Frag} {Γ : Gam} {W : WX} {o e v : Expr} {to te tv : TE} {φ ψ : FE} {pos pos' : Pos} {f : Str} {tab : Nat → Option Nat}
end
end Md

set_option Elab.async false
set_option maxRecDepth 100000
set_option maxHeartbeats 4000000
set_option linter.all false
/-! the mirror layer: instances made, methods, properties, what is raised -/
namespace Md
open PySem PySem.Spec PyProof.Rows L2
/-! ### C(..) -/
def allO : List (Option D) → Option (List D)
  | [] => some []
  | some d :: r => if nc d = true then (allO r).map (d :: ·) else none
  | none :: _ => none
/-- the cell n has become an instance of c -/
def doneI (c n : Nat) (r : D) (s' : Sto) : Out D := match r, s'[n]? with
  | .non, some (.ins c' fs) => match allO fs with
    | some ds => if (decide (c' = c) && decide (s'.length = n + 1) && okS n (s'.take n)) = true then .ok (.ins c ds) (s'.take n) else .bad
    | none => .bad
  | _, _ => .bad
/-- C(..): frozen once it is made -/
def makeD (c : Nat) (m : Fn) (ψ : FA) : FE := bindX ψ fun _ xs s => (m (.cell s.length :: xs) (s ++ [.ins c []])).bind fun r s' => doneI c s.length r s'
section
variable {K : PySem.W.Frag} {Γ : Gam} {F G H : Hp} {ι : List Addr} {s : Sto}
end
section
variable {X : Cx} {K : PySem.W.Frag} {Γ : Gam} {E : XK} {pos p : Pos} {e o : Expr} {es : List Expr} {ta : TA} {te : TE} {ψ : FA} {φ : FE} {m : Fn} {x : Str} {k c : Nat} {f g : Addr} {fd : FuncData} {ps : List Str}
/-! ### o.m(..) -/
def methD (c : Nat) (m : Fn) (φ : FE) (ψ : FA) : FE := bindX φ fun ds x s => if clsD x s = some c then (ψ ds s).bind fun xs s => m (x :: xs) s else .bad
/-! ### a property -/
def propD (c : Nat) (m : Fn) (φ : FE) : FE := bindX φ fun _ x s => if clsD x s = some c then nb (m [x] s) else .bad
end
end Md

set_option Elab.async false
set_option maxRecDepth 100000
set_option maxHeartbeats 4000000
set_option linter.all false
/-! own ==, != against any value; own str, iter -/
namespace OwnK
open PySem PySem.Spec PySem.W PyProof.Rows
section
variable {prog : Program} {w : World} {A : Around} {E : Value → Shared → Prop} {s : Shared} {K : Frag} {h₀ : Heap} {L x C f : Addr} {ox : Obj} {od : Option Obj} {m : Str → Option Value} {b tb : Value}
end
end OwnK

set_option Elab.async false
set_option maxRecDepth 100000
set_option maxHeartbeats 4000000
set_option linter.all false
/-! the mirror layer: own operators -/
namespace Md
open PySem PySem.Spec PyProof.Rows L2
/-! ### == and != of instances, by an own __eq__ -/
section
variable {X : Cx} {K : PySem.W.Frag} {Γ : Gam} {sp : Sp} {g C : Addr} {n c : Nat} {m : Fn}
def rightD (cs : List Nat) (y : D) (s : Sto) : Bool := (kindD y s).isSome || ((clsD y s).any fun c => decide (c ∈ cs))
def cmpOwn (cs : List Nat) (c : Nat) (m : Fn) (k : Bool → Bool) (x y : D) (s : Sto) : Out D :=
  if clsD x s = some c then
    if rightD cs y s = true then
      match m [x, y] s with
      | .ok (.bl b) s' => .ok (.bl (k b)) s'
      | _ => .bad
    else .bad
  else .bad
end
/-! ### x + y .. of instances of one class -/
def binOwn (c : Nat) (m : Fn) (x y : D) (s : Sto) : Out D := if (decide (clsD x s = some c) && decide (clsD y s = some c)) = true then m [x, y] s else .bad
def unOwn (c : Nat) (m : Fn) (x : D) (s : Sto) : Out D := if clsD x s = some c then m [x] s else .bad
section
variable {X : Cx} {K : PySem.W.Frag} {Γ : Gam} {E : XK} {g : Addr} {n c : Nat} {m : Fn} {a b : Expr} {ta tb : TE} {φ ψ : FE} {pos : Pos}
/-! x[i], by an own __getitem__ -/
def ixOwn (c : Nat) (m : Fn) (x y : D) (s : Sto) : Out D := if clsD x s = some c then m [x, y] s else .bad
end
/-! ### len(x), str(x), bool(x) by own defs -/
def lenOwn (c : Nat) (m : Fn) (xs : List D) (s : Sto) : Out D := match xs with
  | [x] => if clsD x s = some c then match m [x] s with
      | .ok (.int i) s' => if (decide (0 ≤ i) && decide (i < 2 ^ 63)) = true then .ok (.int i) s' else .bad
      | _ => .bad
    else .bad
  | _ => .bad
def strOwn (c : Nat) (m : Fn) (xs : List D) (s : Sto) : Out D := match xs with
  | [x] => if clsD x s = some c then match m [x] s with
      | .ok (.str i) s' => .ok (.str i) s'
      | _ => .bad
    else .bad
  | _ => .bad
section
variable {X : Cx} {K : PySem.W.Frag} {Γ : Gam} {E : XK} {g : Addr} {n c : Nat} {m : Fn}
end
/-! ### starred items -/
def starD (φ : FE) (ψ : FA) : FA := bindX φ fun ds x s => match vw x s with
  | .lst xs => (ψ ds s).bind fun ys s => .ok (xs ++ ys) s
  | .tup xs => (ψ ds s).bind fun ys s => .ok (xs ++ ys) s
  | _ => .bad
end Md

set_option Elab.async false
set_option maxRecDepth 100000
set_option maxHeartbeats 4000000
set_option linter.all false
/-! the mirror layer: texts of numbers, f-strings, bool by own defs, dicts written -/
namespace OwnK
open PySem PySem.Spec PySem.W PyProof.Rows
section
variable {prog : Program} {w : World} {A : Around} {E : Value → Shared → Prop} {s : Shared} {K : Frag} {h₀ : Heap} {L x C f : Addr} {ox : Obj} {od : Option Obj} {m : Str → Option Value}
end
end OwnK
namespace Md
open PySem PySem.Spec PyProof.Rows L2
/-! ### str(n), f'..' -/
def fmtD (x : D) (s : Sto) : Out D := match x with
  | .int i => if i.natAbs.log2 < 1920 then .ok (.str (toString i)) s else .bad
  | .str y => if y.length ≤ sizeLine then .ok (.str y) s else .bad
  | _ => .bad
def strD (xs : List D) (s : Sto) : Out D := match xs with
  | [.int i] => if i.natAbs.log2 < 1920 then .ok (.str (toString i)) s else .bad
  | _ => .bad
section
variable {X : Cx} {K : PySem.W.Frag} {Γ : Gam} {W : WX} {pos : Pos} {e : Expr} {te : TE} {φ : FE}
abbrev FJ := Str → DSt → Sto → Out Str
def nilJ : FJ := fun acc _ s => .ok acc s
def consJ (φ : FE) (κ : FJ) : FJ := fun acc ds s => (φ ds s).bind fun x s => match x with
  | .str y => if (acc ++ y).length ≤ sizeLine then κ (acc ++ y) ds s else .bad
  | _ => .bad
structure DJ (X : Cx) (K : PySem.W.Frag) (Γ : Gam) (W : WX) (es : List Expr) (ts : List TE) (κ : FJ) : Prop where
  pj : PJ X es ts
  gd : ∀ (acc : Str) (σ : L2.St) (H : Hp) (Q : Str → Hp → Prop) (G F : Hp) (ι : List Addr) (s : Sto) (ds : DSt), RS K Γ F ι σ ds → Rel K Γ G F H ι s → Post K Γ W σ G F ι (fun _ _ (a : Str) b => a = b) Q (κ acc ds s) → tJs ts acc σ H Q
def joinD (κ : FJ) : FE := fun ds s => (κ Str.empty ds s).bind fun z s => .ok (.str z) s
end
/-! ### bool(x) by an own def -/
def boolOwn (c : Nat) (m : Fn) (xs : List D) (s : Sto) : Out D := match xs with
  | [x] => if clsD x s = some c then match m [x] s with
      | .ok (.bl i) s' => .ok (.bl i) s'
      | _ => .bad
    else .bad
  | _ => .bad
section
variable {X : Cx} {K : PySem.W.Frag} {Γ : Gam} {g : Addr} {n c : Nat} {m : Fn}
end
/-! ### a dict that is written, frozen at once -/
abbrev FP := DSt → Sto → Out (List (D × D))
def dnil : FP := fun _ s => .ok [] s
def dcons (φ ψ : FE) (π : FP) : FP := fun ds s => (φ ds s).bind fun x s => (ψ ds s).bind fun y s => (π ds s).bind fun ps s => .ok ((x, y) :: ps) s
def keysOf : List (D × D) → Option (List (Key × D))
  | [] => some []
  | (k, d) :: r => match keyOf k, keysOf r with
    | some q, some qs => if nc d = true then some ((q, d) :: qs) else none
    | _, _ => none
def putKD (kvs : List (Key × D)) (k : Key) (v : D) : List (Key × D) :=
  if (kvs.any fun kv => decide (kv.1 = k)) = true then kvs.map (fun kv => if kv.1 = k then (kv.1, v) else kv) else kvs ++ [(k, v)]
def mergeKD (kvs more : List (Key × D)) : List (Key × D) := more.foldl (fun acc kv => putKD acc kv.1 kv.2) kvs
def dictD (π : FP) : FE := fun ds s => (nb (π ds s)).bind fun ps s => match keysOf ps with
  | some kvs => if kvs.length ≤ 15 then .ok (.dic (mergeKD [] kvs)) s else .bad
  | none => .bad
section
variable {X : Cx} {K : PySem.W.Frag} {Γ : Gam} {W : WX} {F : Hp} {ι : List Addr} {pos : Pos}
inductive RpP (K : PySem.W.Frag) (Γ : Gam) (F : Hp) (ι : List Addr) : List (V × V) → List (D × D) → Prop
  | nil : RpP K Γ F ι [] []
  | cons {v u : V} {x y : D} {vs : List (V × V)} {xs : List (D × D)} : Rp K Γ F ι v x → Rp K Γ F ι u y → RpP K Γ F ι vs xs → RpP K Γ F ι ((v, u) :: vs) ((x, y) :: xs)
structure DP (X : Cx) (K : PySem.W.Frag) (Γ : Gam) (W : WX) (pos : Pos) (keys : List (Option Expr)) (values : List Expr) (trs : List (TE × TE)) (π : FP) : Prop where
  pp : PPs X pos keys values trs
  gd : GdX K Γ W (fun F ι vs xs => RpP K Γ F ι vs xs) (fun σ H Q => tPairs trs σ H Q) π
theorem dp_nil : DP X K Γ W pos [] [] [] dnil := ⟨pps_nil, fun σ H Q G F ι s ds hs hr hp => hp _ _ _ _ Ext.refl hr .nil⟩
theorem dp_cons {k v : Expr} {ks : List (Option Expr)} {vs : List Expr} {tk tv : TE} {trs : List (TE × TE)} {φ ψ : FE} {π : FP} (hk : DE X K Γ W k tk φ) (hv : DE X K Γ W v tv ψ) (hr : DP X K Γ W pos ks vs trs π) : DP X K Γ W pos (some k :: ks) (v :: vs) ((tk, tv) :: trs) (dcons φ ψ π) := by
  refine ⟨pps_cons hk.pe hv.pe hr.pp, fun σ H Q G F ι s ds hs hr0 hp => ?_⟩
  refine hk.gd.step hs hr0 hp fun x s1 v1 H1 F1 ι1 x1 r1 q1 hs1 hp1 => ?_
  refine hv.gd.step hs1 r1 hp1 fun y s2 v2 H2 F2 ι2 x2 r2 q2 hs2 hp2 => ?_
  refine hr.gd.step hs2 r2 hp2 fun ps s3 vs H3 F3 ι3 x3 r3 q3 hs3 hp3 => ?_
  exact hp3 _ _ _ _ Ext.refl r3 (.cons (q1.ext (x2.trans x3)) (q2.ext x3) q3)
theorem keysOf_rp : ∀ {vs : List (V × V)} {ps : List (D × D)} {kvs : List (Key × D)}, RpP K Γ F ι vs ps → keysOf ps = some kvs → ∃ ks : List (Key × V), vs = ks.map (fun kv => (kV kv.1, kv.2)) ∧ RpK K Γ F [] ks kvs ∧ ks.length = kvs.length
  | _, _, _, .nil, e => by cases e; exact ⟨[], rfl, .nil, rfl⟩
  | _, _, kvs, .cons (x := x) (y := y) (xs := xs) h1 h2 t, e => by
    unfold keysOf at e
    split at e
    · rename_i q qs e1 e2
      split at e
      · rename_i hn
        cases e
        obtain ⟨ks, rfl, g, hl⟩ := keysOf_rp t e2
        have ev := keyOf_rp h1 e1
        subst ev
        exact ⟨(q, _) :: ks, rfl, .cons (h2.fz hn) g, by simp [hl]⟩
      · cases e
    · cases e
theorem RpK.append : ∀ {vs ws : List (Key × V)} {ds es : List (Key × D)}, RpK K Γ F ι vs ds → RpK K Γ F ι ws es → RpK K Γ F ι (vs ++ ws) (ds ++ es)
  | _, _, _, _, .nil, g => g
  | _, _, _, _, .cons h t, g => .cons h (RpK.append t g)
theorem RpK.anyk {k : Key} : ∀ {vs : List (Key × V)} {ds : List (Key × D)}, RpK K Γ F ι vs ds → (vs.any fun kv => decide (kv.1 = k)) = (ds.any fun kv => decide (kv.1 = k))
  | _, _, .nil => rfl
  | _, _, .cons h t => by rw [List.any_cons, List.any_cons, RpK.anyk t]
theorem RpK.mapk {k : Key} {v : V} {d : D} (r : Rp K Γ F ι v d) : ∀ {vs : List (Key × V)} {ds : List (Key × D)}, RpK K Γ F ι vs ds → RpK K Γ F ι (vs.map fun kv => if kv.1 = k then (kv.1, v) else kv) (ds.map fun kv => if kv.1 = k then (kv.1, d) else kv)
  | _, _, .nil => .nil
  | _, _, .cons (k := k') h t => by
    rw [List.map_cons, List.map_cons]
    by_cases e : k' = k
    · rw [if_pos e, if_pos e]
      exact .cons r (RpK.mapk r t)
    · rw [if_neg e, if_neg e]
      exact .cons h (RpK.mapk r t)
theorem RpK.put {vs : List (Key × V)} {ds : List (Key × D)} (g : RpK K Γ F ι vs ds) {v : V} {d : D} (r : Rp K Γ F ι v d) (k : Key) : RpK K Γ F ι (putK vs k v) (putKD ds k d) := by
  unfold putK putKD
  rw [g.anyk]
  split
  · exact g.mapk r
  · exact g.append (.cons r .nil)
theorem RpK.merge : ∀ {more : List (Key × V)} {mds : List (Key × D)}, RpK K Γ F ι more mds → ∀ {vs : List (Key × V)} {ds : List (Key × D)}, RpK K Γ F ι vs ds → RpK K Γ F ι (mergeK vs more) (mergeKD ds mds)
  | _, _, .nil, _, _, g => g
  | _, _, .cons h t, _, _, g => RpK.merge t (g.put h _)
/-- what stands at its value is locked -/
def tFrz (te : TE) : TE := fun σ H Q => te σ H fun v H1 => ∃ d u, v = .ref d ∧ H1 d = some u ∧ Mut (some u) ∧ ∀ od, Q v (upd H1 d (.frz od u))
theorem pe_frz {e : Expr} {te : TE} (h : PE X e te) : PE X e (tFrz te) := by
  constructor
  intro pins s σ H Q I q
  refine thn (h.run pins s σ H _ I q) ?_
  rintro v s1 ⟨x, H1, I1, r1, d, u, rfl, hd, mu, k⟩
  obtain ⟨od, I2⟩ := I1.lock hd mu
  exact ⟨_, _, I2, r1, k od⟩
theorem de_dict {keys : List (Option Expr)} {values : List Expr} {trs : List (TE × TE)} {π : FP} (h : DP X K Γ W pos keys values trs π) (hall : keys.all (·.isSome) = true) (hl : keys.length = values.length) (h0 : keys ≠ []) (h15 : keys.length ≤ 15) : DE X K Γ W (.Dict keys values pos) (tFrz (tDisp trs)) (dictD π) := by
  refine ⟨pe_frz (pe_disp h.pp hall hl h0 h15), fun σ H Q G F ι s ds hs hr hp => ?_⟩
  intro p np
  unfold dictD at hp
  have r1 := hr.put (o := .dK []) np
  have nG : G p = none := same_newF hr.aside np
  refine h.gd σ _ _ (upd G p (.dK [])) F ι s ds hs r1 ?_
  cases e : π ds s with
  | bad => rw [e] at hp; exact hp
  | err c q s1 => rw [e] at hp; exact hp.elim
  | ok ps s1 =>
    rw [e] at hp
    intro vs H' F' ι' x r q
    obtain ⟨H3, n3, u3, r3, e3⟩ := r.back nG (fun b z => nomatch z) (fun z => nomatch z)
    have hp : Post K Γ W σ G F ι (RV K Γ) Q (match keysOf ps with | some kvs => if kvs.length ≤ 15 then .ok (.dic (mergeKD [] kvs)) s1 else .bad | none => .bad) := hp
    split at hp
    · rename_i kvs ek
      split at hp
      · rename_i h5
        obtain ⟨ks, rfl, g, hk⟩ := keysOf_rp q ek
        refine ⟨e3, ks, rfl, by rw [hk]; exact h5, p, _, rfl, upd_same, trivial, fun od => ?_⟩
        rw [upd_upd, ← u3]
        obtain ⟨r4, x4⟩ := r3.new (o := .frz od (.dK (mergeK [] ks))) n3
        exact hp _ _ _ _ (x.trans x4) r4 (.dK upd_same ((g.merge .nil).ext x4.nil))
      · exact hp.elim
    · exact hp.elim
end
end Md

set_option Elab.async false
set_option maxRecDepth 100000
set_option maxHeartbeats 4000000
set_option linter.all false
/-! the mirror layer: evaluation by frames, head first -/
namespace Md
open PySem PySem.Spec PyProof.Rows L2
section
variable {α β : Type} {ds : DSt} {s : Sto}
theorem e_bind_ok (a : α) (f : α → Sto → Out β) : (Out.ok a s).bind f = f a s := rfl
theorem e_bind_err {n : Nat} {p : Option (Str × D)} (f : α → Sto → Out β) : (Out.err n p s : Out α).bind f = .err n p s := rfl
theorem e_bindX (φ : DSt → Sto → Out α) (k : DSt → α → Sto → Out β) : bindX φ k ds s = (φ ds s).bind (k ds) := rfl
def seqO (b : FS) (o : SOut) : SOut := match o with
  | .nx ds s => b ds s
  | o => o
theorem e_seq (a b : FS) : seqS a b ds s = seqO b (a ds s) := by
  cases h : a ds s <;> simp only [seqS, seqO, h]
theorem e_seqO_nx (b : FS) : seqO b (.nx ds s) = b ds s := rfl
theorem e_seqO_rt (b : FS) {d : D} : seqO b (.rt d s) = .rt d s := rfl
theorem e_seqO_bk (b : FS) : seqO b (.bk ds s) = .bk ds s := rfl
theorem e_seqO_ct (b : FS) : seqO b (.ct ds s) = .ct ds s := rfl
theorem e_seqO_err (b : FS) {n : Nat} {p : Option (Str × D)} : seqO b (.err n p ds s) = .err n p ds s := rfl
theorem e_nil : nilS ds s = .nx ds s := rfl
theorem e_brk : brkS ds s = .bk ds s := rfl
theorem e_cnt : cntS ds s = .ct ds s := rfl
theorem e_retN : retN ds s = .rt .non s := rfl
def exprB (ds : DSt) (o : Out D) : SOut := match o with
  | .ok _ s => .nx ds s
  | .err c p s => .err c p ds s
  | _ => .bad
theorem e_expr (φ : FE) : exprS φ ds s = exprB ds (φ ds s) := by
  unfold exprS exprB bindS
  cases φ ds s <;> rfl
theorem e_exprB {d : D} : exprB ds (.ok d s) = .nx ds s := rfl
theorem e_exprB_err {n : Nat} {p : Option (Str × D)} : exprB ds (.err n p s) = .err n p ds s := rfl
def retB (ds : DSt) (o : Out D) : SOut := match o with
  | .ok d s => .rt d s
  | .err c p s => .err c p ds s
  | _ => .bad
theorem e_ret (φ : FE) : retS φ ds s = retB ds (φ ds s) := by
  unfold retS retB bindS
  cases φ ds s <;> rfl
theorem e_retB {d : D} : retB ds (.ok d s) = .rt d s := rfl
theorem e_retB_err {n : Nat} {p : Option (Str × D)} : retB ds (.err n p s) = .err n p ds s := rfl
def ifB (a b : FS) (ds : DSt) (o : Out Bool) : SOut := match o with
  | .ok true s => a ds s
  | .ok false s => b ds s
  | .err c p s => .err c p ds s
  | _ => .bad
theorem e_if (μ : FT) (a b : FS) : ifS μ a b ds s = ifB a b ds (μ ds s) := by
  unfold ifS ifB bindS
  cases μ ds s <;> first | rfl | (rename_i c _; cases c <;> rfl)
theorem e_ifB_t (a b : FS) : ifB a b ds (.ok true s) = a ds s := rfl
theorem e_ifB_f (a b : FS) : ifB a b ds (.ok false s) = b ds s := rfl
theorem e_ifB_err (a b : FS) {n : Nat} {p : Option (Str × D)} : ifB a b ds (.err n p s) = .err n p ds s := rfl
def asgO (γ : Option DSt) (s : Sto) : SOut := match γ with
  | some ds => .nx ds s
  | none => .bad
def asgB (γ : FG) (ds : DSt) (o : Out D) : SOut := match o with
  | .ok d s => asgO (γ d ds) s
  | .err c p s => .err c p ds s
  | _ => .bad
theorem e_asg (φ : FE) (γ : FG) : asgS φ γ ds s = asgB γ ds (φ ds s) := by
  unfold asgS asgB bindS asgO
  cases φ ds s <;> rfl
theorem e_asgB (γ : FG) {d : D} : asgB γ ds (.ok d s) = asgO (γ d ds) s := rfl
theorem e_asgB_err (γ : FG) {n : Nat} {p : Option (Str × D)} : asgB γ ds (.err n p s) = .err n p ds s := rfl
theorem e_asgO : asgO (some ds) s = .nx ds s := rfl
theorem e_name {i : Nat} {d : D} : nameG i d ds = some (ds.set i (some d)) := rfl
theorem e_nilG : nilG [] ds = some ds := rfl
def consE (δ : List D → DSt → Option DSt) (r : List D) (o : Option DSt) : Option DSt := match o with
  | some ds => δ r ds
  | none => none
theorem e_consG (γ : FG) (δ : List D → DSt → Option DSt) (x : D) (r : List D) : consG γ δ (x :: r) ds = consE δ r (γ x ds) := rfl
theorem e_consE (δ : List D → DSt → Option DSt) (r : List D) : consE δ r (some ds) = δ r ds := rfl
theorem e_tupG (n : Nat) (δ : List D → DSt → Option DSt) (es : List D) : tupG n δ (.tup es) ds = if es.length = n then δ es ds else none := rfl
def parE (i j : Nat) (ds : DSt) (o : Out (List D)) : SOut := match o with
  | .ok [x, y] s => .nx ((ds.set i (some x)).set j (some y)) s
  | .err c p s => .err c p ds s
  | _ => .bad
theorem e_par (i j : Nat) (ψ : FA) : parS i j ψ ds s = parE i j ds (ψ ds s) := by
  unfold parS parE bindS
  cases ψ ds s <;> first | rfl | skip
  rename_i xs _
  match xs with
  | [] => rfl
  | [_] => rfl
  | [_, _] => rfl
  | _ :: _ :: _ :: _ => rfl
theorem e_parE (i j : Nat) {x y : D} : parE i j ds (.ok [x, y] s) = .nx ((ds.set i (some x)).set j (some y)) s := rfl
def par3E (i j l : Nat) (ds : DSt) (o : Out (List D)) : SOut := match o with
  | .ok [x, y, z] s => .nx (((ds.set i (some x)).set j (some y)).set l (some z)) s
  | .err c p s => .err c p ds s
  | _ => .bad
theorem e_par3 (i j l : Nat) (ψ : FA) : par3S i j l ψ ds s = par3E i j l ds (ψ ds s) := by
  unfold par3S par3E bindS
  cases ψ ds s <;> first | rfl | skip
  rename_i xs _
  match xs with
  | [] => rfl
  | [_] => rfl
  | [_, _] => rfl
  | [_, _, _] => rfl
  | _ :: _ :: _ :: _ :: _ => rfl
theorem e_par3E (i j l : Nat) {x y z : D} : par3E i j l ds (.ok [x, y, z] s) = .nx (((ds.set i (some x)).set j (some y)).set l (some z)) s := rfl
theorem e_var0 {d : D} : varD 0 (some d :: ds) s = .ok d s := rfl
theorem e_varS {n : Nat} {x : Option D} : varD (n + 1) (x :: ds) s = varD n ds s := rfl
theorem e_c {d : D} : cD d ds s = .ok d s := rfl
theorem e_nilD : nilD ds s = .ok [] s := rfl
def consC (x : D) (o : Out (List D)) : Out (List D) := match o with
  | .ok xs s => .ok (x :: xs) s
  | .err c p s => .err c p s
  | _ => .bad
def consB (ψ : FA) (ds : DSt) (o : Out D) : Out (List D) := match o with
  | .ok x s => consC x (ψ ds s)
  | .err c p s => .err c p s
  | _ => .bad
theorem e_cons (φ : FE) (ψ : FA) : consD φ ψ ds s = consB ψ ds (φ ds s) := by
  simp only [consD, bindX, consB]
  cases φ ds s <;> first | rfl | skip
  rename_i x s1
  simp only [Out.bind, consC]
  cases ψ ds s1 <;> rfl
theorem e_consB (ψ : FA) {x : D} : consB ψ ds (.ok x s) = consC x (ψ ds s) := rfl
theorem e_consB_err (ψ : FA) {n : Nat} {p : Option (Str × D)} : consB ψ ds (.err n p s) = .err n p s := rfl
theorem e_consC {x : D} {xs : List D} : consC x (.ok xs s) = .ok (x :: xs) s := rfl
theorem e_consC_err {x : D} {n : Nat} {p : Option (Str × D)} : consC x (.err n p s) = .err n p s := rfl
def opC (f : D → D → Sto → Out D) (x : D) (o : Out D) : Out D := match o with
  | .ok y s => f x y s
  | .err c p s => .err c p s
  | _ => .bad
def opB (f : D → D → Sto → Out D) (ψ : FE) (ds : DSt) (o : Out D) : Out D := match o with
  | .ok x s => opC f x (ψ ds s)
  | .err c p s => .err c p s
  | _ => .bad
theorem e_op2 (f : D → D → Sto → Out D) (φ ψ : FE) : op2 f φ ψ ds s = opB f ψ ds (φ ds s) := by
  simp only [op2, bindX, opB]
  cases φ ds s <;> first | rfl | skip
  rename_i x s1
  simp only [Out.bind, opC]
  cases ψ ds s1 <;> rfl
theorem e_opB (f : D → D → Sto → Out D) (ψ : FE) {x : D} : opB f ψ ds (.ok x s) = opC f x (ψ ds s) := rfl
theorem e_opB_err (f : D → D → Sto → Out D) (ψ : FE) {n : Nat} {p : Option (Str × D)} : opB f ψ ds (.err n p s) = .err n p s := rfl
theorem e_opC (f : D → D → Sto → Out D) {x y : D} : opC f x (.ok y s) = f x y s := rfl
theorem e_opC_err (f : D → D → Sto → Out D) {x : D} {n : Nat} {p : Option (Str × D)} : opC f x (.err n p s) = .err n p s := rfl
def asB (d : D) (s : Sto) : Out Bool := match d with
  | .bl b => .ok b s
  | _ => .bad
theorem e_test (φ : FE) : testD φ ds s = (φ ds s).bind asB := by
  unfold testD bindX
  cases φ ds s <;> first | rfl | (rename_i x _; cases x <;> rfl)
theorem e_asB (b : Bool) : asB (.bl b) s = .ok b s := rfl
theorem e_not (b : Bool) : notD (.bl b) s = .ok (.bl (!b)) s := rfl
theorem e_neg (i : Int) : negD (.int i) s = .ok (.int (-i)) s := rfl
def andB (ψ : FE) (ds : DSt) (o : Out D) : Out D := match o with
  | .ok (.bl true) s => ψ ds s
  | .ok (.bl false) s => .ok (.bl false) s
  | .err c p s => .err c p s
  | _ => .bad
theorem e_and (φ ψ : FE) : andD φ ψ ds s = andB ψ ds (φ ds s) := by
  unfold andD bindX andB Out.bind
  cases φ ds s <;> first | rfl | skip
  rename_i x s1
  cases x <;> first | rfl | (rename_i b; cases b <;> rfl)
theorem e_andB_go (ψ : FE) : andB ψ ds (.ok (.bl true) s) = ψ ds s := rfl
theorem e_andB_st (ψ : FE) : andB ψ ds (.ok (.bl false) s) = .ok (.bl false) s := rfl
theorem e_andB_err (ψ : FE) {n : Nat} {p : Option (Str × D)} : andB ψ ds (.err n p s) = .err n p s := rfl
def andT' (ψ : FT) (ds : DSt) (o : Out Bool) : Out Bool := match o with
  | .ok true s => ψ ds s
  | .ok false s => .ok false s
  | .err c p s => .err c p s
  | _ => .bad
theorem e_andT (φ ψ : FT) : andT φ ψ ds s = andT' ψ ds (φ ds s) := by
  unfold andT bindX andT' Out.bind
  cases φ ds s <;> first | rfl | skip
  rename_i x s1
  cases x <;> rfl
theorem e_andT_go (ψ : FT) : andT' ψ ds (.ok true s) = ψ ds s := rfl
theorem e_andT_st (ψ : FT) : andT' ψ ds (.ok false s) = .ok false s := rfl
theorem e_andT_err (ψ : FT) {n : Nat} {p : Option (Str × D)} : andT' ψ ds (.err n p s) = .err n p s := rfl
def orB (ψ : FE) (ds : DSt) (o : Out D) : Out D := match o with
  | .ok (.bl false) s => ψ ds s
  | .ok (.bl true) s => .ok (.bl true) s
  | .err c p s => .err c p s
  | _ => .bad
theorem e_or (φ ψ : FE) : orD φ ψ ds s = orB ψ ds (φ ds s) := by
  unfold orD bindX orB Out.bind
  cases φ ds s <;> first | rfl | skip
  rename_i x s1
  cases x <;> first | rfl | (rename_i b; cases b <;> rfl)
theorem e_orB_go (ψ : FE) : orB ψ ds (.ok (.bl false) s) = ψ ds s := rfl
theorem e_orB_st (ψ : FE) : orB ψ ds (.ok (.bl true) s) = .ok (.bl true) s := rfl
theorem e_orB_err (ψ : FE) {n : Nat} {p : Option (Str × D)} : orB ψ ds (.err n p s) = .err n p s := rfl
def orT' (ψ : FT) (ds : DSt) (o : Out Bool) : Out Bool := match o with
  | .ok false s => ψ ds s
  | .ok true s => .ok true s
  | .err c p s => .err c p s
  | _ => .bad
theorem e_orT (φ ψ : FT) : orT φ ψ ds s = orT' ψ ds (φ ds s) := by
  unfold orT bindX orT' Out.bind
  cases φ ds s <;> first | rfl | skip
  rename_i x s1
  cases x <;> rfl
theorem e_orT_go (ψ : FT) : orT' ψ ds (.ok false s) = ψ ds s := rfl
theorem e_orT_st (ψ : FT) : orT' ψ ds (.ok true s) = .ok true s := rfl
theorem e_orT_err (ψ : FT) {n : Nat} {p : Option (Str × D)} : orT' ψ ds (.err n p s) = .err n p s := rfl
def notE (b : Bool) (s : Sto) : Out Bool := .ok (!b) s
theorem e_notT (φ : FT) : notT φ ds s = (φ ds s).bind notE := rfl
theorem e_notE (b : Bool) : notE b s = .ok (!b) s := rfl
def ifE (φ ψ : FE) (ds : DSt) (o : Out Bool) : Out D := match o with
  | .ok true s => φ ds s
  | .ok false s => ψ ds s
  | .err c p s => .err c p s
  | _ => .bad
theorem e_ifD (μ : FT) (φ ψ : FE) : ifD μ φ ψ ds s = ifE φ ψ ds (μ ds s) := by
  unfold ifD bindX ifE Out.bind
  cases μ ds s <;> first | rfl | skip
  rename_i x s1
  cases x <;> rfl
theorem e_ifE_t (φ ψ : FE) : ifE φ ψ ds (.ok true s) = φ ds s := rfl
theorem e_ifE_f (φ ψ : FE) : ifE φ ψ ds (.ok false s) = ψ ds s := rfl
theorem e_ifE_err (φ ψ : FE) {n : Nat} {p : Option (Str × D)} : ifE φ ψ ds (.err n p s) = .err n p s := rfl
theorem e_yes : yesD ds s = .ok true s := rfl
def chE (f' : D → D → Sto → Out D) (χ : FE) (y : D) (ds : DSt) (o : Out D) : Out D := match o with
  | .ok (.bl true) s => opC f' y (χ ds s)
  | .ok (.bl false) s => .ok (.bl false) s
  | .err c p s => .err c p s
  | _ => .bad
def chC (f f' : D → D → Sto → Out D) (χ : FE) (x : D) (ds : DSt) (o : Out D) : Out D := match o with
  | .ok y s => chE f' χ y ds (f x y s)
  | .err c p s => .err c p s
  | _ => .bad
def chB (f f' : D → D → Sto → Out D) (ψ χ : FE) (ds : DSt) (o : Out D) : Out D := match o with
  | .ok x s => chC f f' χ x ds (ψ ds s)
  | .err c p s => .err c p s
  | _ => .bad
theorem e_chain (f f' : D → D → Sto → Out D) (φ ψ χ : FE) : chainD f f' φ ψ χ ds s = chB f f' ψ χ ds (φ ds s) := by
  unfold chainD bindX chB
  cases φ ds s <;> first | rfl | skip
  rename_i x s1
  simp only [Out.bind, chC]
  cases ψ ds s1 <;> first | rfl | skip
  rename_i y s2
  simp only [Out.bind, chE]
  cases f x y s2 <;> first | rfl | skip
  rename_i z s3
  simp only
  cases z <;> first | rfl | skip
  rename_i b
  cases b <;> first | rfl | skip
  simp only [opC]
  cases χ ds s3 <;> rfl
theorem e_chB (f f' : D → D → Sto → Out D) (ψ χ : FE) {x : D} : chB f f' ψ χ ds (.ok x s) = chC f f' χ x ds (ψ ds s) := rfl
theorem e_chC (f f' : D → D → Sto → Out D) (χ : FE) {x y : D} : chC f f' χ x ds (.ok y s) = chE f' χ y ds (f x y s) := rfl
theorem e_chE_t (f' : D → D → Sto → Out D) (χ : FE) {y : D} : chE f' χ y ds (.ok (.bl true) s) = opC f' y (χ ds s) := rfl
theorem e_chE_f (f' : D → D → Sto → Out D) (χ : FE) {y : D} : chE f' χ y ds (.ok (.bl false) s) = .ok (.bl false) s := rfl
def tupE (xs : List D) (s : Sto) : Out D := if (decide (xs.length ≤ sizeLine) && ncA xs) = true then .ok (.tup xs) s else .bad
def lstE (xs : List D) (s : Sto) : Out D := if (decide (xs.length ≤ sizeLine) && ncA xs) = true then .ok (.lst xs) s else .bad
def lstCE (xs : List D) (s : Sto) : Out D := if (decide (xs.length ≤ sizeLine) && ncA xs) = true then .ok (.cell s.length) (s ++ [.lst xs]) else .bad
theorem szn {n : Nat} (h : n ≤ 1000) : decide (n ≤ sizeLine) = true := decide_eq_true (Nat.le_trans h (by decide +kernel))
theorem e_tup (ψ : FA) : tupD ψ ds s = (ψ ds s).bind tupE := rfl
theorem e_lst (ψ : FA) : lstD ψ ds s = (ψ ds s).bind lstE := rfl
theorem e_lstC (ψ : FA) : lstC ψ ds s = (ψ ds s).bind lstCE := rfl
theorem tupE_eq {xs : List D} (h : xs.length ≤ 1000) (hn : ncA xs = true) : tupE xs s = .ok (.tup xs) s := by
  unfold tupE
  rw [szn h, hn]
  rfl
theorem lstE_eq {xs : List D} (h : xs.length ≤ 1000) (hn : ncA xs = true) : lstE xs s = .ok (.lst xs) s := by
  unfold lstE
  rw [szn h, hn]
  rfl
theorem lstCE_eq {xs : List D} (h : xs.length ≤ 1000) (hn : ncA xs = true) : lstCE xs s = .ok (.cell s.length) (s ++ [.lst xs]) := by
  unfold lstCE
  rw [szn h, hn]
  rfl
theorem e_tupE0  : tupE [] s = .ok (.tup []) s := tupE_eq (by decide) rfl
theorem e_lstE0  : lstE [] s = .ok (.lst []) s := lstE_eq (by decide) rfl
theorem e_lstCE0  : lstCE [] s = .ok (.cell s.length) (s ++ [.lst []]) := lstCE_eq (by decide) rfl
theorem e_tupE1 {x0 : D} (h0 : nc x0 = true) : tupE [x0] s = .ok (.tup [x0]) s := tupE_eq (by simp only [List.length_cons, List.length_nil]; omega) (by simp only [ncA, List.all_cons, List.all_nil, Bool.and_true, h0])
theorem e_lstE1 {x0 : D} (h0 : nc x0 = true) : lstE [x0] s = .ok (.lst [x0]) s := lstE_eq (by simp only [List.length_cons, List.length_nil]; omega) (by simp only [ncA, List.all_cons, List.all_nil, Bool.and_true, h0])
theorem e_lstCE1 {x0 : D} (h0 : nc x0 = true) : lstCE [x0] s = .ok (.cell s.length) (s ++ [.lst [x0]]) := lstCE_eq (by simp only [List.length_cons, List.length_nil]; omega) (by simp only [ncA, List.all_cons, List.all_nil, Bool.and_true, h0])
theorem e_tupE2 {x0 x1 : D} (h0 : nc x0 = true) (h1 : nc x1 = true) : tupE [x0, x1] s = .ok (.tup [x0, x1]) s := tupE_eq (by simp only [List.length_cons, List.length_nil]; omega) (by simp only [ncA, List.all_cons, List.all_nil, Bool.and_true, h0, h1])
theorem e_lstE2 {x0 x1 : D} (h0 : nc x0 = true) (h1 : nc x1 = true) : lstE [x0, x1] s = .ok (.lst [x0, x1]) s := lstE_eq (by simp only [List.length_cons, List.length_nil]; omega) (by simp only [ncA, List.all_cons, List.all_nil, Bool.and_true, h0, h1])
theorem e_lstCE2 {x0 x1 : D} (h0 : nc x0 = true) (h1 : nc x1 = true) : lstCE [x0, x1] s = .ok (.cell s.length) (s ++ [.lst [x0, x1]]) := lstCE_eq (by simp only [List.length_cons, List.length_nil]; omega) (by simp only [ncA, List.all_cons, List.all_nil, Bool.and_true, h0, h1])
theorem e_tupE3 {x0 x1 x2 : D} (h0 : nc x0 = true) (h1 : nc x1 = true) (h2 : nc x2 = true) : tupE [x0, x1, x2] s = .ok (.tup [x0, x1, x2]) s := tupE_eq (by simp only [List.length_cons, List.length_nil]; omega) (by simp only [ncA, List.all_cons, List.all_nil, Bool.and_true, h0, h1, h2])
theorem e_lstE3 {x0 x1 x2 : D} (h0 : nc x0 = true) (h1 : nc x1 = true) (h2 : nc x2 = true) : lstE [x0, x1, x2] s = .ok (.lst [x0, x1, x2]) s := lstE_eq (by simp only [List.length_cons, List.length_nil]; omega) (by simp only [ncA, List.all_cons, List.all_nil, Bool.and_true, h0, h1, h2])
theorem e_lstCE3 {x0 x1 x2 : D} (h0 : nc x0 = true) (h1 : nc x1 = true) (h2 : nc x2 = true) : lstCE [x0, x1, x2] s = .ok (.cell s.length) (s ++ [.lst [x0, x1, x2]]) := lstCE_eq (by simp only [List.length_cons, List.length_nil]; omega) (by simp only [ncA, List.all_cons, List.all_nil, Bool.and_true, h0, h1, h2])
theorem e_tupE4 {x0 x1 x2 x3 : D} (h0 : nc x0 = true) (h1 : nc x1 = true) (h2 : nc x2 = true) (h3 : nc x3 = true) : tupE [x0, x1, x2, x3] s = .ok (.tup [x0, x1, x2, x3]) s := tupE_eq (by simp only [List.length_cons, List.length_nil]; omega) (by simp only [ncA, List.all_cons, List.all_nil, Bool.and_true, h0, h1, h2, h3])
theorem e_lstE4 {x0 x1 x2 x3 : D} (h0 : nc x0 = true) (h1 : nc x1 = true) (h2 : nc x2 = true) (h3 : nc x3 = true) : lstE [x0, x1, x2, x3] s = .ok (.lst [x0, x1, x2, x3]) s := lstE_eq (by simp only [List.length_cons, List.length_nil]; omega) (by simp only [ncA, List.all_cons, List.all_nil, Bool.and_true, h0, h1, h2, h3])
theorem e_lstCE4 {x0 x1 x2 x3 : D} (h0 : nc x0 = true) (h1 : nc x1 = true) (h2 : nc x2 = true) (h3 : nc x3 = true) : lstCE [x0, x1, x2, x3] s = .ok (.cell s.length) (s ++ [.lst [x0, x1, x2, x3]]) := lstCE_eq (by simp only [List.length_cons, List.length_nil]; omega) (by simp only [ncA, List.all_cons, List.all_nil, Bool.and_true, h0, h1, h2, h3])
theorem e_tupE5 {x0 x1 x2 x3 x4 : D} (h0 : nc x0 = true) (h1 : nc x1 = true) (h2 : nc x2 = true) (h3 : nc x3 = true) (h4 : nc x4 = true) : tupE [x0, x1, x2, x3, x4] s = .ok (.tup [x0, x1, x2, x3, x4]) s := tupE_eq (by simp only [List.length_cons, List.length_nil]; omega) (by simp only [ncA, List.all_cons, List.all_nil, Bool.and_true, h0, h1, h2, h3, h4])
theorem e_lstE5 {x0 x1 x2 x3 x4 : D} (h0 : nc x0 = true) (h1 : nc x1 = true) (h2 : nc x2 = true) (h3 : nc x3 = true) (h4 : nc x4 = true) : lstE [x0, x1, x2, x3, x4] s = .ok (.lst [x0, x1, x2, x3, x4]) s := lstE_eq (by simp only [List.length_cons, List.length_nil]; omega) (by simp only [ncA, List.all_cons, List.all_nil, Bool.and_true, h0, h1, h2, h3, h4])
theorem e_lstCE5 {x0 x1 x2 x3 x4 : D} (h0 : nc x0 = true) (h1 : nc x1 = true) (h2 : nc x2 = true) (h3 : nc x3 = true) (h4 : nc x4 = true) : lstCE [x0, x1, x2, x3, x4] s = .ok (.cell s.length) (s ++ [.lst [x0, x1, x2, x3, x4]]) := lstCE_eq (by simp only [List.length_cons, List.length_nil]; omega) (by simp only [ncA, List.all_cons, List.all_nil, Bool.and_true, h0, h1, h2, h3, h4])
theorem e_tupE6 {x0 x1 x2 x3 x4 x5 : D} (h0 : nc x0 = true) (h1 : nc x1 = true) (h2 : nc x2 = true) (h3 : nc x3 = true) (h4 : nc x4 = true) (h5 : nc x5 = true) : tupE [x0, x1, x2, x3, x4, x5] s = .ok (.tup [x0, x1, x2, x3, x4, x5]) s := tupE_eq (by simp only [List.length_cons, List.length_nil]; omega) (by simp only [ncA, List.all_cons, List.all_nil, Bool.and_true, h0, h1, h2, h3, h4, h5])
theorem e_lstE6 {x0 x1 x2 x3 x4 x5 : D} (h0 : nc x0 = true) (h1 : nc x1 = true) (h2 : nc x2 = true) (h3 : nc x3 = true) (h4 : nc x4 = true) (h5 : nc x5 = true) : lstE [x0, x1, x2, x3, x4, x5] s = .ok (.lst [x0, x1, x2, x3, x4, x5]) s := lstE_eq (by simp only [List.length_cons, List.length_nil]; omega) (by simp only [ncA, List.all_cons, List.all_nil, Bool.and_true, h0, h1, h2, h3, h4, h5])
theorem e_lstCE6 {x0 x1 x2 x3 x4 x5 : D} (h0 : nc x0 = true) (h1 : nc x1 = true) (h2 : nc x2 = true) (h3 : nc x3 = true) (h4 : nc x4 = true) (h5 : nc x5 = true) : lstCE [x0, x1, x2, x3, x4, x5] s = .ok (.cell s.length) (s ++ [.lst [x0, x1, x2, x3, x4, x5]]) := lstCE_eq (by simp only [List.length_cons, List.length_nil]; omega) (by simp only [ncA, List.all_cons, List.all_nil, Bool.and_true, h0, h1, h2, h3, h4, h5])
theorem e_tupE7 {x0 x1 x2 x3 x4 x5 x6 : D} (h0 : nc x0 = true) (h1 : nc x1 = true) (h2 : nc x2 = true) (h3 : nc x3 = true) (h4 : nc x4 = true) (h5 : nc x5 = true) (h6 : nc x6 = true) : tupE [x0, x1, x2, x3, x4, x5, x6] s = .ok (.tup [x0, x1, x2, x3, x4, x5, x6]) s := tupE_eq (by simp only [List.length_cons, List.length_nil]; omega) (by simp only [ncA, List.all_cons, List.all_nil, Bool.and_true, h0, h1, h2, h3, h4, h5, h6])
theorem e_lstE7 {x0 x1 x2 x3 x4 x5 x6 : D} (h0 : nc x0 = true) (h1 : nc x1 = true) (h2 : nc x2 = true) (h3 : nc x3 = true) (h4 : nc x4 = true) (h5 : nc x5 = true) (h6 : nc x6 = true) : lstE [x0, x1, x2, x3, x4, x5, x6] s = .ok (.lst [x0, x1, x2, x3, x4, x5, x6]) s := lstE_eq (by simp only [List.length_cons, List.length_nil]; omega) (by simp only [ncA, List.all_cons, List.all_nil, Bool.and_true, h0, h1, h2, h3, h4, h5, h6])
theorem e_lstCE7 {x0 x1 x2 x3 x4 x5 x6 : D} (h0 : nc x0 = true) (h1 : nc x1 = true) (h2 : nc x2 = true) (h3 : nc x3 = true) (h4 : nc x4 = true) (h5 : nc x5 = true) (h6 : nc x6 = true) : lstCE [x0, x1, x2, x3, x4, x5, x6] s = .ok (.cell s.length) (s ++ [.lst [x0, x1, x2, x3, x4, x5, x6]]) := lstCE_eq (by simp only [List.length_cons, List.length_nil]; omega) (by simp only [ncA, List.all_cons, List.all_nil, Bool.and_true, h0, h1, h2, h3, h4, h5, h6])
theorem e_tupE8 {x0 x1 x2 x3 x4 x5 x6 x7 : D} (h0 : nc x0 = true) (h1 : nc x1 = true) (h2 : nc x2 = true) (h3 : nc x3 = true) (h4 : nc x4 = true) (h5 : nc x5 = true) (h6 : nc x6 = true) (h7 : nc x7 = true) : tupE [x0, x1, x2, x3, x4, x5, x6, x7] s = .ok (.tup [x0, x1, x2, x3, x4, x5, x6, x7]) s := tupE_eq (by simp only [List.length_cons, List.length_nil]; omega) (by simp only [ncA, List.all_cons, List.all_nil, Bool.and_true, h0, h1, h2, h3, h4, h5, h6, h7])
theorem e_lstE8 {x0 x1 x2 x3 x4 x5 x6 x7 : D} (h0 : nc x0 = true) (h1 : nc x1 = true) (h2 : nc x2 = true) (h3 : nc x3 = true) (h4 : nc x4 = true) (h5 : nc x5 = true) (h6 : nc x6 = true) (h7 : nc x7 = true) : lstE [x0, x1, x2, x3, x4, x5, x6, x7] s = .ok (.lst [x0, x1, x2, x3, x4, x5, x6, x7]) s := lstE_eq (by simp only [List.length_cons, List.length_nil]; omega) (by simp only [ncA, List.all_cons, List.all_nil, Bool.and_true, h0, h1, h2, h3, h4, h5, h6, h7])
theorem e_lstCE8 {x0 x1 x2 x3 x4 x5 x6 x7 : D} (h0 : nc x0 = true) (h1 : nc x1 = true) (h2 : nc x2 = true) (h3 : nc x3 = true) (h4 : nc x4 = true) (h5 : nc x5 = true) (h6 : nc x6 = true) (h7 : nc x7 = true) : lstCE [x0, x1, x2, x3, x4, x5, x6, x7] s = .ok (.cell s.length) (s ++ [.lst [x0, x1, x2, x3, x4, x5, x6, x7]]) := lstCE_eq (by simp only [List.length_cons, List.length_nil]; omega) (by simp only [ncA, List.all_cons, List.all_nil, Bool.and_true, h0, h1, h2, h3, h4, h5, h6, h7])
theorem e_tupE9 {x0 x1 x2 x3 x4 x5 x6 x7 x8 : D} (h0 : nc x0 = true) (h1 : nc x1 = true) (h2 : nc x2 = true) (h3 : nc x3 = true) (h4 : nc x4 = true) (h5 : nc x5 = true) (h6 : nc x6 = true) (h7 : nc x7 = true) (h8 : nc x8 = true) : tupE [x0, x1, x2, x3, x4, x5, x6, x7, x8] s = .ok (.tup [x0, x1, x2, x3, x4, x5, x6, x7, x8]) s := tupE_eq (by simp only [List.length_cons, List.length_nil]; omega) (by simp only [ncA, List.all_cons, List.all_nil, Bool.and_true, h0, h1, h2, h3, h4, h5, h6, h7, h8])
theorem e_lstE9 {x0 x1 x2 x3 x4 x5 x6 x7 x8 : D} (h0 : nc x0 = true) (h1 : nc x1 = true) (h2 : nc x2 = true) (h3 : nc x3 = true) (h4 : nc x4 = true) (h5 : nc x5 = true) (h6 : nc x6 = true) (h7 : nc x7 = true) (h8 : nc x8 = true) : lstE [x0, x1, x2, x3, x4, x5, x6, x7, x8] s = .ok (.lst [x0, x1, x2, x3, x4, x5, x6, x7, x8]) s := lstE_eq (by simp only [List.length_cons, List.length_nil]; omega) (by simp only [ncA, List.all_cons, List.all_nil, Bool.and_true, h0, h1, h2, h3, h4, h5, h6, h7, h8])
theorem e_lstCE9 {x0 x1 x2 x3 x4 x5 x6 x7 x8 : D} (h0 : nc x0 = true) (h1 : nc x1 = true) (h2 : nc x2 = true) (h3 : nc x3 = true) (h4 : nc x4 = true) (h5 : nc x5 = true) (h6 : nc x6 = true) (h7 : nc x7 = true) (h8 : nc x8 = true) : lstCE [x0, x1, x2, x3, x4, x5, x6, x7, x8] s = .ok (.cell s.length) (s ++ [.lst [x0, x1, x2, x3, x4, x5, x6, x7, x8]]) := lstCE_eq (by simp only [List.length_cons, List.length_nil]; omega) (by simp only [ncA, List.all_cons, List.all_nil, Bool.and_true, h0, h1, h2, h3, h4, h5, h6, h7, h8])
theorem e_tupE10 {x0 x1 x2 x3 x4 x5 x6 x7 x8 x9 : D} (h0 : nc x0 = true) (h1 : nc x1 = true) (h2 : nc x2 = true) (h3 : nc x3 = true) (h4 : nc x4 = true) (h5 : nc x5 = true) (h6 : nc x6 = true) (h7 : nc x7 = true) (h8 : nc x8 = true) (h9 : nc x9 = true) : tupE [x0, x1, x2, x3, x4, x5, x6, x7, x8, x9] s = .ok (.tup [x0, x1, x2, x3, x4, x5, x6, x7, x8, x9]) s := tupE_eq (by simp only [List.length_cons, List.length_nil]; omega) (by simp only [ncA, List.all_cons, List.all_nil, Bool.and_true, h0, h1, h2, h3, h4, h5, h6, h7, h8, h9])
theorem e_lstE10 {x0 x1 x2 x3 x4 x5 x6 x7 x8 x9 : D} (h0 : nc x0 = true) (h1 : nc x1 = true) (h2 : nc x2 = true) (h3 : nc x3 = true) (h4 : nc x4 = true) (h5 : nc x5 = true) (h6 : nc x6 = true) (h7 : nc x7 = true) (h8 : nc x8 = true) (h9 : nc x9 = true) : lstE [x0, x1, x2, x3, x4, x5, x6, x7, x8, x9] s = .ok (.lst [x0, x1, x2, x3, x4, x5, x6, x7, x8, x9]) s := lstE_eq (by simp only [List.length_cons, List.length_nil]; omega) (by simp only [ncA, List.all_cons, List.all_nil, Bool.and_true, h0, h1, h2, h3, h4, h5, h6, h7, h8, h9])
theorem e_lstCE10 {x0 x1 x2 x3 x4 x5 x6 x7 x8 x9 : D} (h0 : nc x0 = true) (h1 : nc x1 = true) (h2 : nc x2 = true) (h3 : nc x3 = true) (h4 : nc x4 = true) (h5 : nc x5 = true) (h6 : nc x6 = true) (h7 : nc x7 = true) (h8 : nc x8 = true) (h9 : nc x9 = true) : lstCE [x0, x1, x2, x3, x4, x5, x6, x7, x8, x9] s = .ok (.cell s.length) (s ++ [.lst [x0, x1, x2, x3, x4, x5, x6, x7, x8, x9]]) := lstCE_eq (by simp only [List.length_cons, List.length_nil]; omega) (by simp only [ncA, List.all_cons, List.all_nil, Bool.and_true, h0, h1, h2, h3, h4, h5, h6, h7, h8, h9])
theorem e_tupE11 {x0 x1 x2 x3 x4 x5 x6 x7 x8 x9 x10 : D} (h0 : nc x0 = true) (h1 : nc x1 = true) (h2 : nc x2 = true) (h3 : nc x3 = true) (h4 : nc x4 = true) (h5 : nc x5 = true) (h6 : nc x6 = true) (h7 : nc x7 = true) (h8 : nc x8 = true) (h9 : nc x9 = true) (h10 : nc x10 = true) : tupE [x0, x1, x2, x3, x4, x5, x6, x7, x8, x9, x10] s = .ok (.tup [x0, x1, x2, x3, x4, x5, x6, x7, x8, x9, x10]) s := tupE_eq (by simp only [List.length_cons, List.length_nil]; omega) (by simp only [ncA, List.all_cons, List.all_nil, Bool.and_true, h0, h1, h2, h3, h4, h5, h6, h7, h8, h9, h10])
theorem e_lstE11 {x0 x1 x2 x3 x4 x5 x6 x7 x8 x9 x10 : D} (h0 : nc x0 = true) (h1 : nc x1 = true) (h2 : nc x2 = true) (h3 : nc x3 = true) (h4 : nc x4 = true) (h5 : nc x5 = true) (h6 : nc x6 = true) (h7 : nc x7 = true) (h8 : nc x8 = true) (h9 : nc x9 = true) (h10 : nc x10 = true) : lstE [x0, x1, x2, x3, x4, x5, x6, x7, x8, x9, x10] s = .ok (.lst [x0, x1, x2, x3, x4, x5, x6, x7, x8, x9, x10]) s := lstE_eq (by simp only [List.length_cons, List.length_nil]; omega) (by simp only [ncA, List.all_cons, List.all_nil, Bool.and_true, h0, h1, h2, h3, h4, h5, h6, h7, h8, h9, h10])
theorem e_lstCE11 {x0 x1 x2 x3 x4 x5 x6 x7 x8 x9 x10 : D} (h0 : nc x0 = true) (h1 : nc x1 = true) (h2 : nc x2 = true) (h3 : nc x3 = true) (h4 : nc x4 = true) (h5 : nc x5 = true) (h6 : nc x6 = true) (h7 : nc x7 = true) (h8 : nc x8 = true) (h9 : nc x9 = true) (h10 : nc x10 = true) : lstCE [x0, x1, x2, x3, x4, x5, x6, x7, x8, x9, x10] s = .ok (.cell s.length) (s ++ [.lst [x0, x1, x2, x3, x4, x5, x6, x7, x8, x9, x10]]) := lstCE_eq (by simp only [List.length_cons, List.length_nil]; omega) (by simp only [ncA, List.all_cons, List.all_nil, Bool.and_true, h0, h1, h2, h3, h4, h5, h6, h7, h8, h9, h10])
theorem e_tupE12 {x0 x1 x2 x3 x4 x5 x6 x7 x8 x9 x10 x11 : D} (h0 : nc x0 = true) (h1 : nc x1 = true) (h2 : nc x2 = true) (h3 : nc x3 = true) (h4 : nc x4 = true) (h5 : nc x5 = true) (h6 : nc x6 = true) (h7 : nc x7 = true) (h8 : nc x8 = true) (h9 : nc x9 = true) (h10 : nc x10 = true) (h11 : nc x11 = true) : tupE [x0, x1, x2, x3, x4, x5, x6, x7, x8, x9, x10, x11] s = .ok (.tup [x0, x1, x2, x3, x4, x5, x6, x7, x8, x9, x10, x11]) s := tupE_eq (by simp only [List.length_cons, List.length_nil]; omega) (by simp only [ncA, List.all_cons, List.all_nil, Bool.and_true, h0, h1, h2, h3, h4, h5, h6, h7, h8, h9, h10, h11])
theorem e_lstE12 {x0 x1 x2 x3 x4 x5 x6 x7 x8 x9 x10 x11 : D} (h0 : nc x0 = true) (h1 : nc x1 = true) (h2 : nc x2 = true) (h3 : nc x3 = true) (h4 : nc x4 = true) (h5 : nc x5 = true) (h6 : nc x6 = true) (h7 : nc x7 = true) (h8 : nc x8 = true) (h9 : nc x9 = true) (h10 : nc x10 = true) (h11 : nc x11 = true) : lstE [x0, x1, x2, x3, x4, x5, x6, x7, x8, x9, x10, x11] s = .ok (.lst [x0, x1, x2, x3, x4, x5, x6, x7, x8, x9, x10, x11]) s := lstE_eq (by simp only [List.length_cons, List.length_nil]; omega) (by simp only [ncA, List.all_cons, List.all_nil, Bool.and_true, h0, h1, h2, h3, h4, h5, h6, h7, h8, h9, h10, h11])
theorem e_lstCE12 {x0 x1 x2 x3 x4 x5 x6 x7 x8 x9 x10 x11 : D} (h0 : nc x0 = true) (h1 : nc x1 = true) (h2 : nc x2 = true) (h3 : nc x3 = true) (h4 : nc x4 = true) (h5 : nc x5 = true) (h6 : nc x6 = true) (h7 : nc x7 = true) (h8 : nc x8 = true) (h9 : nc x9 = true) (h10 : nc x10 = true) (h11 : nc x11 = true) : lstCE [x0, x1, x2, x3, x4, x5, x6, x7, x8, x9, x10, x11] s = .ok (.cell s.length) (s ++ [.lst [x0, x1, x2, x3, x4, x5, x6, x7, x8, x9, x10, x11]]) := lstCE_eq (by simp only [List.length_cons, List.length_nil]; omega) (by simp only [ncA, List.all_cons, List.all_nil, Bool.and_true, h0, h1, h2, h3, h4, h5, h6, h7, h8, h9, h10, h11])
theorem e_nc_int {i : Int} : nc (.int i) = true := rfl
theorem e_nc_str {i : Str} : nc (.str i) = true := rfl
theorem e_nc_bl {i : Bool} : nc (.bl i) = true := rfl
theorem e_nc_tup {i : List D} : nc (.tup i) = true := rfl
theorem e_nc_lst {i : List D} : nc (.lst i) = true := rfl
theorem e_nc_dic {i : List (Key × D)} : nc (.dic i) = true := rfl
theorem e_nc_scr {i : List Int} : nc (.scr i) = true := rfl
theorem e_nc_non : nc .non = true := rfl
theorem e_nc_ins {n : Nat} {f : List D} : nc (.ins n f) = true := rfl
def endO (o : SOut) : Out D := match o with
  | .rt d s => .ok d s
  | .nx _ s => .ok .non s
  | .err c p _ s => .err c p s
  | _ => .bad
theorem e_raw {n : Nat} (ψ : FS) (xs : List D) : rawD n ψ xs s = endO (ψ (xs.map some ++ List.replicate n none) s) := by
  unfold rawD endO
  rfl
theorem e_end_rt {d : D} : endO (.rt d s) = .ok d s := rfl
theorem e_end_nx : endO (.nx ds s) = .ok .non s := rfl
theorem e_end_err {n : Nat} {p : Option (Str × D)} : endO (.err n p ds s) = .err n p s := rfl
theorem trimS_le {n : Nat} {xs : List D} (h : s.length ≤ n) : trimS n xs s = s := by
  unfold trimS
  rw [if_pos h]
theorem e_trim_self {d : D} : trimO s.length (.ok d s) = .ok d s := by
  show Out.ok d (trimS s.length [d] s) = _
  rw [trimS_le (Nat.le_refl _)]
theorem e_trim_errS {n : Nat} {p : Option (Str × D)} : trimO s.length (.err n p s) = .err n p s := by
  show Out.err n p (trimS s.length _ s) = _
  rw [trimS_le (Nat.le_refl _)]
theorem trim_le {n : Nat} {d : D} (h : s.length ≤ n) : trimO n (.ok d s) = .ok d s := by
  show Out.ok d (trimS n [d] s) = _
  rw [trimS_le h]
theorem trim_eq {s' : Sto} {d : D} (h : s'.length = s.length) : trimO s.length (.ok d s') = .ok d s' := trim_le (Nat.le_of_eq h)
theorem e_body1 {n : Nat} (ψ : FS) {x1 : D} : bodyD 1 n ψ [x1] s = trimO s.length (endO (ψ (some x1 :: List.replicate n none) s)) := by
  show trimO s.length (rawD n ψ [x1] s) = _
  rw [e_raw]
  rfl
theorem e_body0 {n : Nat} (ψ : FS) : bodyD 0 n ψ [] s = trimO s.length (endO (ψ (List.replicate n none) s)) := by
  show trimO s.length (rawD n ψ [] s) = _
  rw [e_raw]
  rfl
theorem e_body2 {n : Nat} (ψ : FS) {x1 x2 : D} : bodyD 2 n ψ [x1, x2] s = trimO s.length (endO (ψ (some x1 :: some x2 :: List.replicate n none) s)) := by
  show trimO s.length (rawD n ψ [x1, x2] s) = _
  rw [e_raw]
  rfl
theorem e_body3 {n : Nat} (ψ : FS) {x1 x2 x3 : D} : bodyD 3 n ψ [x1, x2, x3] s = trimO s.length (endO (ψ (some x1 :: some x2 :: some x3 :: List.replicate n none) s)) := by
  show trimO s.length (rawD n ψ [x1, x2, x3] s) = _
  rw [e_raw]
  rfl
theorem e_body4 {n : Nat} (ψ : FS) {x1 x2 x3 x4 : D} : bodyD 4 n ψ [x1, x2, x3, x4] s = trimO s.length (endO (ψ (some x1 :: some x2 :: some x3 :: some x4 :: List.replicate n none) s)) := by
  show trimO s.length (rawD n ψ [x1, x2, x3, x4] s) = _
  rw [e_raw]
  rfl
theorem e_body5 {n : Nat} (ψ : FS) {x1 x2 x3 x4 x5 : D} : bodyD 5 n ψ [x1, x2, x3, x4, x5] s = trimO s.length (endO (ψ (some x1 :: some x2 :: some x3 :: some x4 :: some x5 :: List.replicate n none) s)) := by
  show trimO s.length (rawD n ψ [x1, x2, x3, x4, x5] s) = _
  rw [e_raw]
  rfl
theorem e_body6 {n : Nat} (ψ : FS) {x1 x2 x3 x4 x5 x6 : D} : bodyD 6 n ψ [x1, x2, x3, x4, x5, x6] s = trimO s.length (endO (ψ (some x1 :: some x2 :: some x3 :: some x4 :: some x5 :: some x6 :: List.replicate n none) s)) := by
  show trimO s.length (rawD n ψ [x1, x2, x3, x4, x5, x6] s) = _
  rw [e_raw]
  rfl
theorem e_guard {np n : Nat} (ψ : FS) {xs : List D} : body0 np n ψ xs s = nb (bodyD np n ψ xs s) := rfl
theorem e_nb_ok (a : α) : nb (Out.ok a s) = .ok a s := rfl
theorem e_rep0 : List.replicate 0 (none : Option D) = [] := rfl
theorem e_repS {n : Nat} : List.replicate (n + 1) (none : Option D) = none :: List.replicate n none := rfl
theorem e_set0 {x y : Option D} {r : DSt} : (x :: r).set 0 y = y :: r := rfl
theorem e_setS {n : Nat} {x y : Option D} {r : DSt} : (x :: r).set (n + 1) y = x :: r.set n y := rfl
theorem e_callD (m : Fn) (ψ : FA) : callD m ψ ds s = (ψ ds s).bind m := rfl
theorem e_callB (f : List D → Sto → Out D) (ψ : FA) : callB f ψ ds s = (ψ ds s).bind f := rfl
def isiE (f : List D → Sto → Out D) (x : D) (s : Sto) : Out D := f [x, .non] s
theorem e_isiD (φ : FE) (f : List D → Sto → Out D) : isiD φ f ds s = (φ ds s).bind (isiE f) := rfl
theorem e_isiE (f : List D → Sto → Out D) {x : D} : isiE f x s = f [x, .non] s := rfl
def methC (m : Fn) (x : D) (o : Out (List D)) : Out D := match o with
  | .ok xs s => m (x :: xs) s
  | .err c p s => .err c p s
  | _ => .bad
def methB (n : Nat) (m : Fn) (ψ : FA) (ds : DSt) (o : Out D) : Out D := match o with
  | .ok x s => if clsD x s = some n then methC m x (ψ ds s) else .bad
  | .err c p s => .err c p s
  | _ => .bad
theorem e_meth (n : Nat) (m : Fn) (φ : FE) (ψ : FA) : methD n m φ ψ ds s = methB n m ψ ds (φ ds s) := by
  unfold methD bindX methB
  cases φ ds s <;> first | rfl | skip
  rename_i x s1
  simp only [Out.bind, methC]
  split <;> first | rfl | skip
  cases ψ ds s1 <;> rfl
theorem e_methB (n : Nat) (m : Fn) (ψ : FA) {f : List D} : methB n m ψ ds (.ok (.ins n f) s) = methC m (.ins n f) (ψ ds s) := if_pos rfl
theorem e_methC (m : Fn) {x : D} {xs : List D} : methC m x (.ok xs s) = m (x :: xs) s := rfl
def propE (n : Nat) (m : Fn) (x : D) (s : Sto) : Out D := if clsD x s = some n then nb (m [x] s) else .bad
theorem e_prop (n : Nat) (m : Fn) (φ : FE) : propD n m φ ds s = (φ ds s).bind (propE n m) := rfl
theorem e_propE (n : Nat) (m : Fn) {f : List D} : propE n m (.ins n f) s = nb (m [.ins n f] s) := if_pos rfl
def makeE (n : Nat) (m : Fn) (xs : List D) (s : Sto) : Out D := (m (.cell s.length :: xs) (s ++ [.ins n []])).bind fun r s' => doneI n s.length r s'
theorem e_make (n : Nat) (m : Fn) (ψ : FA) : makeD n m ψ ds s = (ψ ds s).bind (makeE n m) := rfl
theorem e_binOwn {n : Nat} {m : Fn} {f g : List D} : binOwn n m (.ins n f) (.ins n g) s = m [.ins n f, .ins n g] s := by
  unfold binOwn
  simp only [clsD, decide_true, Bool.and_self, if_true]
theorem e_unOwn {n : Nat} {m : Fn} {f : List D} : unOwn n m (.ins n f) s = m [.ins n f] s := if_pos rfl
theorem e_ixOwn {n : Nat} {m : Fn} {f : List D} {y : D} : ixOwn n m (.ins n f) y s = m [.ins n f, y] s := if_pos rfl
def ansO (k : Bool → Bool) (o : Out D) : Out D := match o with
  | .ok (.bl b) s => .ok (.bl (k b)) s
  | _ => .bad
def strO (o : Out D) : Out D := match o with
  | .ok (.str b) s => .ok (.str b) s
  | _ => .bad
theorem e_cmpOwn {cs : List Nat} {n : Nat} {m : Fn} {k : Bool → Bool} {f : List D} {y : D} (h : rightD cs y s = true) : cmpOwn cs n m k (.ins n f) y s = ansO k (m [.ins n f, y] s) := by
  unfold cmpOwn ansO
  simp only [clsD, if_true, h] <;> (cases m [.ins n f, y] s <;> first | rfl | (rename_i x _; cases x <;> rfl))
theorem e_right_ins {cs : List Nat} {n : Nat} {f : List D} (h : n ∈ cs) : rightD cs (.ins n f) s = true := decide_eq_true h
theorem e_right_int {cs : List Nat} {i : Int} : rightD cs (.int i) s = true := rfl
theorem e_right_str {cs : List Nat} {i : Str} : rightD cs (.str i) s = true := rfl
theorem e_right_tup {cs : List Nat} {i : List D} : rightD cs (.tup i) s = true := rfl
theorem e_right_lst {cs : List Nat} {i : List D} : rightD cs (.lst i) s = true := rfl
theorem e_right_dic {cs : List Nat} {i : List (Key × D)} : rightD cs (.dic i) s = true := rfl
theorem e_right_bl {cs : List Nat} {i : Bool} : rightD cs (.bl i) s = true := rfl
theorem e_right_non {cs : List Nat} : rightD cs .non s = true := rfl
theorem e_ans {k : Bool → Bool} {b : Bool} : ansO k (.ok (.bl b) s) = .ok (.bl (k b)) s := rfl
theorem e_strOwn {n : Nat} {m : Fn} {f : List D} : strOwn n m [.ins n f] s = strO (m [.ins n f] s) := by
  unfold strOwn strO
  simp only [clsD, if_true] <;> (cases m [.ins n f] s <;> first | rfl | (rename_i x _; cases x <;> rfl))
theorem e_strO {z : Str} : strO (.ok (.str z) s) = .ok (.str z) s := rfl
theorem e_boolOwn {n : Nat} {m : Fn} {f : List D} : boolOwn n m [.ins n f] s = ansO id (m [.ins n f] s) := by
  unfold boolOwn ansO
  simp only [clsD, if_true] <;> (cases m [.ins n f] s <;> first | rfl | (rename_i x _; cases x <;> rfl))
theorem e_isiC_same {cs : List Nat} {n : Nat} {f : List D} {u : D} (h : n ∈ cs) : isiC cs n [.ins n f, u] s = .ok (.bl true) s := by
  show (if n ∈ cs then Out.ok (D.bl (n == n)) s else .bad) = _
  rw [if_pos h, beq_self_eq_true]
theorem e_isiC_diff {cs : List Nat} {k n : Nat} {f : List D} {u : D} (h : n ∈ cs) (hk : n ≠ k) : isiC cs k [.ins n f, u] s = .ok (.bl false) s := by
  show (if n ∈ cs then Out.ok (D.bl (n == k)) s else .bad) = _
  rw [if_pos h, beq_false_of_ne hk]
theorem isiC_k {cs : List Nat} {k : Nat} {x u : D} {n : String} (h : kindD x s = some n) : isiC cs k [x, u] s = .ok (.bl false) s := by
  simp only [isiC, h]
theorem isiT_k {cs : List Nat} {T : String} {x u : D} {n : String} (h : kindD x s = some n) : isiT cs T [x, u] s = .ok (.bl (Gl.isKind n T)) s := by
  simp only [isiT, h]
theorem e_isiC_int {cs : List Nat} {k : Nat} {u : D} {i : Int} : isiC cs k [(.int i), u] s = .ok (.bl false) s := isiC_k (n := "int") rfl
theorem e_isiT_int_int {cs : List Nat} {u : D} {i : Int} : isiT cs "int" [(.int i), u] s = .ok (.bl true) s := isiT_k (n := "int") rfl
theorem e_isiT_int_bool {cs : List Nat} {u : D} {i : Int} : isiT cs "bool" [(.int i), u] s = .ok (.bl false) s := isiT_k (n := "int") rfl
theorem e_isiT_int_str {cs : List Nat} {u : D} {i : Int} : isiT cs "str" [(.int i), u] s = .ok (.bl false) s := isiT_k (n := "int") rfl
theorem e_isiT_int_tuple {cs : List Nat} {u : D} {i : Int} : isiT cs "tuple" [(.int i), u] s = .ok (.bl false) s := isiT_k (n := "int") rfl
theorem e_isiT_int_list {cs : List Nat} {u : D} {i : Int} : isiT cs "list" [(.int i), u] s = .ok (.bl false) s := isiT_k (n := "int") rfl
theorem e_isiT_int_dict {cs : List Nat} {u : D} {i : Int} : isiT cs "dict" [(.int i), u] s = .ok (.bl false) s := isiT_k (n := "int") rfl
theorem e_isiC_str {cs : List Nat} {k : Nat} {u : D} {i : Str} : isiC cs k [(.str i), u] s = .ok (.bl false) s := isiC_k (n := "str") rfl
theorem e_isiT_str_int {cs : List Nat} {u : D} {i : Str} : isiT cs "int" [(.str i), u] s = .ok (.bl false) s := isiT_k (n := "str") rfl
theorem e_isiT_str_bool {cs : List Nat} {u : D} {i : Str} : isiT cs "bool" [(.str i), u] s = .ok (.bl false) s := isiT_k (n := "str") rfl
theorem e_isiT_str_str {cs : List Nat} {u : D} {i : Str} : isiT cs "str" [(.str i), u] s = .ok (.bl true) s := isiT_k (n := "str") rfl
theorem e_isiT_str_tuple {cs : List Nat} {u : D} {i : Str} : isiT cs "tuple" [(.str i), u] s = .ok (.bl false) s := isiT_k (n := "str") rfl
theorem e_isiT_str_list {cs : List Nat} {u : D} {i : Str} : isiT cs "list" [(.str i), u] s = .ok (.bl false) s := isiT_k (n := "str") rfl
theorem e_isiT_str_dict {cs : List Nat} {u : D} {i : Str} : isiT cs "dict" [(.str i), u] s = .ok (.bl false) s := isiT_k (n := "str") rfl
theorem e_isiC_bl {cs : List Nat} {k : Nat} {u : D} {i : Bool} : isiC cs k [(.bl i), u] s = .ok (.bl false) s := isiC_k (n := "bool") rfl
theorem e_isiT_bl_int {cs : List Nat} {u : D} {i : Bool} : isiT cs "int" [(.bl i), u] s = .ok (.bl true) s := isiT_k (n := "bool") rfl
theorem e_isiT_bl_bool {cs : List Nat} {u : D} {i : Bool} : isiT cs "bool" [(.bl i), u] s = .ok (.bl true) s := isiT_k (n := "bool") rfl
theorem e_isiT_bl_str {cs : List Nat} {u : D} {i : Bool} : isiT cs "str" [(.bl i), u] s = .ok (.bl false) s := isiT_k (n := "bool") rfl
theorem e_isiT_bl_tuple {cs : List Nat} {u : D} {i : Bool} : isiT cs "tuple" [(.bl i), u] s = .ok (.bl false) s := isiT_k (n := "bool") rfl
theorem e_isiT_bl_list {cs : List Nat} {u : D} {i : Bool} : isiT cs "list" [(.bl i), u] s = .ok (.bl false) s := isiT_k (n := "bool") rfl
theorem e_isiT_bl_dict {cs : List Nat} {u : D} {i : Bool} : isiT cs "dict" [(.bl i), u] s = .ok (.bl false) s := isiT_k (n := "bool") rfl
theorem e_isiC_tup {cs : List Nat} {k : Nat} {u : D} {i : List D} : isiC cs k [(.tup i), u] s = .ok (.bl false) s := isiC_k (n := "tuple") rfl
theorem e_isiT_tup_int {cs : List Nat} {u : D} {i : List D} : isiT cs "int" [(.tup i), u] s = .ok (.bl false) s := isiT_k (n := "tuple") rfl
theorem e_isiT_tup_bool {cs : List Nat} {u : D} {i : List D} : isiT cs "bool" [(.tup i), u] s = .ok (.bl false) s := isiT_k (n := "tuple") rfl
theorem e_isiT_tup_str {cs : List Nat} {u : D} {i : List D} : isiT cs "str" [(.tup i), u] s = .ok (.bl false) s := isiT_k (n := "tuple") rfl
theorem e_isiT_tup_tuple {cs : List Nat} {u : D} {i : List D} : isiT cs "tuple" [(.tup i), u] s = .ok (.bl true) s := isiT_k (n := "tuple") rfl
theorem e_isiT_tup_list {cs : List Nat} {u : D} {i : List D} : isiT cs "list" [(.tup i), u] s = .ok (.bl false) s := isiT_k (n := "tuple") rfl
theorem e_isiT_tup_dict {cs : List Nat} {u : D} {i : List D} : isiT cs "dict" [(.tup i), u] s = .ok (.bl false) s := isiT_k (n := "tuple") rfl
theorem e_isiC_lst {cs : List Nat} {k : Nat} {u : D} {i : List D} : isiC cs k [(.lst i), u] s = .ok (.bl false) s := isiC_k (n := "list") rfl
theorem e_isiT_lst_int {cs : List Nat} {u : D} {i : List D} : isiT cs "int" [(.lst i), u] s = .ok (.bl false) s := isiT_k (n := "list") rfl
theorem e_isiT_lst_bool {cs : List Nat} {u : D} {i : List D} : isiT cs "bool" [(.lst i), u] s = .ok (.bl false) s := isiT_k (n := "list") rfl
theorem e_isiT_lst_str {cs : List Nat} {u : D} {i : List D} : isiT cs "str" [(.lst i), u] s = .ok (.bl false) s := isiT_k (n := "list") rfl
theorem e_isiT_lst_tuple {cs : List Nat} {u : D} {i : List D} : isiT cs "tuple" [(.lst i), u] s = .ok (.bl false) s := isiT_k (n := "list") rfl
theorem e_isiT_lst_list {cs : List Nat} {u : D} {i : List D} : isiT cs "list" [(.lst i), u] s = .ok (.bl true) s := isiT_k (n := "list") rfl
theorem e_isiT_lst_dict {cs : List Nat} {u : D} {i : List D} : isiT cs "dict" [(.lst i), u] s = .ok (.bl false) s := isiT_k (n := "list") rfl
theorem e_isiC_dic {cs : List Nat} {k : Nat} {u : D} {i : List (Key × D)} : isiC cs k [(.dic i), u] s = .ok (.bl false) s := isiC_k (n := "dict") rfl
theorem e_isiT_dic_int {cs : List Nat} {u : D} {i : List (Key × D)} : isiT cs "int" [(.dic i), u] s = .ok (.bl false) s := isiT_k (n := "dict") rfl
theorem e_isiT_dic_bool {cs : List Nat} {u : D} {i : List (Key × D)} : isiT cs "bool" [(.dic i), u] s = .ok (.bl false) s := isiT_k (n := "dict") rfl
theorem e_isiT_dic_str {cs : List Nat} {u : D} {i : List (Key × D)} : isiT cs "str" [(.dic i), u] s = .ok (.bl false) s := isiT_k (n := "dict") rfl
theorem e_isiT_dic_tuple {cs : List Nat} {u : D} {i : List (Key × D)} : isiT cs "tuple" [(.dic i), u] s = .ok (.bl false) s := isiT_k (n := "dict") rfl
theorem e_isiT_dic_list {cs : List Nat} {u : D} {i : List (Key × D)} : isiT cs "list" [(.dic i), u] s = .ok (.bl false) s := isiT_k (n := "dict") rfl
theorem e_isiT_dic_dict {cs : List Nat} {u : D} {i : List (Key × D)} : isiT cs "dict" [(.dic i), u] s = .ok (.bl true) s := isiT_k (n := "dict") rfl
theorem e_isiC_non {cs : List Nat} {k : Nat} {u : D} : isiC cs k [.non, u] s = .ok (.bl false) s := isiC_k (n := "NoneType") rfl
theorem e_isiT_non_int {cs : List Nat} {u : D} : isiT cs "int" [.non, u] s = .ok (.bl false) s := isiT_k (n := "NoneType") rfl
theorem e_isiT_non_bool {cs : List Nat} {u : D} : isiT cs "bool" [.non, u] s = .ok (.bl false) s := isiT_k (n := "NoneType") rfl
theorem e_isiT_non_str {cs : List Nat} {u : D} : isiT cs "str" [.non, u] s = .ok (.bl false) s := isiT_k (n := "NoneType") rfl
theorem e_isiT_non_tuple {cs : List Nat} {u : D} : isiT cs "tuple" [.non, u] s = .ok (.bl false) s := isiT_k (n := "NoneType") rfl
theorem e_isiT_non_list {cs : List Nat} {u : D} : isiT cs "list" [.non, u] s = .ok (.bl false) s := isiT_k (n := "NoneType") rfl
theorem e_isiT_non_dict {cs : List Nat} {u : D} : isiT cs "dict" [.non, u] s = .ok (.bl false) s := isiT_k (n := "NoneType") rfl
theorem e_isiT_ins {cs : List Nat} {T : String} {n : Nat} {f : List D} {u : D} (h : n ∈ cs) : isiT cs T [.ins n f, u] s = .ok (.bl false) s := if_pos h
theorem e_add {a b : Int} : addD (.int a) (.int b) s = .ok (.int (a + b)) s := rfl
theorem e_sub {a b : Int} : subD (.int a) (.int b) s = .ok (.int (a - b)) s := rfl
theorem mulB_l {a b : Int} (h : sm64 a = true) : mulB a b = true := by unfold mulB; rw [h]; rfl
theorem mulB_r {a b : Int} (h : sm64 b = true) : mulB a b = true := by unfold mulB; rw [h, Bool.true_or, Bool.or_true]
theorem e_mul {a b : Int} (h : mulB a b = true) : mulD (.int a) (.int b) s = .ok (.int (a * b)) s := if_pos h
theorem e_mod {a b : Int} (h : 0 < b) : modD (.int a) (.int b) s = .ok (.int (a % b)) s := if_pos h
theorem e_div {a b : Int} (h : 0 < b) (h2 : b < Gl.B9) : divD (.int a) (.int b) s = .ok (.int (a / b)) s := by
  show (if (decide (0 < b) && decide (b < Gl.B9)) = true then Out.ok (D.int (a / b)) s else .bad) = _
  rw [decide_eq_true h, decide_eq_true h2]
  rfl
theorem e_lt {a b : Int} : ltD (.int a) (.int b) s = .ok (.bl (decide (a < b))) s := rfl
theorem e_le {a b : Int} : leD (.int a) (.int b) s = .ok (.bl (decide (a ≤ b))) s := rfl
theorem e_gt {a b : Int} : gtD (.int a) (.int b) s = .ok (.bl (decide (b < a))) s := rfl
theorem e_ge {a b : Int} : geD (.int a) (.int b) s = .ok (.bl (decide (b ≤ a))) s := rfl
theorem e_eq_int {a b : Int} : eqD (.int a) (.int b) s = .ok (.bl (decide (a = b))) s := rfl
theorem e_ne_int {a b : Int} : neD (.int a) (.int b) s = .ok (.bl (!decide (a = b))) s := rfl
theorem e_eq_str {a b : Str} : eqD (.str a) (.str b) s = .ok (.bl (decide (a = b))) s := rfl
theorem e_ne_str {a b : Str} : neD (.str a) (.str b) s = .ok (.bl (!decide (a = b))) s := rfl
theorem e_eq_bl {a b : Bool} : eqD (.bl a) (.bl b) s = .ok (.bl (decide (a = b))) s := rfl
theorem e_ne_bl {a b : Bool} : neD (.bl a) (.bl b) s = .ok (.bl (!decide (a = b))) s := rfl
theorem eqv_p2 (a b c d : Int) : PyData.eqv (.tuple [.int a, .int b]) (.tuple [.int c, .int d]) = (decide (a = c) && decide (b = d)) := by
  show (decide (a = c) && (decide (b = d) && true)) = _
  rw [Bool.and_true]
theorem e_eqP2 {a b c d : Int} : eqD (.tup [.int a, .int b]) (.tup [.int c, .int d]) s = .ok (.bl (decide (a = c) && decide (b = d))) s := by
  show Out.ok (D.bl (PyData.eqv (.tuple [.int a, .int b]) (.tuple [.int c, .int d]))) s = _
  rw [eqv_p2]
theorem e_neP2 {a b c d : Int} : neD (.tup [.int a, .int b]) (.tup [.int c, .int d]) s = .ok (.bl (!(decide (a = c) && decide (b = d)))) s := by
  show Out.ok (D.bl (!PyData.eqv (.tuple [.int a, .int b]) (.tuple [.int c, .int d]))) s = _
  rw [eqv_p2]
theorem e_isN_int {i : Int} : isND (.int i) .non s = .ok (.bl false) s := rfl
theorem e_isNN_int {i : Int} : isNotND (.int i) .non s = .ok (.bl true) s := rfl
theorem e_isN_str {i : Str} : isND (.str i) .non s = .ok (.bl false) s := rfl
theorem e_isNN_str {i : Str} : isNotND (.str i) .non s = .ok (.bl true) s := rfl
theorem e_isN_tup {i : List D} : isND (.tup i) .non s = .ok (.bl false) s := rfl
theorem e_isNN_tup {i : List D} : isNotND (.tup i) .non s = .ok (.bl true) s := rfl
theorem e_isN_lst {i : List D} : isND (.lst i) .non s = .ok (.bl false) s := rfl
theorem e_isNN_lst {i : List D} : isNotND (.lst i) .non s = .ok (.bl true) s := rfl
theorem e_isN_dic {i : List (Key × D)} : isND (.dic i) .non s = .ok (.bl false) s := rfl
theorem e_isNN_dic {i : List (Key × D)} : isNotND (.dic i) .non s = .ok (.bl true) s := rfl
theorem e_isN_bl {i : Bool} : isND (.bl i) .non s = .ok (.bl false) s := rfl
theorem e_isNN_bl {i : Bool} : isNotND (.bl i) .non s = .ok (.bl true) s := rfl
theorem e_isN_ins {n : Nat} {f : List D} : isND (.ins n f) .non s = .ok (.bl false) s := rfl
theorem e_isNN_ins {n : Nat} {f : List D} : isNotND (.ins n f) .non s = .ok (.bl true) s := rfl
theorem e_isN_non : isND .non .non s = .ok (.bl true) s := rfl
theorem e_isNN_non : isNotND .non .non s = .ok (.bl false) s := rfl
theorem e_len_tup {xs : List D} : lenD [.tup xs] s = .ok (.int xs.length) s := rfl
theorem e_len_lst {xs : List D} : lenD [.lst xs] s = .ok (.int xs.length) s := rfl
theorem e_len_scr {xs : List Int} : lenD [.scr xs] s = .ok (.int xs.length) s := rfl
theorem e_len_dic {xs : List (Key × D)} : lenD [.dic xs] s = .ok (.int xs.length) s := rfl
theorem e_abs {i : Int} : absD [.int i] s = .ok (.int (if i < 0 then -i else i)) s := rfl
theorem e_int {i : Int} : intD [.int i] s = .ok (.int i) s := rfl
theorem e_intB {i : Bool} : intD [.bl i] s = .ok (.int (if i then 1 else 0)) s := rfl
theorem e_max {i j : Int} : maxD [.int i, .int j] s = .ok (.int (if j > i then j else i)) s := rfl
theorem e_min {i j : Int} : minD [.int i, .int j] s = .ok (.int (if j < i then j else i)) s := rfl
theorem e_tuple_tup {xs : List D} : tupleD [.tup xs] s = .ok (.tup xs) s := rfl
theorem e_tuple_lst {xs : List D} : tupleD [.lst xs] s = .ok (.tup xs) s := rfl
theorem e_list_tup {xs : List D} : listD [.tup xs] s = .ok (.lst xs) s := rfl
theorem e_list_lst {xs : List D} : listD [.lst xs] s = .ok (.lst xs) s := rfl
theorem repr_eq {x : D} {q : PyData} (h : (vw x s).py = some q) (hc : canShow q = true) : reprD [x] s = .ok (.str q.shown) s := by
  simp only [reprD, h, hc, if_true]
theorem e_str {i : Int} (h : i.natAbs.log2 < 1920) : strD [.int i] s = .ok (.str (toString i)) s := if_pos h
theorem e_fmt {i : Int} (h : i.natAbs.log2 < 1920) : fmtD (.int i) s = .ok (.str (toString i)) s := if_pos h
theorem e_ixt0 {x : D} {xs : List D} : ixD (.tup (x :: xs)) (.int 0) s = .ok x s := by
  simp only [ixD, vw, atI, List.length_cons, Gl.ix_0, List.getElem?_cons_zero]
  rfl
theorem e_ixt1 {x y : D} {xs : List D} : ixD (.tup (x :: y :: xs)) (.int 1) s = .ok y s := by
  simp only [ixD, vw, atI, List.length_cons, Gl.ix_1]
  rfl
theorem e_ixl0 {x : D} {xs : List D} : ixD (.lst (x :: xs)) (.int 0) s = .ok x s := by
  simp only [ixD, vw, atI, List.length_cons, Gl.ix_0, List.getElem?_cons_zero]
  rfl
theorem e_ixl1 {x y : D} {xs : List D} : ixD (.lst (x :: y :: xs)) (.int 1) s = .ok y s := by
  simp only [ixD, vw, atI, List.length_cons, Gl.ix_1]
  rfl
theorem ix_lst {xs : List D} {i : Int} {d : D} (h : atI xs i = some d) : ixD (.lst xs) (.int i) s = .ok d s := by
  simp only [ixD, vw, h]
theorem e_it (φ : FE) : itD φ ds s = (φ ds s).bind itemsD := rfl
theorem e_items_tup {xs : List D} : itemsD (.tup xs) s = .ok xs s := rfl
theorem e_items_lst {xs : List D} : itemsD (.lst xs) s = .ok xs s := rfl
def rngE (xs : List D) (s : Sto) : Out (List D) := match xs with
  | [.int j] => if (decide (-(2 ^ 62) ≤ j) && decide (j < 2 ^ 62)) = true then .ok (rngL 0 j.toNat) s else .bad
  | _ => .bad
theorem e_rng1 (ψ : FA) : rng1D ψ ds s = (ψ ds s).bind rngE := rfl
theorem rngE_eq {j : Int} (h0 : -1000000 ≤ j) (h : j ≤ 1000000) : rngE [.int j] s = .ok (rngL 0 j.toNat) s := by
  show (if (decide (-(2 ^ 62 : Int) ≤ j) && decide (j < 2 ^ 62)) = true then Out.ok (rngL 0 j.toNat) s else .bad) = _
  rw [decide_eq_true (by omega), decide_eq_true (by omega)]
  rfl
def forE (γ : FG) (body : FS) (ds : DSt) (o : Out (List D)) : SOut := match o with
  | .ok xs s => forGo γ body xs ds s
  | .err c p s => .err c p ds s
  | .bad => .bad
def forO (γ : FG) (body : FS) (r : List D) (o : SOut) : SOut := match o with
  | .nx ds2 s2 => forGo γ body r ds2 s2
  | .ct ds2 s2 => forGo γ body r ds2 s2
  | .bk ds2 s2 => .nx ds2 s2
  | o => o
theorem e_for (η : FA) (γ : FG) (body : FS) : forS η γ body ds s = forE γ body ds (η ds s) := by
  unfold forS forE bindS
  cases η ds s <;> rfl
theorem e_forE (γ : FG) (body : FS) (xs : List D) : forE γ body ds (.ok xs s) = forGo γ body xs ds s := rfl
theorem e_forGo0 (γ : FG) (body : FS) : forGo γ body [] ds s = .nx ds s := rfl
theorem forGo1 (i : Nat) (body : FS) (x : D) (r : List D) : forGo (nameG i) body (x :: r) ds s = forO (nameG i) body r (body (ds.set i (some x)) s) := by
  simp only [forGo, nameG, forO] <;> (cases body (ds.set i (some x)) s <;> rfl)
theorem e_forO_nx (γ : FG) (body : FS) (r : List D) : forO γ body r (.nx ds s) = forGo γ body r ds s := rfl
theorem e_forO_ct (γ : FG) (body : FS) (r : List D) : forO γ body r (.ct ds s) = forGo γ body r ds s := rfl
theorem e_forO_bk (γ : FG) (body : FS) (r : List D) : forO γ body r (.bk ds s) = .nx ds s := rfl
theorem e_forO_rt (γ : FG) (body : FS) (r : List D) {d : D} : forO γ body r (.rt d s) = .rt d s := rfl
/-- a walk with an invariant -/
theorem for_inv {i : Nat} {body : FS} (I : Nat → DSt → Sto → Prop) : ∀ (xs : List D) (k : Nat) (ds : DSt) (s : Sto), I k ds s → (∀ (j : Nat) (x : D) (ds : DSt) (s : Sto), k ≤ j → xs[j - k]? = some x → I j ds s → ∃ ds' s', body (ds.set i (some x)) s = .nx ds' s' ∧ I (j + 1) ds' s') → ∃ ds' s', forGo (nameG i) body xs ds s = .nx ds' s' ∧ I (k + xs.length) ds' s'
  | [], k, ds, s, h, _ => ⟨ds, s, rfl, h⟩
  | x :: r, k, ds, s, h, st => by
    obtain ⟨d1, s1, e, h1⟩ := st k x ds s (Nat.le_refl _) (by rw [Nat.sub_self]; rfl) h
    obtain ⟨d2, s2, e2, h2⟩ := for_inv I r (k + 1) d1 s1 h1 fun j y ds s hj hy hI => st j y ds s (by omega) (by rw [show j - k = (j - (k + 1)) + 1 by omega]; exact hy) hI
    refine ⟨d2, s2, ?_, ?_⟩
    · rw [forGo1, e, e_forO_nx, e2]
    · rw [List.length_cons, show k + (r.length + 1) = k + 1 + r.length by omega]
      exact h2
theorem rng_at {lo : Int} {n j : Nat} {x : D} (h : (rngL lo n)[j]? = some x) : x = .int (lo + (j : Int)) ∧ j < n := by
  unfold rngL at h
  rw [List.getElem?_map] at h
  cases e : (List.range n)[j]? with
  | none => rw [e] at h; cases h
  | some k =>
    rw [e] at h
    have hl : j < n := by
      have := List.getElem?_eq_some_iff.mp e
      obtain ⟨q, _⟩ := this
      rw [List.length_range] at q
      exact q
    rw [List.getElem?_range hl] at e
    cases e
    cases h
    exact ⟨rfl, hl⟩
theorem rng_len (lo : Int) (n : Nat) : (rngL lo n).length = n := by
  unfold rngL
  rw [List.length_map, List.length_range]
/-- for i in range(n), with an invariant -/
theorem for_rng {i : Nat} {body : FS} {n : Nat} (I : Nat → DSt → Sto → Prop) {ds : DSt} {s : Sto} (h0 : I 0 ds s) (st : ∀ (j : Nat) (ds : DSt) (s : Sto), j < n → I j ds s → ∃ ds' s', body (ds.set i (some (.int (j : Int)))) s = .nx ds' s' ∧ I (j + 1) ds' s') : ∃ ds' s', forGo (nameG i) body (rngL 0 n) ds s = .nx ds' s' ∧ I n ds' s' := by
  obtain ⟨d, s', e, h⟩ := for_inv (i := i) (body := body) I (rngL 0 n) 0 ds s h0 fun j x ds s _ hx hI => by
    obtain ⟨rfl, hj⟩ := rng_at hx
    rw [Nat.sub_zero] at hj
    obtain ⟨d, s', e, h⟩ := st j ds s hj hI
    refine ⟨d, s', ?_, h⟩
    rw [Int.zero_add, Nat.sub_zero]
    exact e
  rw [Nat.zero_add, rng_len] at h
  exact ⟨d, s', e, h⟩
def lcE (γ : FG) (μ : FT) (φ : FE) (vs : List Nat) (ds : DSt) (xs : List D) (s : Sto) : Out (List D) := if xs.length < sizeLine then lcGo γ μ φ (wipeD ds vs) xs s else .bad
def lstR (ys : List D) (s : Sto) : Out D := .ok (.lst ys) s
def lstRC (ys : List D) (s : Sto) : Out D := .ok (.cell s.length) (s ++ [.lst ys])
theorem e_lcA (η : FA) (γ : FG) (μ : FT) (φ : FE) (vs : List Nat) : lcA η γ μ φ vs ds s = (η ds s).bind (lcE γ μ φ vs ds) := rfl
theorem e_lcD (η : FA) (γ : FG) (μ : FT) (φ : FE) (vs : List Nat) : lcD η γ μ φ vs ds s = (lcA η γ μ φ vs ds s).bind lstR := rfl
theorem e_lcC (η : FA) (γ : FG) (μ : FT) (φ : FE) (vs : List Nat) : lcC η γ μ φ vs ds s = (lcA η γ μ φ vs ds s).bind lstRC := rfl
theorem e_lstR {ys : List D} : lstR ys s = .ok (.lst ys) s := rfl
theorem lcE_eq {γ : FG} {μ : FT} {φ : FE} {vs : List Nat} {xs : List D} (h : xs.length ≤ 1000) : lcE γ μ φ vs ds xs s = lcGo γ μ φ (wipeD ds vs) xs s := if_pos (Nat.lt_of_le_of_lt h (by decide +kernel))
theorem e_wipe0 : wipeD ds [] = ds := rfl
theorem e_wipeS {v : Nat} {vs : List Nat} : wipeD ds (v :: vs) = (wipeD ds vs).set v none := rfl
def conJ (κ : FJ) (acc : Str) (ds : DSt) (o : Out D) : Out Str := match o with
  | .ok (.str y) s => if (acc ++ y).length ≤ sizeLine then κ (acc ++ y) ds s else .bad
  | .err c p s => .err c p s
  | _ => .bad
theorem e_consJ (φ : FE) (κ : FJ) (acc : Str) : consJ φ κ acc ds s = conJ κ acc ds (φ ds s) := by
  unfold consJ conJ Out.bind
  cases φ ds s <;> first | rfl | skip
  rename_i x s1
  cases x <;> rfl
theorem e_nilJ (acc : Str) : nilJ acc ds s = .ok acc s := rfl
def strR (z : Str) (s : Sto) : Out D := .ok (.str z) s
theorem e_join (κ : FJ) : joinD κ ds s = (κ Str.empty ds s).bind strR := rfl
theorem e_strR {z : Str} : strR z s = .ok (.str z) s := rfl
def dcE (x y : D) (o : Out (List (D × D))) : Out (List (D × D)) := match o with
  | .ok ps s => .ok ((x, y) :: ps) s
  | .err c p s => .err c p s
  | _ => .bad
def dcC (x : D) (π : FP) (ds : DSt) (o : Out D) : Out (List (D × D)) := match o with
  | .ok y s => dcE x y (π ds s)
  | .err c p s => .err c p s
  | _ => .bad
def dcB (ψ : FE) (π : FP) (ds : DSt) (o : Out D) : Out (List (D × D)) := match o with
  | .ok x s => dcC x π ds (ψ ds s)
  | .err c p s => .err c p s
  | _ => .bad
theorem e_dcons (φ ψ : FE) (π : FP) : dcons φ ψ π ds s = dcB ψ π ds (φ ds s) := by
  unfold dcons dcB
  cases φ ds s <;> first | rfl | skip
  rename_i x s1
  simp only [Out.bind, dcC]
  cases ψ ds s1 <;> first | rfl | skip
  rename_i y s2
  simp only [Out.bind, dcE]
  cases π ds s2 <;> rfl
theorem e_dcB (ψ : FE) (π : FP) {x : D} : dcB ψ π ds (.ok x s) = dcC x π ds (ψ ds s) := rfl
theorem e_dcC (π : FP) {x y : D} : dcC x π ds (.ok y s) = dcE x y (π ds s) := rfl
theorem e_dcE {x y : D} {ps : List (D × D)} : dcE x y (.ok ps s) = .ok ((x, y) :: ps) s := rfl
theorem e_dnil : dnil ds s = .ok [] s := rfl
def dicE (ps : List (D × D)) (s : Sto) : Out D := match keysOf ps with
  | some kvs => if kvs.length ≤ 15 then .ok (.dic (mergeKD [] kvs)) s else .bad
  | none => .bad
theorem e_dict (π : FP) : dictD π ds s = (nb (π ds s)).bind dicE := rfl
def setE (ds : DSt) (o : Option Sto) : SOut := match o with
  | some s' => .nx ds s'
  | none => .bad
def saC (tab : Nat → Option Nat) (d : D) (ds : DSt) (o : Out D) : SOut := match o with
  | .ok x s => setE ds (setAttrD tab x d s)
  | .err c p s => .err c p ds s
  | _ => .bad
def saB (tab : Nat → Option Nat) (φ : FE) (ds : DSt) (o : Out D) : SOut := match o with
  | .ok d s => saC tab d ds (φ ds s)
  | .err c p s => .err c p ds s
  | _ => .bad
theorem e_setAttr (tab : Nat → Option Nat) (φ ψ : FE) : setAttrS tab φ ψ ds s = saB tab φ ds (ψ ds s) := by
  unfold setAttrS saB bindS
  cases ψ ds s <;> first | rfl | skip
  rename_i d s1
  simp only [saC]
  cases φ ds s1 <;> rfl
theorem e_saB (tab : Nat → Option Nat) (φ : FE) {d : D} : saB tab φ ds (.ok d s) = saC tab d ds (φ ds s) := rfl
theorem e_saC (tab : Nat → Option Nat) {d x : D} : saC tab d ds (.ok x s) = setE ds (setAttrD tab x d s) := rfl
theorem e_setE : setE ds (some s) = .nx ds s := rfl
theorem e_trim_last {d : D} {c c1 : Cl} : trimO (s ++ [c]).length (.ok d (s ++ [c1])) = .ok d (s ++ [c1]) := by
  refine trim_le ?_
  simp only [List.length_append, List.length_cons, List.length_nil]
  exact Nat.le_refl _
theorem e_put00 {d : D} : putO 0 d [] = [some d] := rfl
theorem e_put11 {d x : D} : putO 1 d [some x] = [some x, some d] := rfl
theorem e_put22 {d x y : D} : putO 2 d [some x, some y] = [some x, some y, some d] := rfl
theorem e_put33 {d x y z : D} : putO 3 d [some x, some y, some z] = [some x, some y, some z, some d] := rfl
theorem e_put44 {d x y z w : D} : putO 4 d [some x, some y, some z, some w] = [some x, some y, some z, some w, some d] := rfl
def siE (x d : D) (ds : DSt) (o : Out D) : SOut := match o with
  | .ok y s => setE ds (setItD x y d s)
  | .err c p s => .err c p ds s
  | _ => .bad
def siC (φi : FE) (d : D) (ds : DSt) (o : Out D) : SOut := match o with
  | .ok x s => siE x d ds (φi ds s)
  | .err c p s => .err c p ds s
  | _ => .bad
def siB (φx φi : FE) (ds : DSt) (o : Out D) : SOut := match o with
  | .ok d s => siC φi d ds (φx ds s)
  | .err c p s => .err c p ds s
  | _ => .bad
theorem e_setIt (φx φi φv : FE) : setItS φx φi φv ds s = siB φx φi ds (φv ds s) := by
  unfold setItS siB bindS
  cases φv ds s <;> first | rfl | skip
  rename_i d s1
  simp only [siC]
  cases φx ds s1 <;> first | rfl | skip
  rename_i x s2
  simp only [siE]
  cases φi ds s2 <;> rfl
theorem e_siB (φx φi : FE) {d : D} : siB φx φi ds (.ok d s) = siC φi d ds (φx ds s) := rfl
theorem e_siC (φi : FE) {d x : D} : siC φi d ds (.ok x s) = siE x d ds (φi ds s) := rfl
theorem e_siE {x y d : D} : siE x d ds (.ok y s) = setE ds (setItD x y d s) := rfl
def lcK (y : D) (o : Out (List D)) : Out (List D) := match o with
  | .ok ys s => .ok (y :: ys) s
  | .err c p s => .err c p s
  | _ => .bad
def lcB (γ : FG) (μ : FT) (φ : FE) (ds : DSt) (r : List D) (o : Out D) : Out (List D) := match o with
  | .ok y s => if nc y = true then lcK y (lcGo γ μ φ ds r s) else .bad
  | .err c p s => .err c p s
  | _ => .bad
theorem e_lcGo0 (γ : FG) (μ : FT) (φ : FE) : lcGo γ μ φ ds [] s = .ok [] s := rfl
theorem e_lcGoY (i : Nat) (φ : FE) (x : D) (r : List D) : lcGo (nameG i) yesD φ ds (x :: r) s = lcB (nameG i) yesD φ ds r (nb (φ (ds.set i (some x)) s)) := by
  show ((nb (φ (ds.set i (some x)) s)).bind fun y s2 => if nc y = true then (lcGo (nameG i) yesD φ ds r s2).bind fun ys s3 => .ok (y :: ys) s3 else .bad) = _
  cases nb (φ (ds.set i (some x)) s) <;> first | rfl | skip
  rename_i y s1
  simp only [Out.bind, lcB, lcK]
  split <;> first | rfl | skip
  cases lcGo (nameG i) yesD φ ds r s1 <;> rfl
theorem e_lcB (γ : FG) (μ : FT) (φ : FE) {r : List D} {y : D} (h : nc y = true) : lcB γ μ φ ds r (.ok y s) = lcK y (lcGo γ μ φ ds r s) := if_pos h
theorem e_lcK {y : D} {ys : List D} : lcK y (.ok ys s) = .ok (y :: ys) s := rfl
theorem pow_eq {a b : Int} (h : (decide (0 ≤ b) && decide ((Builtin.Int.intBits a : Int) * b ≤ 2 ^ 27)) = true) : powD (.int a) (.int b) s = .ok (.int (a ^ b.toNat)) s := if_pos h
theorem trim_new {c : Cl} : trimO s.length (.ok (.cell s.length) (s ++ [c])) = .ok (.cell s.length) (s ++ [c]) := by
  show Out.ok _ (trimS s.length [.cell s.length] (s ++ [c])) = _
  unfold trimS
  rw [if_neg (by rw [List.length_append, List.length_cons, List.length_nil]; omega), if_neg]
  simp only [List.all_cons, belowD, Nat.lt_irrefl, decide_false, Bool.false_and, Bool.false_eq_true, not_false_eq_true]
/-! ### dice -/
structure Dn (n : Nat) (s : Sto) : Prop where
  at_ : ∃ l k c : Int, s[n]? = some (.lst [.int l, .int k, .int c])
  calm : ∀ m, okS m s = true
theorem Dn.lt {n : Nat} (h : Dn n s) : n < s.length := by
  obtain ⟨l, k, c, e⟩ := h.at_
  exact (List.getElem?_eq_some_iff.mp e).1
theorem Dn.put {n : Nat} (h : Dn n s) (l k c : Int) : Dn n (s.set n (.lst [.int l, .int k, .int c])) := by
  refine ⟨⟨l, k, c, ?_⟩, fun m => ?_⟩
  · rw [List.getElem?_set_self h.lt]
  · have := h.calm m
    unfold okS at this ⊢
    rw [List.all_eq_true] at this ⊢
    intro x hx
    rcases List.mem_or_eq_of_mem_set hx with q | rfl
    · exact this x q
    · rfl
theorem calm_nil : ∀ m, okS m [] = true := fun _ => rfl
theorem Dn.new (hs : ∀ m, okS m s = true) (l k c : Int) : Dn s.length (s ++ [.lst [.int l, .int k, .int c]]) := by
  refine ⟨⟨l, k, c, by rw [List.getElem?_append_right (Nat.le_refl _), Nat.sub_self]; rfl⟩, fun m => ?_⟩
  have := hs m
  unfold okS at this ⊢
  rw [List.all_append, this]
  rfl
theorem ix_cell {n : Nat} {xs : List D} {i : Int} {d : D} (e : s[n]? = some (.lst xs)) (h : atI xs i = some d) : ixD (.cell n) (.int i) s = .ok d s := by
  simp only [ixD, vw, e, h]
theorem setItD_eq {n j : Nat} {xs : List D} {i : Int} {d : D} (e : s[n]? = some (.lst xs)) (h : ixN xs.length i = some j) (hd : nc d = true) : setItD (.cell n) (.int i) d s = some (s.set n (.lst (xs.set j d))) := by
  simp only [setItD, e, h, hd, if_true]
/-- all of them, in one -/
def evAll := And.intro @e_bind_ok (And.intro @e_bind_err (And.intro @e_bindX (And.intro @e_seq (And.intro @e_seqO_nx (And.intro @e_seqO_rt (And.intro @e_seqO_bk (And.intro @e_seqO_ct (And.intro @e_seqO_err (And.intro @e_nil (And.intro @e_brk (And.intro @e_cnt (And.intro @e_retN (And.intro @e_expr (And.intro @e_exprB (And.intro @e_exprB_err (And.intro @e_ret (And.intro @e_retB (And.intro @e_retB_err (And.intro @e_if (And.intro @e_ifB_t (And.intro @e_ifB_f (And.intro @e_ifB_err (And.intro @e_asg (And.intro @e_asgB (And.intro @e_asgB_err (And.intro @e_asgO (And.intro @e_name (And.intro @e_nilG (And.intro @e_consG (And.intro @e_consE (And.intro @e_tupG (And.intro @e_par (And.intro @e_parE (And.intro @e_par3 (And.intro @e_par3E (And.intro @e_var0 (And.intro @e_varS (And.intro @e_c (And.intro @e_nilD (And.intro @e_cons (And.intro @e_consB (And.intro @e_consB_err (And.intro @e_consC (And.intro @e_consC_err (And.intro @e_op2 (And.intro @e_opB (And.intro @e_opB_err (And.intro @e_opC (And.intro @e_opC_err (And.intro @e_test (And.intro @e_asB (And.intro @e_not (And.intro @e_neg (And.intro @e_and (And.intro @e_andB_go (And.intro @e_andB_st (And.intro @e_andB_err (And.intro @e_andT (And.intro @e_andT_go (And.intro @e_andT_st (And.intro @e_andT_err (And.intro @e_or (And.intro @e_orB_go (And.intro @e_orB_st (And.intro @e_orB_err (And.intro @e_orT (And.intro @e_orT_go (And.intro @e_orT_st (And.intro @e_orT_err (And.intro @e_notT (And.intro @e_notE (And.intro @e_ifD (And.intro @e_ifE_t (And.intro @e_ifE_f (And.intro @e_ifE_err (And.intro @e_yes (And.intro @e_chain (And.intro @e_chB (And.intro @e_chC (And.intro @e_chE_t (And.intro @e_chE_f (And.intro @e_tup (And.intro @e_lst (And.intro @e_lstC (And.intro @e_tupE0 (And.intro @e_lstE0 (And.intro @e_lstCE0 (And.intro @e_tupE1 (And.intro @e_lstE1 (And.intro @e_lstCE1 (And.intro @e_tupE2 (And.intro @e_lstE2 (And.intro @e_lstCE2 (And.intro @e_tupE3 (And.intro @e_lstE3 (And.intro @e_lstCE3 (And.intro @e_tupE4 (And.intro @e_lstE4 (And.intro @e_lstCE4 (And.intro @e_tupE5 (And.intro @e_lstE5 (And.intro @e_lstCE5 (And.intro @e_tupE6 (And.intro @e_lstE6 (And.intro @e_lstCE6 (And.intro @e_tupE7 (And.intro @e_lstE7 (And.intro @e_lstCE7 (And.intro @e_tupE8 (And.intro @e_lstE8 (And.intro @e_lstCE8 (And.intro @e_tupE9 (And.intro @e_lstE9 (And.intro @e_lstCE9 (And.intro @e_tupE10 (And.intro @e_lstE10 (And.intro @e_lstCE10 (And.intro @e_tupE11 (And.intro @e_lstE11 (And.intro @e_lstCE11 (And.intro @e_tupE12 (And.intro @e_lstE12 (And.intro @e_lstCE12 (And.intro @e_nc_int (And.intro @e_nc_str (And.intro @e_nc_bl (And.intro @e_nc_tup (And.intro @e_nc_lst (And.intro @e_nc_dic (And.intro @e_nc_scr (And.intro @e_nc_non (And.intro @e_nc_ins (And.intro @e_raw (And.intro @e_end_rt (And.intro @e_end_nx (And.intro @e_end_err (And.intro @e_trim_self (And.intro @e_trim_errS (And.intro @e_body1 (And.intro @e_body0 (And.intro @e_body2 (And.intro @e_body3 (And.intro @e_body4 (And.intro @e_body5 (And.intro @e_body6 (And.intro @e_guard (And.intro @e_nb_ok (And.intro @e_rep0 (And.intro @e_repS (And.intro @e_set0 (And.intro @e_setS (And.intro @e_callD (And.intro @e_callB (And.intro @e_isiD (And.intro @e_isiE (And.intro @e_meth (And.intro @e_methB (And.intro @e_methC (And.intro @e_prop (And.intro @e_propE (And.intro @e_make (And.intro @e_binOwn (And.intro @e_unOwn (And.intro @e_ixOwn (And.intro @e_cmpOwn (And.intro @e_right_ins (And.intro @e_right_int (And.intro @e_right_str (And.intro @e_right_tup (And.intro @e_right_lst (And.intro @e_right_dic (And.intro @e_right_bl (And.intro @e_right_non (And.intro @e_ans (And.intro @e_strOwn (And.intro @e_strO (And.intro @e_boolOwn (And.intro @e_isiC_same (And.intro @e_isiC_diff (And.intro @e_isiC_int (And.intro @e_isiT_int_int (And.intro @e_isiT_int_bool (And.intro @e_isiT_int_str (And.intro @e_isiT_int_tuple (And.intro @e_isiT_int_list (And.intro @e_isiT_int_dict (And.intro @e_isiC_str (And.intro @e_isiT_str_int (And.intro @e_isiT_str_bool (And.intro @e_isiT_str_str (And.intro @e_isiT_str_tuple (And.intro @e_isiT_str_list (And.intro @e_isiT_str_dict (And.intro @e_isiC_bl (And.intro @e_isiT_bl_int (And.intro @e_isiT_bl_bool (And.intro @e_isiT_bl_str (And.intro @e_isiT_bl_tuple (And.intro @e_isiT_bl_list (And.intro @e_isiT_bl_dict (And.intro @e_isiC_tup (And.intro @e_isiT_tup_int (And.intro @e_isiT_tup_bool (And.intro @e_isiT_tup_str (And.intro @e_isiT_tup_tuple (And.intro @e_isiT_tup_list (And.intro @e_isiT_tup_dict (And.intro @e_isiC_lst (And.intro @e_isiT_lst_int (And.intro @e_isiT_lst_bool (And.intro @e_isiT_lst_str (And.intro @e_isiT_lst_tuple (And.intro @e_isiT_lst_list (And.intro @e_isiT_lst_dict (And.intro @e_isiC_dic (And.intro @e_isiT_dic_int (And.intro @e_isiT_dic_bool (And.intro @e_isiT_dic_str (And.intro @e_isiT_dic_tuple (And.intro @e_isiT_dic_list (And.intro @e_isiT_dic_dict (And.intro @e_isiC_non (And.intro @e_isiT_non_int (And.intro @e_isiT_non_bool (And.intro @e_isiT_non_str (And.intro @e_isiT_non_tuple (And.intro @e_isiT_non_list (And.intro @e_isiT_non_dict (And.intro @e_isiT_ins (And.intro @e_add (And.intro @e_sub (And.intro @e_mul (And.intro @e_mod (And.intro @e_div (And.intro @e_lt (And.intro @e_le (And.intro @e_gt (And.intro @e_ge (And.intro @e_eq_int (And.intro @e_ne_int (And.intro @e_eq_str (And.intro @e_ne_str (And.intro @e_eq_bl (And.intro @e_ne_bl (And.intro @e_eqP2 (And.intro @e_neP2 (And.intro @e_isN_int (And.intro @e_isNN_int (And.intro @e_isN_str (And.intro @e_isNN_str (And.intro @e_isN_tup (And.intro @e_isNN_tup (And.intro @e_isN_lst (And.intro @e_isNN_lst (And.intro @e_isN_dic (And.intro @e_isNN_dic (And.intro @e_isN_bl (And.intro @e_isNN_bl (And.intro @e_isN_ins (And.intro @e_isNN_ins (And.intro @e_isN_non (And.intro @e_isNN_non (And.intro @e_len_tup (And.intro @e_len_lst (And.intro @e_len_scr (And.intro @e_len_dic (And.intro @e_abs (And.intro @e_int (And.intro @e_intB (And.intro @e_max (And.intro @e_min (And.intro @e_tuple_tup (And.intro @e_tuple_lst (And.intro @e_list_tup (And.intro @e_list_lst (And.intro @e_str (And.intro @e_fmt (And.intro @e_ixt0 (And.intro @e_ixt1 (And.intro @e_ixl0 (And.intro @e_ixl1 (And.intro @e_it (And.intro @e_items_tup (And.intro @e_items_lst (And.intro @e_rng1 (And.intro @e_for (And.intro @e_forE (And.intro @e_forGo0 (And.intro @e_forO_nx (And.intro @e_forO_ct (And.intro @e_forO_bk (And.intro @e_forO_rt (And.intro @e_lcA (And.intro @e_lcD (And.intro @e_lcC (And.intro @e_lstR (And.intro @e_wipe0 (And.intro @e_wipeS (And.intro @e_consJ (And.intro @e_nilJ (And.intro @e_join (And.intro @e_strR (And.intro @e_dcons (And.intro @e_dcB (And.intro @e_dcC (And.intro @e_dcE (And.intro @e_dnil (And.intro @e_dict (And.intro @e_setAttr (And.intro @e_saB (And.intro @e_saC (And.intro @e_setE (And.intro @e_trim_last (And.intro @e_put00 (And.intro @e_put11 (And.intro @e_put22 (And.intro @e_put33 (And.intro @e_put44 (And.intro @e_setIt (And.intro @e_siB (And.intro @e_siC (And.intro @e_siE (And.intro @e_lcGo0 (And.intro @e_lcGoY (And.intro @e_lcB @e_lcK)))))))))))))))))))))))))))))))))))))))))))))))))))))))))))))))))))))))))))))))))))))))))))))))))))))))))))))))))))))))))))))))))))))))))))))))))))))))))))))))))))))))))))))))))))))))))))))))))))))))))))))))))))))))))))))))))))))))))))))))))))))))))))))))))))))))))))))))))))))))))))))))))))))))))))))))))))))))))))))))))))))
end
end Md

set_option Elab.async false
set_option maxRecDepth 100000
set_option maxHeartbeats 4000000
set_option linter.all false
/-! the mirror layer: from a law's data to its promise -/
namespace Md
open PySem PySem.Spec PyProof.Rows L2
/-- at the start: the script may stand, and tables of code objects -/
def Start (H : Hp) : Prop := ∀ b, H b = none ∨ (∃ ps, H b = some (.tbl ps)) ∨ ∃ o xs, H b = some (.frz o (.lst xs))
/-- True, for every script of at most 63 numbers, where the tables T stand -/
def spLT (T : List (Addr × Str)) (K : PySem.W.Frag) : Sp := fun vs H Q _ => ∃ (a : Addr) (ns : List Int), vs = [.ref a] ∧ SqL K H a (ns.map V.int) ∧ ns.length ≤ 63 ∧ Start H ∧ LamX.Tabs T H ∧ ∀ H', Q (.bl true) H'
abbrev spL (K : PySem.W.Frag) : Sp := spLT [] K
/-- what is frozen at the start -/
def fzH (H : Hp) : Hp := fun b => match H b with
  | some (.frz o u) => some (.frz o u)
  | _ => none
theorem fzH_of {H : Hp} {b : Addr} {v : HO} (e : fzH H b = some v) : H b = some v ∧ ∃ o u, v = .frz o u := by
  unfold fzH at e
  split at e
  · rename_i o u q
    cases e
    exact ⟨q, _, _, rfl⟩
  · cases e
theorem spL_of {K : PySem.W.Frag} {Γ : Gam} {m : Fn} (h : ∀ ns : List Int, ns.length ≤ 63 → ∃ s', m [.scr ns] [] = .ok (.bl true) s') {vs : List V} {H : Hp} {Q : VK} {E : XK} (p : spLT Γ.T K vs H Q E) : spD K Γ m vs H Q E := by
  obtain ⟨a, ns, rfl, hS, hl, hst, hT, k⟩ := p
  obtain ⟨s', e⟩ := h ns hl
  have fS : SqL K (fzH H) a (ns.map V.int) := by
    rcases hS with (z | ⟨o, z⟩) | z
    · rcases hst a with q | ⟨ps, q⟩ | ⟨o, xs, q⟩
      · rw [z] at q; cases q
      · rw [z] at q; cases q
      · rw [z] at q; cases q
    · exact Or.inl (Or.inr ⟨o, by unfold fzH; rw [z]⟩)
    · exact Or.inr z
  refine ⟨fun _ => none, fzH H, [], [], [.scr ns], .cons (.scr fS) .nil, ⟨fun b v q => (fzH_of q).1, (fun _ _ e => nomatch e), (fun _ _ e => nomatch e), List.nodup_nil, rfl, (fun _ e => nomatch e), (fun _ _ _ e => nomatch e), ⟨hT, fun b v q => ?_, (fun _ _ z => nomatch z), (fun _ z => nomatch z), (fun _ _ z => nomatch z)⟩⟩, ?_⟩
  · obtain ⟨_, o, u, rfl⟩ := fzH_of q
    exact Pl.of (fun _ z => nomatch z) (fun _ z => nomatch z)
  rw [e]
  intro v H' F' ι' _ _ r
  cases r
  exact k H'
theorem fin_law {P : Program} {w : World} {K : PySem.W.Frag} {mg : Str → Option Value} {base : Heap} {Γ : Gam} {m : Fn} {n : Nat} {fa : Addr} {fd : FuncData} {ps : List Str} (F : Gl.FnG P w K mg base CX0 n fa fd ps (spD K Γ m)) (h : ∀ ns : List Int, ns.length ≤ 63 → ∃ s', m [.scr ns] [] = .ok (.bl true) s') : Gl.FnG P w K mg base CX0 n fa fd ps (spLT Γ.T K) :=
  ⟨fun vs H Q E p => F.len vs H Q E (spL_of h p), fun A outer s H args us vs Q E a b c d e p => F.go A outer s H args us vs Q E a b c d e (spL_of h p)⟩
end Md

set_option Elab.async false
set_option maxRecDepth 100000
set_option maxHeartbeats 4000000
set_option linter.all false
/-! points, their algebra and their sizes: no program in sight -/
namespace Pl
open PySem Md
def mulX (a b c d : Int) : Int := a * c - b * d
def mulY (tri : Bool) (a b c d : Int) : Int := a * d + b * c + (if tri then b * d else 0)
def nrm (tri : Bool) (a b : Int) : Int := a * a + b * b + (if tri then a * b else 0)
def flX (tri : Bool) (a b : Int) : Int := if tri then a + b else a
def nUn (tri : Bool) : Int := if tri then 6 else 4
def uX (tri : Bool) (r : Int) : Int := if tri then (if r = 0 then 1 else if r = 1 then 0 else if r = 2 then -1 else if r = 3 then -1 else if r = 4 then 0 else 1) else (if r = 0 then 1 else if r = 1 then 0 else if r = 2 then -1 else 0)
def uY (tri : Bool) (r : Int) : Int := if tri then (if r = 0 then 0 else if r = 1 then 1 else if r = 2 then 1 else if r = 3 then 0 else if r = 4 then -1 else -1) else (if r = 0 then 0 else if r = 1 then 1 else if r = 2 then 0 else -1)
theorem abs_mul_lt {a c : Int} {B : Nat} (h1 : a.natAbs < B) (h2 : c.natAbs < B) : (a * c).natAbs < B * B := by
  rw [Int.natAbs_mul]
  exact Nat.mul_lt_mul'' h1 h2
theorem mulX_lt {a b c d : Int} {B : Nat} (ha : a.natAbs < B) (hb : b.natAbs < B) (hc : c.natAbs < B) (hd : d.natAbs < B) : (mulX a b c d).natAbs < 3 * (B * B) := by
  have h1 := abs_mul_lt ha hc
  have h2 := abs_mul_lt hb hd
  unfold mulX
  generalize a * c = x at *
  generalize b * d = y at *
  omega
theorem mulY_lt {tri : Bool} {a b c d : Int} {B : Nat} (ha : a.natAbs < B) (hb : b.natAbs < B) (hc : c.natAbs < B) (hd : d.natAbs < B) : (mulY tri a b c d).natAbs < 3 * (B * B) := by
  have h1 := abs_mul_lt ha hd
  have h2 := abs_mul_lt hb hc
  have h3 := abs_mul_lt hb hd
  unfold mulY
  generalize a * d = x at *
  generalize b * c = y at *
  generalize b * d = z at *
  split <;> omega
theorem nrm_lt {tri : Bool} {a b : Int} {B : Nat} (ha : a.natAbs < B) (hb : b.natAbs < B) : (nrm tri a b).natAbs < 3 * (B * B) := by
  have h1 := abs_mul_lt ha ha
  have h2 := abs_mul_lt hb hb
  have h3 := abs_mul_lt ha hb
  unfold nrm
  generalize a * a = x at *
  generalize b * b = y at *
  generalize a * b = z at *
  split <;> omega
theorem flX_lt {tri : Bool} {a b : Int} {B : Nat} (ha : a.natAbs < B) (hb : b.natAbs < B) : (flX tri a b).natAbs < 2 * B := by
  unfold flX
  split <;> omega
/-! ### bounds, by figures -/
def Bd (n : Nat) (x : Int) : Prop := x.natAbs < 10 ^ n
theorem Bd.up {n m : Nat} {x : Int} (h : Bd n x) (e : n ≤ m) : Bd m x := Nat.lt_of_lt_of_le h (Nat.pow_le_pow_right (by decide) e)
theorem bd3 (n : Nat) : 3 * (10 ^ n * 10 ^ n) ≤ 10 ^ (2 * n + 1) := by
  rw [Nat.pow_succ, Nat.two_mul, Nat.pow_add]
  omega
theorem bd2 (n : Nat) : 2 * 10 ^ n ≤ 10 ^ (n + 1) := by
  rw [Nat.pow_succ]; omega
theorem Bd.mulX {n : Nat} {a b c d : Int} (ha : Bd n a) (hb : Bd n b) (hc : Bd n c) (hd : Bd n d) : Bd (2 * n + 1) (mulX a b c d) := Nat.lt_of_lt_of_le (mulX_lt ha hb hc hd) (bd3 n)
theorem Bd.mulY {n : Nat} {tri : Bool} {a b c d : Int} (ha : Bd n a) (hb : Bd n b) (hc : Bd n c) (hd : Bd n d) : Bd (2 * n + 1) (mulY tri a b c d) := Nat.lt_of_lt_of_le (mulY_lt ha hb hc hd) (bd3 n)
theorem Bd.nrm {n : Nat} {tri : Bool} {a b : Int} (ha : Bd n a) (hb : Bd n b) : Bd (2 * n + 1) (nrm tri a b) := Nat.lt_of_lt_of_le (nrm_lt ha hb) (bd3 n)
theorem Bd.flX {n : Nat} {tri : Bool} {a b : Int} (ha : Bd n a) (hb : Bd n b) : Bd (n + 1) (flX tri a b) := Nat.lt_of_lt_of_le (flX_lt ha hb) (bd2 n)
theorem Bd.add {n : Nat} {a b : Int} (ha : Bd n a) (hb : Bd n b) : Bd (n + 1) (a + b) := by
  refine Nat.lt_of_lt_of_le ?_ (bd2 n)
  unfold Bd at ha hb
  generalize 10 ^ n = B at *
  omega
theorem Bd.neg {n : Nat} {a : Int} (ha : Bd n a) : Bd n (-a) := by
  unfold Bd; rw [Int.natAbs_neg]; exact ha
theorem log_lt {n k : Nat} (h : n < 2 ^ k) (hk : 0 < k) : n.log2 < k := by
  by_cases z : n = 0
  · subst z
    rw [Nat.log2_zero]
    exact hk
  · exact (Nat.log2_lt z).mpr h
theorem Bd.smB {n : Nat} {x : Int} (h : Bd n x) (e : n ≤ 10000) : Md.smB x = true := decide_eq_true (log_lt (Nat.lt_of_lt_of_le (h.up e) (by decide +kernel)) (by decide))
theorem Bd.str {n : Nat} {x : Int} (h : Bd n x) (e : n ≤ 577) : x.natAbs.log2 < 1920 := log_lt (Nat.lt_of_lt_of_le (h.up e) (by decide +kernel)) (by decide)
theorem Bd.sub {n : Nat} {a b : Int} (ha : Bd n a) (hb : Bd n b) : Bd (n + 1) (a - b) := by
  rw [Int.sub_eq_add_neg]
  exact ha.add hb.neg
theorem Bd.mul {n m : Nat} {a b : Int} (ha : Bd n a) (hb : Bd m b) : Bd (n + m) (a * b) := by
  unfold Bd
  rw [Int.natAbs_mul, Nat.pow_add]
  exact Nat.mul_lt_mul'' ha hb
/-! ### the algebra of points -/
/-- times the divisor and its conjugate -/
theorem back (tri : Bool) (x y c d : Int) : mulX (mulX x y c d) (mulY tri x y c d) (flX tri c d) (-d) = x * nrm tri c d ∧ mulY tri (mulX x y c d) (mulY tri x y c d) (flX tri c d) (-d) = y * nrm tri c d := by
  unfold nrm mulX mulY flX; cases tri <;> simp only [if_true, Bool.false_eq_true, if_false] <;> constructor <;> grind
/-! ### turning -/
def rX (tri : Bool) (a b n : Int) : Int := mulX a b (uX tri (n % nUn tri)) (uY tri (n % nUn tri))
def rY (tri : Bool) (a b n : Int) : Int := mulY tri a b (uX tri (n % nUn tri)) (uY tri (n % nUn tri))
theorem Bd.u (tri : Bool) (r : Int) : Bd 1 (uX tri r) ∧ Bd 1 (uY tri r) := by
  have h : ∀ x : Int, x = 0 ∨ x = 1 ∨ x = -1 → Bd 1 x := fun x hx => by show x.natAbs < 10 ^ 1; omega
  constructor
  · refine h _ ?_
    unfold uX; repeat' split
    all_goals omega
  · refine h _ ?_
    unfold uY; repeat' split
    all_goals omega
theorem Bd.r {k : Nat} {tri : Bool} {a b : Int} (n : Int) (ha : Bd k a) (hb : Bd k b) (hk : 1 ≤ k) : Bd (2 * k + 1) (rX tri a b n) ∧ Bd (2 * k + 1) (rY tri a b n) :=
  ⟨Bd.mulX ha hb ((Bd.u _ _).1.up hk) ((Bd.u _ _).2.up hk), Bd.mulY ha hb ((Bd.u _ _).1.up hk) ((Bd.u _ _).2.up hk)⟩
/-! ### powers -/
def pwX (tri : Bool) (a b : Int) : Nat → Int × Int
  | 0 => (1, 0)
  | n + 1 => (mulX (pwX tri a b n).1 (pwX tri a b n).2 a b, mulY tri (pwX tri a b n).1 (pwX tri a b n).2 a b)
theorem Bd.mulX2 {n m : Nat} {a b c d : Int} (ha : Bd n a) (hb : Bd n b) (hc : Bd m c) (hd : Bd m d) : Bd (n + m + 1) (Pl.mulX a b c d) := (ha.mul hc).sub (hb.mul hd)
theorem bd33 (n : Nat) : 3 * 10 ^ n ≤ 10 ^ (n + 1) := by rw [Nat.pow_succ]; omega
theorem Bd.mulY2 {n m : Nat} {tri : Bool} {a b c d : Int} (ha : Bd n a) (hb : Bd n b) (hc : Bd m c) (hd : Bd m d) : Bd (n + m + 1) (Pl.mulY tri a b c d) := by
  have h1 := ha.mul hd
  have h2 := hb.mul hc
  have h3 := hb.mul hd
  refine Nat.lt_of_lt_of_le ?_ (bd33 (n + m))
  unfold Bd at h1 h2 h3
  unfold Pl.mulY
  generalize a * d = x at *
  generalize b * c = y at *
  generalize b * d = z at *
  generalize 10 ^ (n + m) = B at *
  split <;> omega
theorem Bd.pw {k : Nat} {tri : Bool} {a b : Int} (ha : Bd k a) (hb : Bd k b) : ∀ n : Nat, Bd ((k + 1) * n + 1) (pwX tri a b n).1 ∧ Bd ((k + 1) * n + 1) (pwX tri a b n).2
  | 0 => ⟨by show (1 : Int).natAbs < 10 ^ ((k + 1) * 0 + 1); rw [Nat.mul_zero]; decide, by show (0 : Int).natAbs < 10 ^ ((k + 1) * 0 + 1); rw [Nat.mul_zero]; decide⟩
  | n + 1 => by
    have ih := Bd.pw ha hb n (tri := tri)
    have e : (k + 1) * n + 1 + k + 1 = (k + 1) * (n + 1) + 1 := by rw [Nat.mul_succ]; omega
    rw [← e]
    exact ⟨Bd.mulX2 ih.1 ih.2 ha hb, Bd.mulY2 ih.1 ih.2 ha hb⟩
/-! ### texts -/
structure Tx (n : Nat) (z : Str) : Prop where
  len : z.length ≤ n
  cps : ∀ c ∈ z.cps.toList, c < 16 ^ 8
theorem Tx.up {n m : Nat} {z : Str} (h : Tx n z) (e : n ≤ m) : Tx m z := ⟨Nat.le_trans h.len e, h.cps⟩
theorem Tx.of (x : String) : Tx x.length (Str.ofString x) := by
  refine ⟨Nat.le_of_eq (PySem.ofString_length x), fun c hc => ?_⟩
  rw [Str.ofString_eq_toList] at hc
  obtain ⟨k, _, rfl⟩ := List.mem_map.mp hc
  exact Nat.lt_of_lt_of_le (UInt32.toNat_lt k.val) (by decide)
theorem Tx.int {n : Nat} {i : Int} (h : Bd n i) (hn : 0 < n) : Tx (n + 1) (Str.ofString (toString i)) := (Tx.of _).up (int_text_length_le10 hn h)
theorem Tx.repr {n : Nat} {z : Str} (h : Tx n z) : (reprText z).length ≤ 10 * n + 2 := Nat.le_trans (PySem.StrLaws.reprText_len z h.cps) (by have := h.len; omega)
/-- a text of lists and tuples, by sizes -/
theorem show_of {q : PyData} (h1 : wideB q = true) (h2 : q.depth ≤ 30) (h3 : Gl.wt q ≤ 16000000) : canShow q = true := by
  unfold canShow
  rw [h1, decide_eq_true h2, decide_eq_true (Nat.le_trans h3 (by decide +kernel))]
  rfl
theorem w_cons {x : PyData} {xs : List PyData} : wideA (x :: xs) = (wideB x && wideA xs) := rfl
end Pl

set_option Elab.async false
set_option maxRecDepth 100000
set_option maxHeartbeats 4000000
set_option linter.all false
/-! the mirror layer: instances that are walked by an own __iter__ -/
namespace Md
open PySem PySem.Spec PyProof.Rows L2
section
variable {X : Cx} {K : PySem.W.Frag} {Γ : Gam}
end
/-! ### the promise of such an __iter__ -/
structure FnI (P : Program) (w : World) (K : PySem.W.Frag) (mg : Str → Option Value) (base : Heap) (k : Nat) (f : Addr) (sp : Nat → Sp) : Prop where
  go : ∀ (A : Around) (outer : List Env) (s : Shared) (H : Hp) (us : List Value) (vs : List V) (Q : VK) (E : XK), Room k A → Env0 P w K mg base A outer s H → Vals vs us → sp s.heap.objs.size vs H Q E →
    codeAny (model P w) A (.call (.ref f) ⟨us, []⟩) (CR CX0 outer P w H s Q E) s
section
variable {P : Program} {w : World} {K : PySem.W.Frag} {mg : Str → Option Value} {base : Heap} {Γ : Gam}
end
/-! ### walking an instance -/
section
variable {X : Cx} {K : PySem.W.Frag} {Γ : Gam} {W : WX} {tg e : Expr} {te : TE} {φ : FE} {g : Addr} {n c : Nat} {m : Fn} {sp : Nat → Sp}
end
end Md

set_option Elab.async false
set_option maxRecDepth 100000
set_option maxHeartbeats 4000000
set_option linter.all false
/-! sets of texts, by the list of their members -/
namespace TxS
open PySem PySem.Spec PyProof.Rows L2
def txt : Value → Str
  | .str k _ => k
  | _ => Str.empty
def keys (es : Array (Int × Value)) : List Str := es.toList.map fun e => txt e.2
/-- rows and table that agree -/
structure Tab (P : Program) (w : World) (es : Array (Int × Value)) (t : SetTable) : Prop where
  el : ElemsOf (strKind P w) es.toList
  nd : (keys es).Nodup
  few : es.size < scanBound
  fit : t.fits es.size = true
  ris : Ris t.place.toList
  led : w.params.followText "set-order" = true ∨ t.led = true
section
variable {P : Program} {w : World} {es : Array (Int × Value)} {t : SetTable} {k : Str} {tk : Tok}
theorem txt_is {v : Value} {j : Str} (h : (strKind P w).is j v = true) : txt v = j := by
  obtain ⟨_, rfl⟩ := Value.isStrOf_shape h
  rfl
theorem mem_keys (g : ElemsOf (strKind P w) es.toList) : k ∈ keys es ↔ ∃ e ∈ es.toList, (strKind P w).is k e.2 = true := by
  unfold keys
  rw [List.mem_map]
  constructor
  · rintro ⟨e, he, rfl⟩
    obtain ⟨⟨j, hj, _⟩, _⟩ := g e he
    exact ⟨e, he, by rw [txt_is hj]; exact hj⟩
  · rintro ⟨e, he, h⟩
    exact ⟨e, he, txt_is h⟩
theorem Tab.fresh : Tab P w #[] (.fresh 0 0 (!w.params.followText "set-order")) where
  el := fun e he => absurd he (by simp)
  nd := List.nodup_nil
  few := by decide
  fit := rfl
  ris := .nil
  led := by cases h : w.params.followText "set-order" <;> simp [SetTable.fresh]
theorem Tab.relay (T : Tab P w es t) (m : Nat) : Tab P w (relayAll t es m).1 (relayAll t es m).2.1 ∧ (keys (relayAll t es m).1).Perm (keys es) := by
  have pm := relayAll_perm t es m
  have pk : (keys (relayAll t es m).1).Perm (keys es) := pm.map fun e : Int × Value => txt e.2
  have z : (relayAll t es m).1.size = es.size := by simpa using pm.length_eq
  exact ⟨⟨fun e he => T.el e (pm.mem_iff.mp he), pk.nodup_iff.mpr T.nd, z ▸ T.few, relayAll_fits t es m, relayAll_ris t es m, T.led.imp id fun h => (relayAll_led t es m).trans h⟩, pk⟩
theorem Tab.lay (T : Tab P w es t) (hk : k ∉ keys es) (room : es.size + 1 < scanBound) :
    Tab P w (layNew t es ((strKind P w).hash k) (.str k tk)).1 (layNew t es ((strKind P w).hash k) (.str k tk)).2.1 ∧ (keys (layNew t es ((strKind P w).hash k) (.str k tk)).1).Perm (k :: keys es) := by
  have pm := layNew_perm t es ((strKind P w).hash k) (.str k tk)
  rw [Array.toList_push] at pm
  replace pm := pm.trans (List.perm_append_singleton _ _)
  have pk : (keys (layNew t es ((strKind P w).hash k) (.str k tk)).1).Perm (k :: keys es) := pm.map fun e : Int × Value => txt e.2
  have z : (layNew t es ((strKind P w).hash k) (.str k tk)).1.size = es.size + 1 := by simpa using pm.length_eq
  refine ⟨⟨fun e he => ?_, pk.nodup_iff.mpr (List.nodup_cons.mpr ⟨hk, T.nd⟩), z ▸ room, layNew_fits .., layNew_ris _ _ _ _ T.ris, T.led.imp id fun h => (layNew_led ..).trans h⟩, pk⟩
  rcases List.mem_cons.mp (pm.mem_iff.mp he) with rfl | h
  · exact ⟨⟨k, strKind_is P w k tk, rfl⟩, rfl⟩
  · exact T.el e h
end
/-- the set of the texts ks stands at a -/
def SetS (P : Program) (w : World) (h : Heap) (a : Addr) (ks : List Str) : Prop :=
  ∃ o es ep t, h.get? a = some o ∧ o.ExactSet ∧ o.data = .set es ep t ∧ Tab P w es t ∧ (keys es).Perm ks
def more (ks : List Str) (k : Str) : List Str := if k ∈ ks then ks else k :: ks
section
variable {P : Program} {w : World} {A : Around} {E : Value → Shared → Prop} {s : Shared} {a : Addr} {ks : List Str}
theorem SetS.at {h h' : Heap} (R : SetS P w h a ks) (f : ∀ o, h.get? a = some o → h'.get? a = some o) : SetS P w h' a ks := let ⟨o, es, ep, t, ho, r⟩ := R; ⟨o, es, ep, t, f o ho, r⟩
theorem SetS.typeIs (R : SetS P w s.heap a ks) : s.TypeIs (.ref a) "set" := let ⟨o, _, _, _, ho, hx, _⟩ := R; ⟨o, ho, hx.1⟩
/-- rows are stored, and laid out anew when the table is full -/
theorem put {o : Obj} {es es1 : Array (Int × Value)} {ep : Nat} {t t1 : SetTable} {g : Bool → Sem Unit} {dm : Bool} {R : Option Bool → Shared → Prop} (ho : s.heap.get? a = some o) (hx : o.ExactSet) (hd : o.data = .set es ep t) (T : Tab P w es1 t1) (pk : (keys es1).Perm ks)
    (hg : ∀ (b : Bool) (s1 : Shared) (q : Unit → Shared → Prop), q () s1 → wpAny (model P w) A (g b) q E s1) (hR : ∀ h', Heap.SameBut a s.heap h' → SetS P w h' a ks → R (some true) { s with heap := h' }) :
    wpAny (model P w) A (storeSet a es1 t1 >>= fun _ => if (!dm && t1.tooFull) = true then g (relayAll t1 es1 (SetTable.grown es1.size)).2.2 >>= fun _ => storeSet a (relayAll t1 es1 (SetTable.grown es1.size)).1 (relayAll t1 es1 (SetTable.grown es1.size)).2.1 >>= fun _ => pure (some true) else pure (some true)) R E s := by
  have h1 := PpSet.storeB_at (es' := es1) (t' := t1) ho hd
  have b1 := Heap.SameBut.update s.heap a (Obj.putSet es1 t1)
  obtain ⟨T2, p2⟩ := T.relay (SetTable.grown es1.size)
  refine wpAny_bind (wpAny_storeSet_of ho hd ?_ (fits_of_scanBound T.few))
  by_cases c : (!dm && t1.tooFull) = true
  · rw [if_pos c]
    refine wpAny_bind (hg _ _ _ (wpAny_bind (wpAny_storeSet_of h1 rfl (wpAny_pure (hR _ (b1.trans (Heap.SameBut.update _ a _)) ?_)) (fits_of_scanBound T2.few))))
    exact ⟨_, _, _, _, PpSet.storeB_at h1 rfl, hx, rfl, T2, p2.trans pk⟩
  · rw [if_neg c]
    exact wpAny_pure (hR _ b1 ⟨_, _, _, _, h1, hx, rfl, T, pk⟩)
/-- set.add's own work, the hash being known -/
theorem addH {k : Str} {tk : Tok} {Q : Bool → Shared → Prop} (R : SetS P w s.heap a ks) (room : ks.length + 1 < scanBound) (hQ : ∀ b h', Heap.SameBut a s.heap h' → SetS P w h' a (more ks k) → Q b { s with heap := h' }) :
    wpAny (model P w) A (setAddHashed a (.str k tk) ((strKind P w).hash k)) Q E s := by
  obtain ⟨o, es, ep, t, ho, hx, hd, T, pk⟩ := R
  have sc : (Value.str k tk).scannable = true := rfl
  have hz : es.size = ks.length := by
    rw [← pk.length_eq]
    unfold keys
    rw [List.length_map, Array.length_toList]
  have quiet : ∀ (b : Bool) (s1 : Shared) (q : Unit → Shared → Prop), q () s1 → wpAny (model P w) A (match b with | true => rule "set.scan.the-table-gave-way" | false => pure ()) q E s1 := fun b s1 q h => by
    cases b
    · exact wpAny_pure h
    · exact wpAny_rule h
  unfold setAddHashed setAddHashedIn
  refine wpAny_holding (wpAny_bind (wpAny_setState_of ho hd T.fit ?_))
  dsimp only
  rw [byScan_of sc T.few T.el]
  simp only [↓reduceIte]
  unfold setAddByScan
  refine wpAny_bind (wpAny_bind (wpAny_rule (wpAny_bind (wpAny_setScan_of (strKind_is P w k tk) ho hd T.fit T.el ?_))))
  cases fi : List.findIdx? (fun e => (strKind P w).is k e.2) es.toList with
  | some j =>
    obtain ⟨hj, hp, _⟩ := List.findIdx?_eq_some_iff_getElem.mp fi
    have hk : k ∈ ks := pk.mem_iff.mp ((mem_keys T.el).mpr ⟨_, List.getElem_mem hj, hp⟩)
    refine wpAny_pure (wpAny_pure (hQ false s.heap (.refl a s.heap) ?_))
    unfold more
    rw [if_pos hk]
    exact ⟨o, es, ep, t, ho, hx, hd, T, pk⟩
  | none =>
    have hk : k ∉ keys es := fun z => by
      obtain ⟨e, he, h⟩ := (mem_keys T.el).mp z
      exact absurd h (by rw [List.findIdx?_eq_none_iff.mp fi e he]; decide)
    obtain ⟨T1, p1⟩ := T.lay (tk := tk) hk (by rw [hz]; exact room)
    have p2 : (keys (layNew t es ((strKind P w).hash k) (.str k tk)).1).Perm (more ks k) := by
      unfold more
      rw [if_neg fun z => hk (pk.mem_iff.mpr z)]
      exact p1.trans (pk.cons k)
    dsimp only
    refine wpAny_bind (quiet _ _ _ ?_)
    split
    · refine wpAny_bind ?_
      rw [hashByValue_scannable 8 sc]
      refine wpAny_pure ?_
      refine put ho hx hd ⟨T1.el, T1.nd, T1.few, ?_, ?_, ?_⟩ p2 quiet fun h' sb r => ?_
      · first | (split <;> first | exact T1.fit | exact SetTable.fits_plain_off T1.fit) | exact T1.fit
      · first | (split <;> exact T1.ris) | exact T1.ris
      · first | (split <;> exact T1.led) | exact T1.led
      · exact wpAny_pure (hQ true h' sb r)
    · refine wpAny_bind (wpAny_pure ?_)
      simp only [↓reduceIte]
      exact put ho hx hd T1 p2 quiet fun h' sb r => wpAny_pure (hQ true h' sb r)
/-- found.add(k) -/
theorem add {k : Str} {tk : Tok} {Q : Value → Shared → Prop} (R : SetS P w s.heap a ks) (room : ks.length + 1 < scanBound) (hQ : ∀ h', Heap.SameBut a s.heap h' → SetS P w h' a (more ks k) → Q .none { s with heap := h', toks := s.toks + 1 }) :
    wpAny (model P w) A (call (.builtin "set.add") [.ref a, .str k tk]) Q E s := by
  refine wpAny_call_entry F.slot_set_add R.typeIs F.entry_set_add ?_ (F.args_set_add_2 _ _)
  simp only [Builtin.«set.add», Builtin.Frozenset.oneOther, Builtin.Frozenset.addrOf, setAdd, List.isEmpty_nil, bind_assoc]
  refine wpAny_bind (wpAny_pure (wpAny_bind (wpAny_pure (wpAny_bind (wpAny_holding (wpAny_bind ((strKind P w).pyHash (strKind_is P w k tk) ?_)))))))
  exact addH (s := { s with toks := s.toks + 1 }) R room fun b h' sb r => wpAny_pure ⟨_, rfl, hQ h' sb r⟩
theorem SetS.fresh {h : Heap} : SetS P w (h.push { cls := .type "set", dict := none, data := .set #[] 0 (.fresh 0 0 (!w.params.followText "set-order")) }) h.objs.size [] := ⟨_, _, _, _, Heap.get?_push_size _ rfl, ⟨rfl, rfl, rfl⟩, rfl, Tab.fresh, .nil⟩
end
/-! ### as a tracked thing -/
def SetSO (P : Program) (w : World) (a : Addr) (ks : List Str) : HO := .ext fun h => SetS P w h a ks
section
variable {X : Cx} {pins : List (Addr × Obj)} {σ : L2.St} {H : Hp} {s : Shared} {a : Addr} {ks : List Str}
end
end TxS

set_option Elab.async false
set_option maxRecDepth 100000
set_option maxHeartbeats 4000000
set_option linter.all false
/-! sorted() of a set of texts -/
namespace TxS
open PySem PySem.Spec PyProof.Rows L2
section
variable {P : Program} {w : World} {A : Around} {E : Value → Shared → Prop} {s : Shared} {a : Addr} {ks : List Str}
end
end TxS

set_option Elab.async false
set_option maxRecDepth 100000
set_option maxHeartbeats 4000000
set_option linter.all false
/-! {text for target in iter} -/
namespace TxS
open PySem PySem.Spec PyProof.Rows L2
section
variable {X : Cx} {tg iter elt : Expr} {scope : Scope} {own : List (PySem.Str × Nat)} {pos : Pos} {wi : TI} {g : TG} {te : TE}
end
end TxS

set_option Elab.async false
set_option maxRecDepth 100000
set_option maxHeartbeats 4000000
set_option linter.all false
/-! texts in order: no program in sight -/
namespace TxS
open PySem PySem.Spec PyProof.Rows
def leS (x y : Str) : Bool := !ltCps y.cps.toList x.cps.toList
def insS (x : Str) : List Str → List Str
  | [] => [x]
  | y :: r => if leS x y = true then x :: y :: r else y :: insS x r
def sortT : List Str → List Str
  | [] => []
  | x :: r => insS x (sortT r)
end TxS

set_option Elab.async false
set_option maxRecDepth 100000
set_option maxHeartbeats 4000000
set_option linter.all false
/-! the mirror layer: sorted({text for ..}) -/
namespace Md
open PySem PySem.Spec PyProof.Rows L2 TxS
/-- the members met, each once -/
def scGo (γ : FG) (φ : FE) (ds : DSt) : List D → List Str → Sto → Out (List Str)
  | [], ks, s => .ok ks s
  | x :: r, ks, s => match γ x ds with
    | none => .bad
    | some ds1 => match φ ds1 s with
      | .ok (.str k) s1 => scGo γ φ ds r (more ks k) s1
      | _ => .bad
def sortR (ks : List Str) (s : Sto) : Out D := .ok (.lst ((sortT ks).map .str)) s
def sortSc (η : FA) (γ : FG) (φ : FE) (vs : List Nat) : FE := bindX η fun ds xs s => if xs.length < 64 then (scGo γ φ (wipeD ds vs) xs [] s).bind sortR else .bad
section
variable {X : Cx} {K : PySem.W.Frag} {Γ : Gam} {W : WX} {wi : TI} {η : FA} {g : TG} {γ : FG} {sl : List Nat} {te : TE} {φ : FE} {vs : List Nat} {P : Program} {w : World}
end
end Md

set_option Elab.async false
set_option maxRecDepth 100000
set_option maxHeartbeats 4000000
set_option linter.all false
/-! the mirror layer: x[::-1] of tuples, t.index(x) of nested data, at the model's level -/
namespace Md
open PySem PySem.Spec PyProof.Rows L2
section
variable {P : Program} {w : World} {A : Around} {E : Value → Shared → Prop} {s : Shared}
end
section
variable {X : Cx}
end
end Md

set_option Elab.async false
set_option maxRecDepth 100000
set_option maxHeartbeats 4000000
set_option linter.all false
/-! the mirror layer: x[::-1], dict(pairs), unpacking of lists, join, index, two fields at once -/
namespace Md
open PySem PySem.Spec PyProof.Rows L2
/-! ### x[::-1] -/
def revA (x : D) (s : Sto) : Out D := match vw x s with
  | .lst xs => .ok (.lst xs.reverse) s
  | .tup xs => .ok (.tup xs.reverse) s
  | _ => .bad
section
variable {X : Cx} {K : PySem.W.Frag} {Γ : Gam} {W : WX} {e : Expr} {te : TE} {φ : FE}
end
/-! ### dict(list of pairs) -/
section
variable {X : Cx} {K : PySem.W.Frag} {Γ : Gam} {W : WX} {F H : Hp} {ι : List Addr}
end
/-! ### a, b = a list or a tuple -/
def tupGA (n : Nat) (δ : List D → DSt → Option DSt) : FG := fun d ds => match d with
  | .tup es => if es.length = n then δ es ds else none
  | .lst es => if es.length = n then δ es ds else none
  | _ => none
section
variable {X : Cx} {K : PySem.W.Frag} {Γ : Gam} {sl : List Nat} {es : List Expr} {gs : TGs} {δ : List D → DSt → Option DSt} {n k : Nat} {pos : Pos}
theorem PG.or {tg : Expr} {g g' : TG} (h : PG X tg g) (h' : PG X tg g') : PG X tg (fun v σ H Q => g v σ H Q ∨ g' v σ H Q) := by
  constructor
  intro pins s σ H v u Q I r q
  rcases q with q | q
  · exact h.run pins s σ H v u Q I r q
  · exact h'.run pins s σ H v u Q I r q
end
/-! ### sep.join(texts) -/
section
variable {X : Cx} {K : PySem.W.Frag} {Γ : Gam} {F : Hp} {ι : List Addr}
end
/-! ### xs.index(y), t.index(y) -/
section
variable {X : Cx} {K : PySem.W.Frag} {Γ : Gam}
end
/-! ### o.f, p.g = e -/
def setAttr2S (tab tab' : Nat → Option Nat) (φ φ' ψ : FE) : FS := fun ds s => bindS (ψ ds s) ds fun d s => match d with
  | .tup [y, z] => bindS (φ ds s) ds fun x s => match setAttrD tab x y s with
    | some s1 => bindS (φ' ds s1) ds fun x' s => match setAttrD tab' x' z s with
      | some s2 => .nx ds s2
      | none => .bad
    | none => .bad
  | _ => .bad
section
variable {X : Cx} {K : PySem.W.Frag} {Γ : Gam} {W : WX} {o o' v : Expr} {to to' tv : TE} {φ φ' ψ : FE} {pos pos' : Pos} {f f' : Str} {tab tab' : Nat → Option Nat}
end
end Md

set_option Elab.async false
set_option maxRecDepth 100000
set_option maxHeartbeats 4000000
set_option linter.all false
/-! the mirror layer: more evaluation lemmas -/
namespace Md
open PySem PySem.Spec PyProof.Rows L2 TxS
section
variable {ds : DSt} {s : Sto}
theorem e_revA_lst {xs : List D} : revA (.lst xs) s = .ok (.lst xs.reverse) s := rfl
theorem e_revA_tup {xs : List D} : revA (.tup xs) s = .ok (.tup xs.reverse) s := rfl
theorem e_tupGA_tup (n : Nat) (δ : List D → DSt → Option DSt) (es : List D) : tupGA n δ (.tup es) ds = if es.length = n then δ es ds else none := rfl
theorem e_tupGA_lst (n : Nat) (δ : List D → DSt → Option DSt) (es : List D) : tupGA n δ (.lst es) ds = if es.length = n then δ es ds else none := rfl
/-! methods -/
def bmC (f : D → List D → Sto → Out D) (x : D) (o : Out (List D)) : Out D := match o with
  | .ok xs s => f x xs s
  | .err c p s => .err c p s
  | .bad => .bad
def bmB (g : D → Sto → Bool) (f : D → List D → Sto → Out D) (ψ : FA) (ds : DSt) (o : Out D) : Out D := match o with
  | .ok x s => if g x s = true then bmC f x (ψ ds s) else .bad
  | .err c p s => .err c p s
  | .bad => .bad
theorem e_bm (g : D → Sto → Bool) (f : D → List D → Sto → Out D) (φ : FE) (ψ : FA) : bmD g f φ ψ ds s = bmB g f ψ ds (φ ds s) := by
  unfold bmD bindX bmB
  cases φ ds s <;> first | rfl | skip
  rename_i x s1
  simp only [Out.bind, bmC]
  split <;> first | rfl | skip
  cases ψ ds s1 <;> rfl
theorem e_bmB (g : D → Sto → Bool) (f : D → List D → Sto → Out D) (ψ : FA) {x : D} (h : g x s = true) : bmB g f ψ ds (.ok x s) = bmC f x (ψ ds s) := if_pos h
theorem e_bmC (f : D → List D → Sto → Out D) {x : D} {xs : List D} : bmC f x (.ok xs s) = f x xs s := rfl
theorem e_isS {z : Str} : isS (.str z) s = true := rfl
theorem e_isL {xs : List D} : isL (.lst xs) s = true := rfl
theorem isL_cell {n : Nat} {xs : List D} (e : s[n]? = some (.lst xs)) : isL (.cell n) s = true := by
  simp only [isL, viewL, e, Option.isSome_some]
theorem append_eq {n : Nat} {xs : List D} {d : D} (e : s[n]? = some (.lst xs)) (h : xs.length ≤ 100000) (hd : nc d = true) : appendD (.cell n) [d] s = .ok .non (s.set n (.lst (xs ++ [d]))) := by
  simp only [appendD, e, hd, Bool.and_true]
  rw [decide_eq_true (Nat.lt_of_le_of_lt h (by decide +kernel)), if_pos rfl]
/-! o.f, p.g = e -/
def sa2D (tab' : Nat → Option Nat) (z : D) (ds : DSt) (o : Out D) : SOut := match o with
  | .ok x s => setE ds (setAttrD tab' x z s)
  | .err c p s => .err c p ds s
  | .bad => .bad
def sa2E (tab' : Nat → Option Nat) (φ' : FE) (z : D) (ds : DSt) (o : Option Sto) : SOut := match o with
  | some s1 => sa2D tab' z ds (φ' ds s1)
  | none => .bad
def sa2C (tab tab' : Nat → Option Nat) (φ' : FE) (y z : D) (ds : DSt) (o : Out D) : SOut := match o with
  | .ok x s => sa2E tab' φ' z ds (setAttrD tab x y s)
  | .err c p s => .err c p ds s
  | .bad => .bad
def sa2B (tab tab' : Nat → Option Nat) (φ φ' : FE) (ds : DSt) (o : Out D) : SOut := match o with
  | .ok (.tup [y, z]) s => sa2C tab tab' φ' y z ds (φ ds s)
  | .err c p s => .err c p ds s
  | _ => .bad
theorem e_setAttr2 (tab tab' : Nat → Option Nat) (φ φ' ψ : FE) : setAttr2S tab tab' φ φ' ψ ds s = sa2B tab tab' φ φ' ds (ψ ds s) := by
  unfold setAttr2S sa2B bindS
  cases ψ ds s <;> first | rfl | skip
  rename_i d s1
  simp only
  split
  · rename_i y z
    simp only [sa2C]
    cases φ ds s1 <;> first | rfl | skip
    rename_i x s2
    simp only [sa2E]
    cases setAttrD tab x y s2 <;> first | rfl | skip
    rename_i s3
    simp only [sa2D]
    cases φ' ds s3 <;> rfl
  · rename_i h
    split
    · rename_i y z _ e
      cases e
      exact absurd rfl (h y z)
    · rename_i e
      cases e
    · rfl
theorem e_sa2B (tab tab' : Nat → Option Nat) (φ φ' : FE) {y z : D} : sa2B tab tab' φ φ' ds (.ok (.tup [y, z]) s) = sa2C tab tab' φ' y z ds (φ ds s) := rfl
theorem e_sa2C (tab tab' : Nat → Option Nat) (φ' : FE) {y z x : D} : sa2C tab tab' φ' y z ds (.ok x s) = sa2E tab' φ' z ds (setAttrD tab x y s) := rfl
theorem e_sa2E (tab' : Nat → Option Nat) (φ' : FE) {z : D} : sa2E tab' φ' z ds (some s) = sa2D tab' z ds (φ' ds s) := rfl
theorem e_sa2D (tab' : Nat → Option Nat) {z x : D} : sa2D tab' z ds (.ok x s) = setE ds (setAttrD tab' x z s) := rfl
/-! slices -/
def slC2 (x : D) (lo : Option Int) (o : Out (Option Int)) : Out D := match o with
  | .ok hi s => sliceD x lo hi s
  | .err c p s => .err c p s
  | .bad => .bad
def slC1 (x : D) (u : FO) (ds : DSt) (o : Out (Option Int)) : Out D := match o with
  | .ok lo s => slC2 x lo (u ds s)
  | .err c p s => .err c p s
  | .bad => .bad
def slB (l u : FO) (ds : DSt) (o : Out D) : Out D := match o with
  | .ok x s => slC1 x u ds (l ds s)
  | .err c p s => .err c p s
  | .bad => .bad
theorem e_slD (φ : FE) (l u : FO) : slD φ l u ds s = slB l u ds (φ ds s) := by
  unfold slD bindX slB
  cases φ ds s <;> first | rfl | skip
  rename_i x s1
  simp only [Out.bind, slC1]
  cases l ds s1 <;> first | rfl | skip
  rename_i lo s2
  simp only [Out.bind, slC2]
  cases u ds s2 <;> rfl
theorem e_slB (l u : FO) {x : D} : slB l u ds (.ok x s) = slC1 x u ds (l ds s) := rfl
theorem e_slC1 (u : FO) {x : D} {lo : Option Int} : slC1 x u ds (.ok lo s) = slC2 x lo (u ds s) := rfl
theorem e_slC2 {x : D} {lo hi : Option Int} : slC2 x lo (.ok hi s) = sliceD x lo hi s := rfl
def intO (d : D) (s : Sto) : Out (Option Int) := match d with
  | .int i => .ok (some i) s
  | _ => .bad
theorem e_noneO : noneO ds s = .ok none s := rfl
theorem e_someO (φ : FE) : someO φ ds s = (φ ds s).bind intO := by
  unfold someO bindX
  cases φ ds s <;> rfl
theorem e_intO {i : Int} : intO (.int i) s = .ok (some i) s := rfl
theorem e_slice_lst {xs : List D} {lo hi : Option Int} : sliceD (.lst xs) lo hi s = .ok (.lst (cutD xs lo hi)) s := rfl
theorem e_slice_tup {xs : List D} {lo hi : Option Int} : sliceD (.tup xs) lo hi s = .ok (.tup (cutD xs lo hi)) s := rfl
/-! star -/
def starK (xs : List D) (o : Out (List D)) : Out (List D) := match o with
  | .ok ys s => .ok (xs ++ ys) s
  | .err c p s => .err c p s
  | .bad => .bad
def starB (ψ : FA) (ds : DSt) (o : Out D) : Out (List D) := match o with
  | .ok x s => (match vw x s with
    | .lst xs => starK xs (ψ ds s)
    | .tup xs => starK xs (ψ ds s)
    | _ => .bad)
  | .err c p s => .err c p s
  | .bad => .bad
theorem e_star (φ : FE) (ψ : FA) : starD φ ψ ds s = starB ψ ds (φ ds s) := by
  unfold starD bindX starB
  cases φ ds s <;> first | rfl | skip
  rename_i x s1
  simp only [Out.bind]
  generalize vw x s1 = y
  cases y <;> first | rfl | (simp only [starK]; cases ψ ds s1 <;> rfl)
theorem e_starB_tup (ψ : FA) {xs : List D} : starB ψ ds (.ok (.tup xs) s) = starK xs (ψ ds s) := rfl
theorem e_starB_lst (ψ : FA) {xs : List D} : starB ψ ds (.ok (.lst xs) s) = starK xs (ψ ds s) := rfl
theorem e_starK {xs ys : List D} : starK xs (.ok ys s) = .ok (xs ++ ys) s := rfl
/-! len of own things -/
def lenO (o : Out D) : Out D := match o with
  | .ok (.int i) s => if (decide (0 ≤ i) && decide (i < 2 ^ 63)) = true then .ok (.int i) s else .bad
  | _ => .bad
theorem e_lenOwn {n : Nat} {m : Fn} {f : List D} : lenOwn n m [.ins n f] s = lenO (m [.ins n f] s) := by
  unfold lenOwn lenO
  simp only [clsD, if_true] <;> (cases m [.ins n f] s <;> first | rfl | (rename_i d s1; cases d <;> rfl))
/-! and, or of texts in texts; all of bools -/
/-! loops and comprehensions with any target -/
/-! data that are shaped -/
def shp : Nat → D → Bool
  | _, .non => true
  | _, .bl _ => true
  | _, .int _ => true
  | _, .str z => PyData.strOk z
  | n + 1, .tup xs => xs.all (shp n)
  | n + 1, .lst xs => xs.all (shp n)
  | _, _ => false
theorem shp_py : ∀ (n : Nat) (x : D), shp n x = true → ∃ q, x.py = some q ∧ q.canLay0 = true ∧ q.depth ≤ n := by
  intro n
  induction n with
  | zero =>
    intro x h
    cases x <;> first | (cases h; done) | exact ⟨_, rfl, rfl, Nat.le_refl _⟩ | exact ⟨_, rfl, h, Nat.le_refl _⟩
  | succ n ih =>
    have all : ∀ xs : List D, xs.all (shp n) = true → ∃ qs, pyA xs = some qs ∧ PyData.canLayAll0 qs = true ∧ PyData.depthAll qs ≤ n := by
      intro xs
      induction xs with
      | nil => intro _; exact ⟨[], rfl, rfl, Nat.zero_le _⟩
      | cons x r ih2 =>
        intro h
        rw [List.all_cons, Bool.and_eq_true] at h
        obtain ⟨q, e1, c1, d1⟩ := ih x h.1
        obtain ⟨qs, e2, c2, d2⟩ := ih2 h.2
        refine ⟨q :: qs, ?_, ?_, ?_⟩
        · simp only [pyA, e1, e2]
        · simp only [PyData.canLayAll0, c1, c2, Bool.and_self]
        · simp only [PyData.depthAll]; omega
    intro x h
    cases x with
    | non => exact ⟨_, rfl, rfl, Nat.zero_le _⟩
    | bl b => exact ⟨_, rfl, rfl, Nat.zero_le _⟩
    | int i => exact ⟨_, rfl, rfl, Nat.zero_le _⟩
    | str z => exact ⟨_, rfl, h, Nat.zero_le _⟩
    | tup xs =>
      obtain ⟨qs, e, c, d⟩ := all xs h
      refine ⟨.tuple qs, ?_, ?_, ?_⟩
      · simp only [D.py, e, Option.map_some]
      · simpa only [PyData.canLay0] using c
      · simp only [PyData.depth]; omega
    | lst xs =>
      obtain ⟨qs, e, c, d⟩ := all xs h
      refine ⟨.list qs, ?_, ?_, ?_⟩
      · simp only [D.py, e, Option.map_some]
      · simpa only [PyData.canLay0] using c
      · simp only [PyData.depth]; omega
    | _ => cases h
theorem shp_vw {n : Nat} {x : D} (h : shp n x = true) : vw x s = x := by
  cases x <;> first | rfl | (cases n <;> cases h)
theorem eq_self {x : D} (h : shp 60 x = true) : eqP x x s id = .ok (.bl true) s := by
  obtain ⟨q, e, c, d⟩ := shp_py 60 x h
  have hs : SeqAt.shaped q = true := by
    unfold SeqAt.shaped
    rw [c, decide_eq_true (by omega)]
    rfl
  simp only [eqP, shp_vw h, e, hs, Bool.and_self, if_true, SeqAt.eqv_refl q c]
  rfl
theorem lst_eq {xs ys : List D} (h : shp 60 (.lst xs) = true) (e : xs = ys) : eqD (.lst xs) (.lst ys) s = .ok (.bl true) s := by subst e; exact eq_self h
/-! sorted sets of texts -/
def scE (γ : FG) (φ : FE) (vs : List Nat) (ds : DSt) (xs : List D) (s : Sto) : Out D := if xs.length < 64 then (scGo γ φ (wipeD ds vs) xs [] s).bind sortR else .bad
theorem e_sortSc (η : FA) (γ : FG) (φ : FE) (vs : List Nat) : sortSc η γ φ vs ds s = (η ds s).bind (scE γ φ vs ds) := rfl
/-! a cell that is not the last one -/
def evTwo := And.intro @e_revA_lst (And.intro @e_revA_tup (And.intro @e_tupGA_tup (And.intro @e_tupGA_lst (And.intro @e_bm (And.intro @e_bmB (And.intro @e_bmC (And.intro @e_isS (And.intro @e_isL (And.intro @e_setAttr2 (And.intro @e_sa2B (And.intro @e_sa2C (And.intro @e_sa2E (And.intro @e_sa2D (And.intro @e_slD (And.intro @e_slB (And.intro @e_slC1 (And.intro @e_slC2 (And.intro @e_noneO (And.intro @e_someO (And.intro @e_intO (And.intro @e_slice_lst (And.intro @e_slice_tup (And.intro @e_star (And.intro @e_starB_tup (And.intro @e_starB_lst (And.intro @e_starK (And.intro @e_lenOwn @e_sortSc)))))))))))))))))))))))))))
end
end Md

set_option Elab.async false
set_option maxRecDepth 100000
set_option maxHeartbeats 4000000
set_option linter.all false
/-! the mirror layer: dicts walked, made by comprehensions, kept in cells -/
namespace Md
open PySem PySem.Spec PyProof.Rows L2
/-! ### d.values(), d.items(), d.keys() walked -/
section
variable {X : Cx} {K : PySem.W.Frag} {Γ : Gam} {W : WX} {F : Hp} {ι : List Addr} {tg e : Expr} {te : TE} {φ : FE} {a : Addr} {apos cpos : Pos}
end
/-! ### {k: v for ..} -/
section
variable {X : Cx} {K : PySem.W.Frag} {Γ : Gam} {W : WX} {pos : Pos} {tg iter kx vx : Expr} {ifs : List Expr} {wi : TI} {η : FA} {g : TG} {γ : FG} {sl : List Nat} {tt : TT} {μ : FT} {tk tv : TE} {κ φ : FE} {vs : List Nat}
end
end Md

set_option Elab.async false
set_option maxRecDepth 100000
set_option maxHeartbeats 4000000
set_option linter.all false
/-! the mirror layer: [e for a in xs for b in ys] -/
namespace Md
open PySem PySem.Spec PyProof.Rows L2
section
variable {X : Cx} {K : PySem.W.Frag} {Γ : Gam} {W : WX} {pos : Pos} {wi wi1 : TI} {η η1 : FA} {g g1 : TG} {γ γ1 : FG} {sl sl1 : List Nat} {tt tt1 : TT} {μ μ1 : FT} {te : TE} {φ : FE} {vs vs1 : List Nat}
end
end Md

set_option Elab.async false
set_option maxRecDepth 100000
set_option maxHeartbeats 4000000
set_option linter.all false
/-! the mirror layer: *d.values(), {own}, len(set(pairs)), sorted(d), extend, split, int, pop(i); dicts in cells -/
namespace Md
open PySem PySem.Spec PyProof.Rows L2
/-! ### *d.values() -/
section
variable {X : Cx} {K : PySem.W.Frag} {Γ : Gam} {W : WX} {e : Expr} {es : List Expr} {te : TE} {ta : TA} {φ : FE} {ψ : FA} {apos cpos p : Pos}
end
/-! ### f"{x}", x of an own class with __str__ -/
section
variable {X : Cx} {K : PySem.W.Frag} {Γ : Gam} {W : WX} {e : Expr} {te : TE} {φ : FE} {g C : Addr} {n c : Nat} {m : Fn} {pos : Pos}
end
/-! ### len(set(xs)), xs tuples of ints -/
section
variable {X : Cx} {K : PySem.W.Frag} {Γ : Gam} {W : WX} {a : Expr} {ta : TE} {φ : FE}
end
end Md

set_option Elab.async false
set_option maxRecDepth 100000
set_option maxHeartbeats 4000000
set_option linter.all false
/-! the mirror layer: sorted, extend, split, int, pop(i); dicts in cells -/
namespace Md
open PySem PySem.Spec PyProof.Rows L2 TxS
/-! ### sorted(d), sorted(xs) of texts -/
section
variable {X : Cx} {K : PySem.W.Frag} {Γ : Gam}
end
/-! ### xs.extend(tuple or list) -/
section
variable {X : Cx} {K : PySem.W.Frag} {Γ : Gam}
/-! ### xs.pop(i) -/
/-! ### s.split(sep), int(text) -/
def rIntA : List V → Hp → VK → Prop := fun xs H Q => ((∃ i, xs = [.int i] ∧ Q (.int i) H) ∨ ∃ k, xs = [.bl k] ∧ Q (.int (if k then 1 else 0)) H) ∨ ∃ a n, xs = [.str a] ∧ PySem.intText? a = some n ∧ a.length ≤ 640 ∧ Q (.int n) H
theorem call_intA : CallR X (.type "int") rIntA := CallR.or call_int1 call_int_str
def intA (xs : List D) (s : Sto) : Out D := match xs with
  | [.int i] => .ok (.int i) s
  | [.bl b] => .ok (.int (if b then 1 else 0)) s
  | [.str z] => match PySem.intText? z with
    | some n => if z.length ≤ 640 then .ok (.int n) s else .bad
    | none => .bad
  | _ => .bad
theorem cg_intA : CallG K Γ rIntA intA := by
  intro W σ H Q G F ι s xs vs r gv hp
  unfold intA at hp
  split at hp
  · obtain ⟨v, rfl, g⟩ := one_rp gv
    cases g
    exact Or.inl (Or.inl ⟨_, rfl, hp _ _ _ _ Ext.refl r (.int _)⟩)
  · obtain ⟨v, rfl, g⟩ := one_rp gv
    cases g
    exact Or.inl (Or.inr ⟨_, rfl, hp _ _ _ _ Ext.refl r (.int _)⟩)
  · obtain ⟨v, rfl, g⟩ := one_rp gv
    cases g
    split at hp
    · rename_i n en
      split at hp
      · rename_i hz
        exact Or.inr ⟨_, n, rfl, en, hz, hp _ _ _ _ Ext.refl r (.int _)⟩
      · exact hp.elim
    · exact hp.elim
  · exact hp.elim
end
/-! ### dicts in cells -/
section
variable {X : Cx} {K : PySem.W.Frag} {Γ : Gam} {W : WX} {pos : Pos} {G F H : Hp} {ι : List Addr} {s : Sto}
end
end Md

set_option Elab.async false
set_option maxRecDepth 100000
set_option maxHeartbeats 4000000
set_option linter.all false
/-! the mirror layer: a dict's cell is frozen with what it holds -/
namespace Md
open PySem PySem.Spec PyProof.Rows L2 TxS
/-! data -/
section
variable {K : PySem.W.Frag} {Γ : Gam} {G F H : Hp} {ι : List Addr} {s : Sto}
def Fz (K : PySem.W.Frag) (Γ : Gam) (F : Hp) (ι : List Addr) (d d' : D) : Prop := (nc d = true ∧ d' = d) ∨ ∃ m a, d = .cell m ∧ ι[m]? = some a ∧ Rp K Γ F [] (.ref a) d'
theorem Fz.rp {d d' : D} {v : V} (h : Fz K Γ F ι d d') (g : Rp K Γ F ι v d) : Rp K Γ F [] v d' := by
  rcases h with ⟨h1, rfl⟩ | ⟨m, a, rfl, ea, h⟩
  · exact g.fz h1
  · cases g with
    | cell e => rw [ea] at e; cases e; exact h
theorem Fz.ext {F' : Hp} {d d' : D} (x : Ext F ι F' ι) (h : Fz K Γ F ι d d') : Fz K Γ F' ι d d' := by
  rcases h with h | ⟨m, a, rfl, ea, h⟩
  · exact Or.inl h
  · exact Or.inr ⟨m, a, rfl, ea, h.ext x.nil⟩
inductive FzK (K : PySem.W.Frag) (Γ : Gam) (F : Hp) (ι : List Addr) : List (Key × D) → List (Key × D) → Prop
  | nil : FzK K Γ F ι [] []
  | cons {k : Key} {d d' : D} {r r' : List (Key × D)} : Fz K Γ F ι d d' → FzK K Γ F ι r r' → FzK K Γ F ι ((k, d) :: r) ((k, d') :: r')
theorem FzK.ext {F' : Hp} (x : Ext F ι F' ι) : ∀ {r r' : List (Key × D)}, FzK K Γ F ι r r' → FzK K Γ F' ι r r'
  | _, _, .nil => .nil
  | _, _, .cons h t => .cons (h.ext x) (FzK.ext x t)
theorem FzK.rp : ∀ {ks : List (Key × V)} {r r' : List (Key × D)}, FzK K Γ F ι r r' → RpK K Γ F ι ks r → RpK K Γ F [] ks r'
  | _, _, _, .nil, .nil => .nil
  | _, _, _, .cons h t, .cons g u => .cons (h.rp g) (FzK.rp t u)
theorem RpK.fz : ∀ {ks : List (Key × V)} {r : List (Key × D)}, RpK K Γ F ι ks r → (r.all fun kv => nc kv.2) = true → RpK K Γ F [] ks r
  | _, _, .nil, _ => .nil
  | _, _, .cons h t, n => by
    rw [List.all_cons, Bool.and_eq_true] at n
    exact .cons (h.fz n.1) (RpK.fz t n.2)
end
end Md

set_option Elab.async false
set_option maxRecDepth 100000
set_option maxHeartbeats 4000000
set_option linter.all false
/-! the mirror layer: list(x) of an instance with its own __iter__ and __len__ -/
namespace Md
open PySem PySem.Spec PyProof.Rows L2
section
variable {X : Cx} {pins : List (Addr × Obj)} {σ : L2.St} {A1 : Around}
/-- the list grows by an instance's items: how it begins -/
theorem grown {q a C : Addr} {ox : Obj} {od : Option Obj} {s : Shared} {A : Around} {E : Value → Shared → Prop} {Q : Fin → Shared → Prop} (J : PySem.W.InstAt s.heap a ox C od) (z : q ≠ a)
    (k : wpAny (model X.prog X.w) A (pyIter (.ref a)) (fun it s1 => wpAny (model X.prog X.w) A (Builtin.List.listLengthHint (.ref a)) (fun _ s2 => Q (.again (.builtin "list.extend.loop" ⟨[.ref q, it, .none], []⟩)) s2 ∧ wpAny (model X.prog X.w) A (Builtin.List.listTouch (.ref q)) (fun _ s3 => Q (.again (.builtin "list.extend.loop" ⟨[.ref q, it, .none], []⟩)) s3) E s2) E s1) E s) :
    wpAny (model X.prog X.w) A (Builtin.List.listExtendWith (.ref q) (.ref a) .none) Q E s := by
  have other : (Builtin.List.listSameRef (.ref q) (.ref a) || Value.ref C == .type "list" || Value.ref C == .type "tuple") = false := by
    show ((q == a) || false || false) = false
    rw [Bool.or_false, Bool.or_false]
    exact beq_false_of_ne z
  unfold Builtin.List.listExtendWith
  refine wpAny_bind (J.type.here (PySem.W.KFB.if_not other (wpAny_bind (wpAny_mono k (fun it s1 k1 => wpAny_bind (wpAny_holding (wpAny_mono k1 (fun room s2 k2 => ?_) fun _ _ x => x))) fun _ _ x => x))))
  exact wpAny_ite_split (fun _ => wpAny_bind (wpAny_rule (wpAny_bind (wpAny_mono k2.2 (fun _ s3 k3 => wpAny_pure k3) fun _ _ x => x)))) fun _ => wpAny_pure k2.1
variable {C gi gl : Addr} {ni nl : Nat} {spI : Nat → Sp} {spL : Sp}
end
section
variable {X : Cx} {K : PySem.W.Frag} {Γ : Gam} {e : Expr} {te : TE} {φ : FE} {p pos q : Pos}
end
section
variable {K : PySem.W.Frag} {Γ : Gam} {c : Nat} {mi ml : Fn}
end
end Md

set_option Elab.async false
set_option maxRecDepth 100000
set_option maxHeartbeats 4000000
set_option linter.all false
/-! set(a list of texts), its members by the list setT -/
namespace TxS
open PySem PySem.Spec PyProof.Rows L2
def setT (xs : List Str) : List Str := xs.foldl more []
section
variable {X : Cx} {pins : List (Addr × Obj)} {σ : L2.St} {A1 : Around}
end
def rSetL (P : Program) (w : World) (K : PySem.W.Frag) : List V → Hp → VK → Prop := fun vs H Q => ∃ (l : Addr) (xs : List Str), vs = [.ref l] ∧ SqL K H l (xs.map V.str) ∧ xs.length < 100 ∧ ∀ a, H a = none → Q (.ref a) (upd H a (SetSO P w a (setT xs)))
section
variable {P : Program} {w : World} {A : Around} {E : Value → Shared → Prop} {s : Shared}
end
end TxS

set_option Elab.async false
set_option maxRecDepth 100000
set_option maxHeartbeats 4000000
set_option linter.all false
/-! the mirror layer: sorted(set(texts)); x in an instance -/
namespace Md
open PySem PySem.Spec PyProof.Rows L2 TxS
section
variable {X : Cx} {K : PySem.W.Frag} {Γ : Gam} {W : WX} {a : Expr} {ta : TE} {φ : FE}
end
/-! ### x in o, o with its own __contains__ -/
def inOwn (c : Nat) (m : Fn) (k : Bool → Bool) (x y : D) (s : Sto) : Out D :=
  if clsD y s = some c then
    match m [y, x] s with
    | .ok (.bl b) s' => .ok (.bl (k b)) s'
    | _ => .bad
  else .bad
section
variable {X : Cx} {K : PySem.W.Frag} {Γ : Gam} {sp : Sp} {g : Addr} {n c : Nat} {m : Fn}
end
end Md

set_option Elab.async false
set_option maxRecDepth 100000
set_option maxHeartbeats 4000000
set_option linter.all false
/-! the mirror layer: evaluation lemmas of Md21 and Md23 -/
namespace Md
open PySem PySem.Spec PyProof.Rows L2 TxS
section
variable {ds : DSt} {s : Sto}
theorem e_intA {i : Int} : intA [.int i] s = .ok (.int i) s := rfl
theorem e_intAb {b : Bool} : intA [.bl b] s = .ok (.int (if b then 1 else 0)) s := rfl
def inO (k : Bool → Bool) (o : Out D) : Out D := match o with
  | .ok (.bl b) s' => .ok (.bl (k b)) s'
  | _ => .bad
theorem e_inOwn {n : Nat} {m : Fn} {k : Bool → Bool} {f : List D} {x : D} : inOwn n m k x (.ins n f) s = inO k (m [.ins n f, x] s) := by
  unfold inOwn inO
  simp only [clsD, if_true] <;> (cases m [.ins n f, x] s <;> first | rfl | (rename_i x _; cases x <;> rfl))
theorem e_inO {k : Bool → Bool} {b : Bool} : inO k (.ok (.bl b) s) = .ok (.bl (k b)) s := rfl
def evThree := And.intro @e_intA (And.intro @e_intAb (And.intro @e_inOwn @e_inO))
end
end Md

set_option Elab.async false
set_option maxRecDepth 100000
set_option maxHeartbeats 4000000
set_option linter.all false
/-! t.index(x) of a tuple of any data -/
namespace Md
open PySem PySem.Spec PyProof.Rows L2
section
variable {X : Cx} {K : PySem.W.Frag} {Γ : Gam}
def isT (x : D) (_ : Sto) : Bool := match x with
  | .ktp _ => true
  | _ => false
/-- a written tuple as a tuple -/
def safeK : List D → Bool
  | [] => true
  | .int _ :: _ => true
  | .tup _ :: _ => true
  | _ => false
def unkD (x : D) (s : Sto) : Out D := match x with
  | .ktp xs => if safeK xs = true then .ok (.tup xs) s else .bad
  | x => .ok x s
/-- str(an int or a text) -/
def strA (xs : List D) (s : Sto) : Out D := match xs with
  | [.str z] => .ok (.str z) s
  | xs => strD xs s
end
end Md

set_option Elab.async false
set_option maxRecDepth 100000
set_option maxHeartbeats 4000000
set_option linter.all false
/-! the mirror layer: evaluation lemmas of Md24 -/
namespace Md
open PySem PySem.Spec PyProof.Rows L2 TxS
section
variable {ds : DSt} {s : Sto}
theorem e_unk_k {xs : List D} (h : safeK xs = true) : unkD (.ktp xs) s = .ok (.tup xs) s := if_pos h
theorem e_unk_t {xs : List D} : unkD (.tup xs) s = .ok (.tup xs) s := rfl
theorem e_unk_l {xs : List D} : unkD (.lst xs) s = .ok (.lst xs) s := rfl
theorem e_isT {xs : List D} : isT (.ktp xs) s = true := rfl
theorem e_strA_s {z : Str} : strA [.str z] s = .ok (.str z) s := rfl
theorem e_strA_i {i : Int} : strA [.int i] s = strD [.int i] s := rfl
def evFour := And.intro @e_unk_k (And.intro @e_unk_t (And.intro @e_unk_l (And.intro @e_isT (And.intro @e_strA_s @e_strA_i))))
end
end Md

set_option Elab.async false
set_option maxRecDepth 100000
set_option maxHeartbeats 4000000
set_option linter.all false
/-! exceptions of own classes over any built-in one: made with a field, raised -/
namespace Ex
open PySem PySem.Spec PyProof.Rows L2
/-- what is asked of a class's order of bases -/
structure Three (B : String) (bm : List Value) : Prop where
  has : bm.contains (.type B) = true
  noA : bm.contains (.type "AttributeError") = false
  noN : bm.contains (.type "NameError") = false
theorem store_KeyError : StoreFacts "KeyError" [.type "KeyError", .type "LookupError", .type "Exception", .type "BaseException", .type "object"] "object.__setattr__" "object" where
  mro := by (kernel_rfl)
  slot := .of (owner := "object") (n := "__setattr__") (by (rw [typeLookup_type, builtinLookup_eq_fast]); (kernel_rfl)) (by (decide +kernel)) (by (decide +kernel)) (by (decide +kernel)) (by first | exact Or.inl (by decide +kernel) | exact Or.inr (by decide +kernel)) (by (rw [isSubtype_type]); (kernel_rfl))
  entry := PySem.F.entry_object_sa
  kind := by (decide +kernel)
  split := by (decide +kernel)
  hasOwner := by (decide +kernel)
  args := fun p1 p2 p3 => by (unfold argsOk); (kernel_rfl)
  passes := fun z => by (kernel_rfl)
/-! a class over a built-in one that is made by another one's __new__ -/
section
variable {M : Model} {A : Around} {E : Value → Shared → Prop} {hp : Heap} {gg : Array GenState} {dr : Drawn} {tk : Nat} {os : OsState}
variable {nm q : Str} {C N fI : Addr} {bs bm bmB zs : List Value} {hdct : Bool} {sn : List Str} {sub : List Value} {ab : Bool} {col : Option Bool} {dd : Option Addr} {k0 k1 k2 k3 k5 : Option Value} {B nI iI : String}
theorem new_chk (Fb : ExcBaseFacts B nI iI bmB) (t3 : Three B bm) {Q : Unit → Shared → Prop} (cC : hp.get? C = some (excClassObj nm q C N bs bm hdct sn sub ab col dd k0 k1 k2 k3 k5 nI)) (hq : Q () ⟨hp, gg, dr, tk, os⟩) : wpAny M A (checkBuiltinCall nI ⟨.ref C :: zs, []⟩) Q E ⟨hp, gg, dr, tk, os⟩ := by
  have c1 : (Value.ref C :: bm).contains (.type B) = true := by rw [List.contains_cons, t3.has, Bool.or_true]
  have c2 := Fb.noStar
  simp only [checkBuiltinCall, Fb.newKind, Fb.newSplit, Fb.newRow]
  repeat (first | refine wpAny_loadPart_at cC ?_ | (refine wpAny_isSubtype_exc cC ?_; rw [c1]) | refine wpAny_staticBase_exc cC ?_ | refine wpAny_madeBy_exc cC ?_ | simp only [bne_self_eq_false, Bool.false_eq_true, if_false] | wp_step)
  exact hq
variable {prog : Program} {w : World} {R : Result → Shared → Prop}
theorem new_run (Fb : ExcBaseFacts B nI iI bmB) (t3 : Three B bm) (cC : hp.get? C = some (excClassObj nm q C N bs bm hdct sn sub ab col dd k0 k1 k2 k3 k5 nI))
    (hq : R (.ok (.ret (.ref (hp.objs.size + 1)))) ⟨(hp.push (PySem.W.kdv_tup zs)).push (HandSPX.excO C hp.objs.size), gg, dr, tk, os⟩) (few : zs.length ≤ sizeLine) :
    codeAny (model prog w) A (.builtin nI ⟨.ref C :: zs, []⟩) R ⟨hp, gg, dr, tk, os⟩ := by
  have e0 := Fb.ends
  have c1 : (Value.ref C :: bm).contains (.type B) = true := by rw [List.contains_cons, t3.has, Bool.or_true]
  have c2 : (Value.ref C :: bm).contains (.type "AttributeError") = false := by rw [List.contains_cons, t3.noA]; rfl
  have c3 : (Value.ref C :: bm).contains (.type "NameError") = false := by rw [List.contains_cons, t3.noN]; rfl
  refine codeAny_builtinAt Fb.entry ?_
  unfold Builtin.«BaseException.__new__»
  refine PyProof.Rows.wpAt_bind ?_
  show PyProof.Rows.wpAt _ _ _ (stack >>= _) _ _ _
  refine PyProof.Rows.wpAt_bind (PyProof.Rows.wpAt_stack fun p0 below0 => wpAt_of_wpAny ?_)
  wp_walk
  refine wpAt_of_wpAny ?_
  rw [Fb.owner]
  repeat (first | with_reducible refine wpAny_madeHere_exc Fb.canon cC ?_ | with_reducible refine wpAny_loadPart_at cC ?_ | (with_reducible refine wpAny_isSubtype_exc cC ?_; first | rw [c1] | rw [c2] | rw [c3]) | wp_step)
  show R _ _
  rw [Heap.size_push]
  exact hq
theorem type_run (Fb : ExcBaseFacts B nI iI bmB) (t3 : Three B bm) {Q : Fin → Shared → Prop} (cC : hp.get? C = some (excClassObj nm q C N bs bm hdct sn sub ab col dd k0 k1 k2 k3 k5 nI))
    (li : PySem.W.Looks (model prog w) hp (typeLookup (.ref C) "__init__") (some (.ref fI))) (lb : ∀ me, PySem.W.Looks (model prog w) hp (bindSpecial (.ref fI) me) (.ref fI, [me])) (few : zs.length ≤ sizeLine)
    (hq : codeAny (model prog w) A (.call (.ref fI) ⟨.ref (hp.objs.size + 1) :: zs, []⟩) (fun r s' => match r with | .ok (.ret v) => v = .none ∧ Q (.done (.ret (.ref (hp.objs.size + 1)))) s' | .ok _ => False | .error e => E e s') ⟨(hp.push (PySem.W.kdv_tup zs)).push (HandSPX.excO C hp.objs.size), gg, dr, tk, os⟩) :
    wpAny (model prog w) A (Builtin.«type.__call__» ⟨.ref C :: zs, []⟩) Q E ⟨hp, gg, dr, tk, os⟩ := by
  repeat (first | with_reducible refine wpAny_loadPart_at cC ?_ | with_reducible refine wpAny_madeBy_exc cC ?_ | wp_step)
  refine codeAny_call_builtin_code (Code.quiet_builtin _ Fb.quiet) (new_chk Fb t3 cC ?_)
  refine new_run Fb t3 cC ?_ few
  show wpAny _ _ _ _ _ _
  have up : ∀ b o, hp.get? b = some o → ((hp.push (PySem.W.kdv_tup zs)).push (HandSPX.excO C hp.objs.size)).get? b = some o := fun b o e => Heap.get?_push_of_some _ (Heap.get?_push_of_some _ e)
  have cC2 := up _ _ cC
  have here : ((hp.push (PySem.W.kdv_tup zs)).push (HandSPX.excO C hp.objs.size)).get? (hp.objs.size + 1) = some (HandSPX.excO C hp.objs.size) := by heap_get
  have cS : (Value.ref C :: bm).contains (.ref C) = true := by simp
  have l1 := li.keeps up
  have l2 := (lb (.ref (hp.objs.size + 1))).keeps up
  unfold isInstance
  repeat (first | with_reducible refine wpAny_loadPart_at here ?_ | (with_reducible refine wpAny_isSubtype_exc cC2 ?_; rw [cS]) | wp_step)
  show wpAny _ _ (typeLookup (.ref C) _) _ _ _
  refine l1.at ?_
  refine wpAny_holding (wpAny_bind (l2.at ?_))
  refine wpAny_bind (wpAny_call (codeAny_mono hq fun r s' z0 => ?_))
  rcases r with e | (v | _ | _ | _) <;> first | exact z0 | exact z0.elim | skip
  obtain ⟨rfl, z0⟩ := z0
  first
    | exact wpAny_pure (wpAny_pure z0)
    | (wp_walk; exact z0)
theorem class_run (Fb : ExcBaseFacts B nI iI bmB) (t3 : Three B bm) (cC : hp.get? C = some (excClassObj nm q C N bs bm hdct sn sub ab col dd k0 k1 k2 k3 k5 nI))
    (li : PySem.W.Looks (model prog w) hp (typeLookup (.ref C) "__init__") (some (.ref fI))) (lb : ∀ me, PySem.W.Looks (model prog w) hp (bindSpecial (.ref fI) me) (.ref fI, [me])) (few : zs.length ≤ sizeLine)
    (hq : codeAny (model prog w) (A.under (.builtin "type.__call__" ⟨.ref C :: zs, []⟩)) (.call (.ref fI) ⟨.ref (hp.objs.size + 1) :: zs, []⟩) (PySem.W.InitBack (hp.objs.size + 1) R) ⟨(hp.push (PySem.W.kdv_tup zs)).push (HandSPX.excO C hp.objs.size), gg, dr, tk, os⟩) :
    codeAny (model prog w) A (.call (.ref C) ⟨zs, []⟩) R ⟨hp, gg, dr, tk, os⟩ := by
  have f1 := tc_lookup
  have f2 := tc_bind (.ref C)
  have f3 : (⟨hp, gg, dr, tk, os⟩ : Shared).TypeIs (.ref C) "type" := ⟨_, cC, rfl⟩
  refine codeAny_of_tree ?_
  show wpAny _ _ (callAny (.ref C) _) _ _ _
  repeat (any_goals (first | assumption | with_reducible refine wpAny_loadPart_at cC ?_ | wp_step))
  refine ⟨rfl, ?_⟩
  refine codeAny_call_builtin_at (Code.quiet_builtin _ (by decide +kernel)) entry_typeCall (wpAny_check_type_call_sub cC (type_run Fb t3 cC li lb few ?_))
  refine codeAny_mono hq fun r s' z0 => ?_
  rcases r with e | (v | _ | _ | _) <;> exact z0
end
/-- what the written part says of an own exception class with an own __init__ -/
structure Own (K : PySem.W.Frag) (C : Addr) : Prop where
  over : ∃ (B B2 newId initId : String) (bmB bmC : List Value), ExcBaseFacts B newId initId bmB ∧ Three B bmC ∧ StoreFacts B2 bmC "object.__setattr__" "object" ∧ PySem.W.excInitIn K C bmC newId = true ∧ PySem.W.excOver K C bmC = true
  dict : PySem.W.hasDictIn K C = true
  set : PySem.W.findIn K (.ref C) "__setattr__" = some (some (.builtin "object.__setattr__"))
  exc : PySem.W.subIn K (.ref C) (.type "BaseException") = some true
  ty : PySem.W.typeIn K (.ref C) = some (.type "type")
  keep : PySem.W.keepIn K (.ref C) = true
theorem Own.raises {X : Cx} {C : Addr} (h : Own X.K C) : Raises X (.ref C) := raises_own h.exc h.ty
section
variable {X : Cx} {pins : List (Addr × Obj)} {σ : L2.St} {H : Hp} {s : Shared} {a C : Addr} {f : Str} {y : V} {u : Value}
/-- the state behind the first store: the dict is new, then the exception points at it -/
theorem stored {h' : Heap} {dx t1 : Addr} {tk : Nat} (I : Inv X pins σ H s) (e : H a = some (exo a C none)) (ry : RelV y u) (old : s.heap.get? a = some (PySem.W.excObj C t1 none .none)) (lt : s.heap.objs.size ≤ dx)
    (rest : ∀ b o, b ≠ a → s.heap.get? b = some o → h'.get? b = some o) (now : h'.get? a = some (PySem.W.excObj C t1 (some dx) .none)) (ns : h'.Ns1 dx fun z => if z = f then some u else none) (ne : dx ≠ a) :
    Inv X pins σ (upd (upd H dx (exd dx [(f, y)])) a (exo a C (some dx))) { s with heap := h', toks := tk } := by
  let back : Obj → Obj := fun o => { o with dict := none }
  have mid_a : (h'.update a back).get? a = some (PySem.W.excObj C t1 none .none) := by
    rw [Heap.get?_update_self back now rfl]
  have mid_b : ∀ b, b ≠ a → (h'.update a back).get? b = h'.get? b := fun b hb => Heap.get?_update_other _ _ (Ne.symm hb)
  have grows : ∀ b o, s.heap.get? b = some o → (h'.update a back).get? b = some o := fun b o q => by
    by_cases hb : b = a
    · rw [hb] at q ⊢
      rw [old] at q
      cases q
      exact mid_a
    · exact (mid_b b hb).trans (rest b o hb q)
  have ns' : (h'.update a back).Ns1 dx fun z => if z = f then some u else none := ns.at fun o q => (mid_b dx ne).trans q
  have I1 : Inv X pins σ (upd H dx (exd dx [(f, y)])) { s with heap := h'.update a back, toks := tk } := I.laid grows lt (exd_ok ns' (relO_put (fs := []) ry fun _ => trivial))
  have e1 : upd H dx (exd dx [(f, y)]) a = some (exo a C none) := (upd_ne (Ne.symm ne)).trans e
  exact I1.write (x := a) (e := a) (t' := tk) (h' := h') (o := exo a C (some dx)) (by rw [e1]; trivial) (Or.inl rfl) (fun b v hb q => by rwa [mid_b b hb] at q) ⟨_, now⟩ (exo_ok now)
/-- self.f = y in __init__ -/
theorem first_field {A : Around} {E : Value → Shared → Prop} {Q : Unit → Shared → Prop} (T : Own X.K C) (no : PySem.W.takerIn X.K C f = some none) (I : Inv X pins σ H s) (e : H a = some (exo a C none)) (ry : RelV y u)
    (h : ∀ dx s', H dx = none → dx ≠ a → Inv X pins σ (upd (upd H dx (exd dx [(f, y)])) a (exo a C (some dx))) s' → Q () s') : wpAny (model X.prog X.w) A (setAttr (.ref a) f u) Q E s := by
  obtain ⟨B, B2, newId, initId, bmB, bmC, _, _, SF, _, over⟩ := T.over
  obtain ⟨cd, hcd, hd⟩ := PySem.W.any_some T.dict
  obtain ⟨t1, at_a⟩ := exo_at I.hok e
  have inst : PySem.W.InstAt s.heap a (PySem.W.excObj C t1 none .none) C none := ⟨at_a, rfl, rfl, trivial⟩
  refine PySem.W.set_plain I.kIn inst T.set (PySem.W.osa_openX SF I.kIn inst over no fun b => ?_)
  have cls : PySem.W.Looks (model X.prog X.w) s.heap (classData C) cd := PySem.W.looks_clsIn I.kIn hcd
  refine wpAny_bind (wpAny_pure (wpAny_bind (PySem.W.instanceDict_exc at_a cls hd ?_)))
  have away : a ≠ s.heap.objs.size := Nat.ne_of_lt (Heap.lt_size at_a)
  have old1 := Heap.get?_push_of_some (PySem.W.dictOf [] 0) at_a
  refine HandSPX.store_in_new ⟨PySem.W.dictOf [] 0, #[], 0, (Heap.get?_update_other _ _ away).trans (Heap.get?_push_size _ rfl), rfl, fun q hq => absurd hq (by simp), fun _ => rfl⟩ fun h' tk ns same => ?_
  refine h s.heap.objs.size ⟨h', s.gens, s.drawn, tk, s.os⟩ (I.hok.fresh (Nat.le_refl _)) (Ne.symm away) (stored (s := s) (t1 := t1) I e ry at_a (Nat.le_refl _) (fun b o hb q => ?_) ?_ ns (Ne.symm away))
  · exact (same.2 b (Nat.ne_of_lt (Heap.lt_size q))).trans ((Heap.get?_update_other _ _ (Ne.symm hb)).trans (Heap.get?_push_of_some _ q))
  · refine (same.2 a away).trans ?_
    rw [Heap.get?_update_self _ old1 rfl]
end
/-! ### __init__ with one store -/
def tInit (K : PySem.W.Frag) (f : Str) (to te : TE) : TS := fun D σ H => te σ H fun y H1 => to σ H1 fun x H2 => ∃ a C : Addr, x = .ref a ∧ Own K C ∧ PySem.W.takerIn K C f = some none ∧ H2 a = some (exo a C none) ∧
  ∀ dx, H2 dx = none → dx ≠ a → D.nx σ (upd (upd H2 dx (exd dx [(f, y)])) a (exo a C (some dx)))
theorem ps_init {X : Cx} {o e : Expr} {to te : TE} {f : Str} {p' pos : Pos} (ho : PE X o to) (he : PE X e te) (hs : swapsWith e (some (.Attribute o f p')) pos.line X.env = pure false := by rfl) : PS X (.Assign [.Attribute o f p'] e pos) (tInit X.K f to te) := by
  constructor
  intro pins s σ H D I h
  have last := thn (he.run pins s σ H _ I h) (Q' := fun v s1 => wpAny (model X.prog X.w) X.A (eval o X.env) (fun w s2 => wpAny (model X.prog X.w) X.A (setAttr w f v) (fun _ s3 => SP X pins D .next s3) X.xe s2) X.xe s1) fun v s1 ⟨y, H1, I1, r1, q1⟩ =>
    thn (ho.run pins s1 σ H1 _ I1 q1) fun w s2 ⟨x, H2, I2, r2, a, C, ex, T, no, at_, q⟩ => by
      subst ex
      obtain rfl : w = Value.ref a := r2
      exact first_field T no I2 at_ r1 fun dx s' n ne J => ⟨σ, _, J, q dx n ne⟩
  exact plainObj_wpAny_Assign_Attribute last hs
/-- what __init__(self, y) does -/
def spInit (K : PySem.W.Frag) (f : Str) : Sp := fun vs H Q _ => ∃ (a C : Addr) (y : V), vs = [.ref a, y] ∧ Own K C ∧ PySem.W.takerIn K C f = some none ∧ H a = some (exo a C none) ∧
  ∀ dx, H dx = none → dx ≠ a → Q .non (upd (upd H dx (exd dx [(f, y)])) a (exo a C (some dx)))
theorem okInit {P : Program} {w : World} {K : PySem.W.Frag} {mg : Str → Option Value} {base : Heap} {qual n0 n1 f : Str} {st : Stmt} {g : Addr} {fd : FuncData} {x : Str} (Fn : Fun K x qual st g fd) (S : FnScope [n0, n1] [n0, n1] (defScope st)) {p1 p2 p3 p4 : Pos}
    (hb : defBody st = [.Assign [.Attribute (.Name n0 p1) f p2] (.Name n1 p3) p4]) (h0 : Vis (defScope st) n0) (h1 : Vis (defScope st) n1) (d0 : (n0 == ("__debug__" : Str)) = false) (d1 : (n1 == ("__debug__" : Str)) = false) (c0 : (n0 == ("__classdict__" : Str)) = false) (c1 : (n1 == ("__classdict__" : Str)) = false)
    (sw : ∀ env : Env, swapsWith (.Name n1 p3) (some (.Attribute (.Name n0 p1) f p2)) p4.line env = pure false) :
    FnOk P w K mg base (L2.CX P w) 1 g fd [n0, n1] (spInit K f) := by
  refine Fn.okX S (fun vs H Q E h => ?_) fun cdv A outer s H vs Q E hr h => ?_
  · obtain ⟨a, C, y, rfl, _⟩ := h
    rfl
  · obtain ⟨a, C, y, rfl, T, no, at_, fin⟩ := h
    rw [hb]
    refine ⟨_, pss_one (ps_init (pe_var (i := 0) rfl h0 d0 c0) (pe_var (i := 1) rfl h1 d1 c1) (sw _)), ?_⟩
    exact ⟨y, rfl, .ref a, rfl, a, C, rfl, T, no, at_, fin⟩
/-! ### C(e) -/
def tMake (K : PySem.W.Frag) (C : Addr) (f : Str) (te : TE) : L2.St → Hp → XK → Prop := fun σ H Q => te σ H fun y H1 => Own K C ∧ PySem.W.takerIn K C f = some none ∧ ∀ d, H1 d = none → Q (.ref C) (some d) (upd H1 d (.xd [(f, y)]))
section
variable {X : Cx} {C fI : Addr} {fd : FuncData} {ps : List Str} {f x : Str} {e : Expr} {te : TE} {p pos : Pos}
theorem pmk_one {k : Nat} (iC : PySem.W.findIn X.K (.ref C) "__init__" = some (some (.ref fI))) (tI : PySem.W.typeIn X.K (.ref fI) = some (.type "function")) (F1 : FnOk X.prog X.w X.K X.mg X.base (L2.CX X.prog X.w) k fI fd ps (spInit X.K f)) (hr : Room (k + 1) X.A) (hb : Binds X.K fd ps [])
    (hg : L2.Gl X x) (hm : X.mg x = some (.ref C)) (kC : PySem.W.keepIn X.K (.ref C) = true) (he : PE X e te) (hdb : (x == ("__debug__" : Str)) = false := by decide) (hs : starEach [e] X.env = (false, eval e X.env) :: starEach [] X.env := by rfl) (hpl : (backTo pos (starEach [] X.env)).any (·.1) = false := by rfl) :
    PMk X (.Call (.Name x p) [e] [] pos) (tMake X.K C f te) := by
  intro pins s σ H Q I h
  have args : PA X [e] (tCons te tNil) := pa_cons he pa_nil hs
  refine wpAny_Call_Name_kw (ld_glob I hg hm (PySem.W.callWith_K (h₀ := X.base) I.ok.mod.kin kC (thn (args.run pos pins s σ H (fun vs H1 => match vs with | [y] => Own X.K C ∧ PySem.W.takerIn X.K C f = some none ∧ ∀ d, H1 d = none → Q (.ref C) (some d) (upd H1 d (.xd [(f, y)])) | _ => False) I h) fun us s1 got => ?_) hs hpl) hdb)
  · obtain ⟨vs, H1, I1, rv, q⟩ := got
    obtain ⟨y, rfl⟩ : ∃ y, vs = [y] := by
      match vs, q with
      | [y], _ => exact ⟨y, rfl⟩
    obtain ⟨T, no, fin⟩ := q
    obtain ⟨u, rfl, ru⟩ := vals1 rv
    refine ⟨I1.kIn, ?_⟩
    obtain ⟨B, B2, newId, initId, bmB, bmC, FB, t3, _, inI, _⟩ := T.over
    obtain ⟨nm, N', qn, bs, bm, hdct, sn, sub, ab, col, dd, k0, k1, k2, k3, k5, hC, hT⟩ := PySem.W.excInit_of I1.kIn inI
    obtain ⟨hp, gg, dr, tk, os⟩ := s1
    let e0 : Addr := hp.objs.size + 1
    let h2 : Heap := (hp.push (PySem.W.kdv_tup [u])).push (HandSPX.excO C hp.objs.size)
    have lt : hp.objs.size ≤ e0 := Nat.le_succ _
    have up : ∀ b o, hp.get? b = some o → h2.get? b = some o := fun b o q => Heap.get?_push_of_some _ (Heap.get?_push_of_some _ q)
    have here : h2.get? e0 = some (HandSPX.excO C hp.objs.size) := by
      show ((hp.push (PySem.W.kdv_tup [u])).push (HandSPX.excO C hp.objs.size)).get? (hp.objs.size + 1) = _
      heap_get
    have I2 : Inv X pins σ (upd H1 e0 (exo e0 C none)) ⟨h2, gg, dr, tk, os⟩ := I1.laid (t' := tk) up lt (exo_ok here)
    have n0 : H1 e0 = none := I1.hok.fresh lt
    have both : Vals [V.ref e0, y] [Value.ref e0, u] := .cons rfl (.cons ru .nil)
    have many : [Value.ref e0, u].length = ps.length := by
      have := F1.len [.ref e0, y] (upd H1 e0 (exo e0 C none)) (fun _ _ => True) (fun _ _ _ => False) ⟨e0, C, y, rfl, T, no, upd_same, fun _ _ _ => trivial⟩
      exact both.length.symm.trans this
    have bound := hb ⟨h2, gg, dr, tk, os⟩ [.ref e0, u] I2.kIn (by rw [List.append_nil]; exact many)
    rw [List.append_nil] at bound
    refine wpAny_call (class_run FB ⟨(hT _).trans t3.has, (hT _).trans t3.noA, (hT _).trans t3.noN⟩ hC (PySem.W.looks_findIn I1.kIn iC) (fun self => PySem.W.bind_fn I1.kIn self tI) (by rw [sizeLine_eq]; exact Nat.le_trans (show ([u] : List Value).length ≤ 1 from Nat.le_refl _) (by decide))
      (codeAny_mono (F1.run _ X.stack _ _ ⟨[.ref e0, u], []⟩ [.ref e0, u] [.ref e0, y]
        (fun v H2 => v = .non ∧ ∃ d, H2 = upd (upd (upd H1 e0 (exo e0 C none)) d (exd d [(f, y)])) e0 (exo e0 C (some d)) ∧ H1 d = none ∧ d ≠ e0) (fun _ _ _ => False) (hr.make C [u] []) (I2.env0.make C [u] []) bound both
        ⟨e0, C, y, rfl, T, no, upd_same, fun d hd ne => ⟨rfl, d, rfl, (upd_ne ne).symm.trans hd, ne⟩⟩) fun r s' out => ?_))
    match r, out with
    | .error er, out =>
      obtain ⟨_, _, _, _, _, _, _, _, _, _, _, _, z⟩ := out
      exact z.elim
    | .ok .next, out => exact False.elim out
    | .ok .brk, out => exact False.elim out
    | .ok .cont, out => exact False.elim out
    | .ok (.ret w), out =>
      obtain ⟨v, H2, os2, bare2, un2, hok2, rv2, rfl, d, rfl, nd, ne⟩ := out
      obtain ⟨h3, g3, d3, t3, os3⟩ := s'
      refine ⟨rv2, mk_end (fs := [(f, y)]) (d := d) T.raises I1 lt up un2 hok2 os2 bare2 upd_same ((upd_ne ne).trans upd_same) nd ?_⟩
      have shape : upd (del (upd (upd (upd H1 e0 (exo e0 C none)) d (exd d [(f, y)])) e0 (exo e0 C (some d))) e0) d (.xd [(f, y)]) = upd H1 d (.xd [(f, y)]) := by
        funext b
        by_cases h1 : b = d
        · rw [h1, upd_same, upd_same]
        · rw [upd_ne h1, upd_ne h1]
          by_cases h2 : b = e0
          · rw [h2, del_same]; exact n0.symm
          · rw [del_ne h2, upd_ne h2, upd_ne h1, upd_ne h2]
      rw [shape]
      exact fin d nd
end
end Ex

set_option Elab.async false
set_option maxRecDepth 100000
set_option maxHeartbeats 4000000
set_option linter.all false
/-! try .. except A: .. except B as e: ..: any row of clauses, with and without a name -/
namespace Ex
open PySem PySem.Spec PyProof.Rows L2
/-- a caught exception of this frame: a stands over the ground B -/
structure Air (X : Cx) (pins : List (Addr × Obj)) (σ : L2.St) (H : Hp) (a : Addr) (cls : Value) (d : Option Addr) (s : Shared) : Prop where
  ex : ∃ (B : Heap) (sI : Shared), Inv X pins σ H sI ∧ (∀ b o, sI.heap.get? b = some o → b ∉ frs X.stack → B.get? b = some o) ∧ sI.heap.UpToSlots s.heap ∧ HandSPX.FlyingZ B (X.env :: X.outer) a (Zc cls d) s.heap ∧ s.os = sI.os
  new : H a = none
  bare : AllBare s.gens
/-- a clause: its class, its name's slot, what its suite is read as -/
abbrev Cls3 := Value × Option Nat × (Addr → Value → Option Addr → TS)
/-- behind the suite the name is gone -/
def gone (D : Ends) : Option Nat → Ends
  | none => D
  | some i => ⟨fun σ H => D.nx (σ.set i none) H, D.rt, fun σ H => D.bk (σ.set i none) H, fun σ H => D.ct (σ.set i none) H⟩
def named (σ : L2.St) (a : Addr) : Option Nat → L2.St
  | none => σ
  | some i => σ.set i (some (.ref a))
def wMix (K : PySem.W.Frag) (Wout : WX) (D : Ends) : List Cls3 → WX
  | [] => Wout
  | (c, n, ts) :: r => fun cls d σ H => ∃ b, PySem.W.exmOne K cls c = some b ∧ (b = true → ∀ a, H a = none → ts a cls d (gone D n) (named σ a n) H) ∧ (b = false → wMix K Wout D r cls d σ H)
section
variable {X : Cx} {pins : List (Addr × Obj)} {σ : L2.St} {H : Hp} {a : Addr} {cls : Value} {d : Option Addr} {s : Shared}
/-- the exception and its frame's places -/
theorem Air.parts (g : Air X pins σ H a cls d s) (hs : X.stack = X.env :: X.outer) (hf : X.env.frame = some X.env.locals) :
    ∃ (oe : Obj), s.heap.get? a = some oe ∧ Zc cls d oe ∧ (∃ vs, oe.data = .fields vs) ∧ Inv X pins σ H s ∧ Inv (X.suite a ((a, oe) :: (X.pn ++ pins))) [] σ H s := by
  obtain ⟨B, sI, J, nb, up, fl, os⟩ := g.ex
  obtain ⟨oe, vs, he, hz, hd⟩ := fl.there
  have off : a ∉ frs (X.env :: X.outer) := fun hm => by
    obtain ⟨_, o, e, hnf⟩ := fl.2.2.1.mem hm
    rw [he] at e
    cases e
    exact hnf vs hd
  have offL : a ≠ X.env.locals := fun z => off (List.mem_filterMap.mpr ⟨X.env, List.mem_cons_self .., by rw [hf, z]⟩)
  have offF : a ∉ X.fs := fun hm => by
    obtain ⟨e, he', q⟩ := List.mem_filterMap.mp hm
    exact off (List.mem_filterMap.mpr ⟨e, List.mem_cons_of_mem _ he', q⟩)
  have I : Inv X pins σ H s := by
    have := J.landed (s' := s) nb fl.1 up os g.bare
    exact this
  exact ⟨oe, he, hz, ⟨vs, hd⟩, I, I.suite he hd g.new offL offF⟩
theorem un_add {fs ex : List Addr} {H0 H1 : Hp} {h0 h1 : Heap} {a : Addr} {o : HO} (U : Un fs ex H0 H1 h0 h1) (n0 : h0.get? a = none) (na : H1 a = none) : Un fs ex H0 (upd H1 a o) h0 h1 :=
  ⟨U.keep, U.slot, fun b u q n x => by rw [upd_ne (fun z => by rw [z, n0] at q; cases q)]; exact U.free b u q n x, U.there, fun b xs q => by rw [upd_ne (ne_of_none (U.tups b xs q) na)]; exact U.tups b xs q,
    fun b u xs q => by rw [upd_ne (ne_of_none (U.frzs b u xs q) na)]; exact U.frzs b u xs q, fun b ps q => by obtain ⟨m, z⟩ := U.tbls b ps q; exact ⟨m, by rw [upd_ne (ne_of_none z na)]; exact z⟩⟩
/-- the caught exception is known from now on -/
theorem Air.track {C : Addr} (g : Air X pins σ H a (.ref C) d s) (hs : X.stack = X.env :: X.outer) (hf : X.env.frame = some X.env.locals) (hex : X.ex = []) : Inv (X.suite a (X.pn ++ pins)) [] σ (upd H a (Md.exw a C d)) s := by
  obtain ⟨oe, _, _, _, I, _⟩ := g.parts hs hf
  obtain ⟨B, sI, J, nb, up, fl, os⟩ := g.ex
  obtain ⟨_, nB, frames, ov, vs, T, oT, ts, at_, hz, hd, h1, _⟩ := fl
  have off : a ∉ frs X.stack := fun hm => by
    rw [hs] at hm
    obtain ⟨_, o, e, nf⟩ := frames.mem hm
    rw [at_] at e
    cases e
    exact nf vs hd
  have gone_ : ∀ o, sI.heap.get? a ≠ some o := fun o e => by
    have z := nb a o e off
    rw [nB] at z
    cases z
  have n0 : X.s_0.heap.get? a = none := by
    cases e : X.s_0.heap.get? a with
    | none => rfl
    | some o =>
      obtain ⟨o2, q⟩ := J.base.there a o e (by rw [hex]; exact fun z => nomatch z)
      exact absurd q (gone_ o2)
  have offL : a ≠ X.env.locals := fun z => off (by rw [hs]; exact List.mem_filterMap.mpr ⟨X.env, List.mem_cons_self .., by rw [hf, z]⟩)
  refine ⟨I.ok.suite _ _, I.os, I.bare, un_add I.base n0 g.new, I.loc, I.cell, ?_, fun x c e => ?_, fun p hp => ?_, I.hok.laidN (fun _ _ q => q) g.new (Md.exw_ok at_ hz hd fun q t z => by rw [h1] at z; cases z), I.len⟩
  · show upd H a _ X.env.locals = none
    rw [upd_ne (Ne.symm offL)]
    exact I.free
  · have ne : c ≠ a := fun z => by
      obtain ⟨v, o, q, y⟩ := I.cell x c e
      rw [z, at_] at q
      cases q
      rw [hd] at y
      cases y
    rw [upd_ne ne]
    exact I.freeC x c e
  · have hp' : p ∈ X.pn ++ pins := by rw [List.append_nil] at hp; exact hp
    obtain ⟨k1, k2, k3⟩ := I.pin p hp'
    refine ⟨k1, ?_, k3⟩
    rw [upd_ne fun z => gone_ _ (by rw [← z]; exact (J.pin p hp').1)]
    exact k2
theorem unsuite0 {pn' : List (Addr × Obj)} (I : Inv (X.suite a (X.pn ++ pins)) pn' σ H s) (ok : X.Ok) : Inv X pins σ H s :=
  ⟨ok, I.os, I.bare, I.base, I.loc, I.cell, I.free, I.freeC, fun p hp => I.pin p (List.mem_append_left _ hp), I.hok, I.len⟩
/-- the clause's class is looked at -/
theorem Air.asks {x : Str} {c : Value} {b : Bool} {np : Pos} {R : Bool → Shared → Prop} {E' : Value → Shared → Prop} (g : Air X pins σ H a cls d s) (hs : X.stack = X.env :: X.outer) (hf : X.env.frame = some X.env.locals) (hc : Names X x c) (hb : PySem.W.exmOne X.K cls c = some b) (q : R b s) :
    wpAny (model X.prog X.w) (X.A.mark (some (.ref a))) (eval (.Name x np) X.env) (fun v s1 => wpAny (model X.prog X.w) (X.A.mark (some (.ref a))) (excMatches (.ref a) v) R E' s1) E' s := by
  obtain ⟨oe, he, hz, _, I, S⟩ := g.parts hs hf
  have kind : PySem.W.Looks (model X.prog X.w) s.heap (typeOf (.ref a)) cls := fun A Q E s k q => wpAny_typeOf_ref (k _ _ he) (by rw [hz.1]; exact q)
  have match_ : wpAny (model X.prog X.w) (X.A.mark (some (.ref a))) (excMatches (.ref a) c) R E' s := (PySem.W.exm_one (M := model X.prog X.w) I.kIn kind hb).here q
  obtain ⟨hg, hdb, hm | ⟨hm, hv, hn⟩⟩ := hc
  · exact ld_glob S hg hm match_ hdb
  · exact ld_blt S hg hm hv match_ hn hdb
/-- it flies on, seen once more -/
theorem Air.again {E' : Value → Shared → Prop} {Q : Unit → Shared → Prop} {A : Around} (g : Air X pins σ H a cls d s) (h : ∀ s', Air X pins σ H a cls d s' → Q () s') : wpAny (model X.prog X.w) A (setFlight (.ref a) none) Q E' s := by
  obtain ⟨B, sI, J, nb, up, fl, os⟩ := g.ex
  exact HandSPX.lands_againZ fl fun h' fl' up' => h _ ⟨⟨B, sI, J, nb, up.trans up', fl', os⟩, g.new, g.bare⟩
/-- no clause takes it -/
theorem Air.out {Wout : WX} {Q : Flow → Shared → Prop} (g : Air X pins σ H a cls d s) (hs : X.stack = X.env :: X.outer) (hf : X.env.frame = some X.env.locals) (tk : Takes X Wout) (w : Wout cls d σ H) : wpAny (model X.prog X.w) X.A (handleBy (.ref a) X.env []) Q X.xe s := by
  obtain ⟨B, sI, J, nb, up, fl, os⟩ := g.ex
  have raise_ : wpAny (model X.prog X.w) X.A (setFlight (.ref a) X.env.frame) (fun _ s4 => wpAny (model X.prog X.w) X.A (throw (.ref a) : Sem Flow) Q X.xe s4) X.xe s := by
    rw [hf]
    refine HandSPX.setFlight_upZ fl fun h4 held up4 => wpAny_throw (tk _ _ ?_)
    exact ⟨a, B, sI, pins, σ, H, cls, d, rfl, J, nb, up.trans up4, Or.inr (Or.inr (by rw [hs]; exact held)), g.new, os, g.bare, w⟩
  obtain ⟨k1, k2, k3, oe, vs, T, oT, ts, he, hz, hd, h1, _⟩ := id fl
  refine wpAny_handleBy_nil ?_
  unfold PySem.passOn
  refine wpAny_bind (wpAny_field he hd h1 ?_)
  have no : ¬ ((Value.ref T == Value.none) = true) := by simp
  rw [if_neg no]
  first
    | exact wpAny_bind raise_
    | exact wpAny_bind (wpAny_pure (wpAny_bind raise_))
/-- a clause -/
inductive HOk3 (X : Cx) : List ExceptHandler → List Cls3 → Prop
  | nil : HOk3 X [] []
  | plain {x : Str} {c : Value} {ts : Addr → Value → Option Addr → TS} {b0 : Stmt} {suite : List Stmt} {np p : Pos} {hds : List ExceptHandler} {l : List Cls3} (hc : Names X x c)
      (hsu : ∀ (a : Addr) (oe : Obj) (cls : Value) (d : Option Addr) (pn : List (Addr × Obj)), Zc cls d oe → (∃ vs, oe.data = .fields vs) → PSs (X.suite a ((a, oe) :: pn)) (b0 :: suite) (ts a cls d)) (r : HOk3 X hds l) :
      HOk3 X (.ExceptHandler (some (.Name x np)) none (b0 :: suite) p :: hds) ((c, none, ts) :: l)
  | as_ {x n : Str} {c : Value} {i : Nat} {ts : Addr → Value → Option Addr → TS} {b0 : Stmt} {suite : List Stmt} {np p : Pos} {hds : List ExceptHandler} {l : List Cls3} (hN : X.N.Nodup) (hi : X.N[i]? = some n) (hl : X.env.kindOf n = some .local) (hc : Names X x c)
      (hsu : ∀ (a : Addr) (oe : Obj) (cls : Value) (d : Option Addr) (pn : List (Addr × Obj)), Zc cls d oe → (∃ vs, oe.data = .fields vs) → PSs (X.suite a ((a, oe) :: pn)) (b0 :: suite) (ts a cls d)) (r : HOk3 X hds l) :
      HOk3 X (.ExceptHandler (some (.Name x np)) (some n) (b0 :: suite) p :: hds) ((c, some i, ts) :: l)
  | own_ {x n : Str} {c : Value} {i : Nat} {ts : Addr → Value → Option Addr → TS} {b0 : Stmt} {suite : List Stmt} {np p : Pos} {hds : List ExceptHandler} {l : List Cls3} (hN : X.N.Nodup) (hi : X.N[i]? = some n) (hl : X.env.kindOf n = some .local) (hc : Names X x c) (hex : X.ex = [])
      (hsu : ∀ (a : Addr) (cls : Value) (d : Option Addr) (pn : List (Addr × Obj)), PSs (X.suite a pn) (b0 :: suite) (ts a cls d)) (r : HOk3 X hds l) :
      HOk3 X (.ExceptHandler (some (.Name x np)) (some n) (b0 :: suite) p :: hds) ((c, some i, fun a cls d D σ H => H a = none → ∃ C, cls = .ref C ∧ ts a cls d D σ (upd H a (Md.exw a C d))) :: l)
theorem handled {Wout : WX} {D : Ends} (hs : X.stack = X.env :: X.outer) (hf : X.env.frame = some X.env.locals) (tk : Takes X Wout) {hds : List ExceptHandler} {l : List Cls3} (k : HOk3 X hds l) :
    ∀ {s : Shared}, Air X pins σ H a cls d s → wMix X.K Wout D l cls d σ H → wpAny (model X.prog X.w) X.A (handleBy (.ref a) X.env hds) (SP X pins D) X.xe s := by
  induction k with
  | nil => exact fun g w => g.out hs hf tk w
  | plain hc hsu _ ih =>
    intro s g w
    obtain ⟨b, hb, yes, no⟩ := w
    refine wpAny_handleBy_cons (codeAny_handlers_test (g.asks hs hf hc hb ?_)) (fun z => nomatch z)
    cases b with
    | false => exact ih g (no rfl)
    | true =>
      refine codeAny_handlers_suite (g.again fun s4 g4 => ?_)
      obtain ⟨oe, he, hz, hd, I4, S4⟩ := g4.parts hs hf
      refine wpAny_mono ((hsu a oe cls d (X.pn ++ pins) hz hd).run [] s4 σ H D S4 (yes rfl a g.new)) (fun f s6 out => ?_) (fun _ _ z => False.elim z)
      have ok := I4.ok
      match f, out with
      | .next, ⟨σ6, H6, S6, q⟩ => exact ⟨σ6, H6, S6.unsuite ok, q⟩
      | .brk, ⟨σ6, H6, S6, q⟩ => exact ⟨σ6, H6, S6.unsuite ok, q⟩
      | .cont, ⟨σ6, H6, S6, q⟩ => exact ⟨σ6, H6, S6.unsuite ok, q⟩
      | .ret u, ⟨v, σ6, H6, S6, rv, q⟩ => exact ⟨v, σ6, H6, S6.unsuite ok, rv, q⟩
  | @as_ x n c i ts b0 suite np p hds l hN hi hl hc hsu _ ih =>
    intro s g w
    obtain ⟨b, hb, yes, no⟩ := w
    refine wpAny_handleBy_cons (codeAny_handlers_test (g.asks hs hf hc hb ?_)) (fun z => nomatch z)
    cases b with
    | false => exact ih g (no rfl)
    | true =>
      refine codeAny_handlers_suite_as (g.again fun s4 g4 => ?_)
      obtain ⟨oe, he, hz, hd, I4, S4⟩ := g4.parts hs hf
      refine store_ok (X := X.suite a ((a, oe) :: (X.pn ++ pins))) (v := .ref a) S4 hN hi (Or.inl hl) rfl (fun s5 S5 => ?_) (Or.inr hl)
      refine wpAny_mono ((hsu a oe cls d (X.pn ++ pins) hz hd).run [] s5 _ H _ S5 (yes rfl a g.new)) (fun f s6 out => ?_) (fun _ _ z => False.elim z)
      have ok := I4.ok
      match f, out with
      | .next, ⟨σ6, H6, S6, q⟩ => exact gone_ok (S6.unsuite ok) hN hi hl fun s7 J => ⟨_, H6, J, q⟩
      | .brk, ⟨σ6, H6, S6, q⟩ => exact gone_ok (S6.unsuite ok) hN hi hl fun s7 J => ⟨_, H6, J, q⟩
      | .cont, ⟨σ6, H6, S6, q⟩ => exact gone_ok (S6.unsuite ok) hN hi hl fun s7 J => ⟨_, H6, J, q⟩
      | .ret u, ⟨v, σ6, H6, S6, rv, q⟩ => exact gone_ok (S6.unsuite ok) hN hi hl fun s7 J => ⟨v, _, H6, J, rv, q⟩
  | @own_ x n c i ts b0 suite np p hds l hN hi hl hc hex hsu _ ih =>
    intro s g w
    obtain ⟨b, hb, yes, no⟩ := w
    refine wpAny_handleBy_cons (codeAny_handlers_test (g.asks hs hf hc hb ?_)) (fun z => nomatch z)
    cases b with
    | false => exact ih g (no rfl)
    | true =>
      refine codeAny_handlers_suite_as (g.again fun s4 g4 => ?_)
      obtain ⟨C, rfl, w4⟩ := yes rfl a g.new g.new
      have ok := (g4.parts hs hf).choose_spec.2.2.2.1.ok
      have S4 := g4.track hs hf hex
      refine store_ok (X := X.suite a (X.pn ++ pins)) (v := .ref a) S4 hN hi (Or.inl hl) rfl (fun s5 S5 => ?_) (Or.inr hl)
      refine wpAny_mono ((hsu a (.ref C) d (X.pn ++ pins)).run [] s5 _ _ _ S5 w4) (fun f s6 out => ?_) (fun _ _ z => False.elim z)
      match f, out with
      | .next, ⟨σ6, H6, S6, q⟩ => exact gone_ok (unsuite0 S6 ok) hN hi hl fun s7 J => ⟨_, H6, J, q⟩
      | .brk, ⟨σ6, H6, S6, q⟩ => exact gone_ok (unsuite0 S6 ok) hN hi hl fun s7 J => ⟨_, H6, J, q⟩
      | .cont, ⟨σ6, H6, S6, q⟩ => exact gone_ok (unsuite0 S6 ok) hN hi hl fun s7 J => ⟨_, H6, J, q⟩
      | .ret u, ⟨v, σ6, H6, S6, rv, q⟩ => exact gone_ok (unsuite0 S6 ok) hN hi hl fun s7 J => ⟨v, _, H6, J, rv, q⟩
end
/-- .. where all slots are there -/
def wMixL (n : Nat) (K : PySem.W.Frag) (Wout : WX) (D : Ends) (l : List Cls3) : WX := fun cls d σ H => σ.length = n → wMix K Wout D l cls d σ H
section
variable {X : Cx} {body : List Stmt} {h0 : ExceptHandler} {hds : List ExceptHandler} {l : List Cls3} {pos : Pos} {tb : WX → TS} {Wout : WX}
/-- try: body / except ..: .. -/
theorem ps_try_mix (hs : X.stack = X.env :: X.outer) (hf : X.env.frame = some X.env.locals) (tk : Takes X Wout)
    (hb : ∀ (W : WX) (pn : List (Addr × Obj)) (xe : Value → Shared → Prop), Takes (X.tr pn xe) W → PassesOwn (model X.prog X.w) X.A X.env xe → PSs (X.tr pn xe) body (tb W))
    (hh : HOk3 X (h0 :: hds) l) : PS X (.Try body (h0 :: hds) [] [] pos) (fun D σ H => tb (wMixL X.N.length X.K Wout D l) D σ H) := by
  constructor
  intro pins s σ H D I h
  have ok := I.ok
  have frames : X.A.frames = some (X.env :: X.outer) := by rw [ok.frames, hs]
  let caught : Value → Shared → Prop := fun e s1 => wpAny (model X.prog X.w) X.A (noteFrame e X.env) (fun _ s2 => wpAny (model X.prog X.w) X.A (setFlight e none) (fun _ s3 => wpAny (model X.prog X.w) X.A (handleBy e X.env (h0 :: hds)) (SP X pins D) X.xe s3) X.xe s2) X.xe s1
  have catches : Takes (X.tr (X.pn ++ pins) caught) (wMixL X.N.length X.K Wout D l) := by
    rintro u s' ⟨a, B, sI, pins', σ', H', cls, d, rfl, J', nb, up, sky, na, os, ag, w⟩
    have J : Inv X pins σ' H' sI := J'.ofTry ok
    rw [show (X.tr (X.pn ++ pins) caught).stack = X.env :: X.outer from hs] at sky
    refine Sky.land Zc.steady frames hf sky fun h3 fl up3 => ?_
    exact handled hs hf tk hh ⟨⟨B, sI, J, nb, up.trans up3, fl, os⟩, na, ag⟩ (w J.len)
  refine wpAny_Try_except (wpAny_mono ((hb _ (X.pn ++ pins) caught catches PassesOwn.looking).run [] s σ H D (I.toTry _) h) (fun f s1 out => ?_) fun _ _ z => z)
  match f, out with
  | .next, ⟨σ', H', J, q⟩ => exact wpAny_execs_nil ⟨σ', H', J.ofTry ok, q⟩
  | .brk, ⟨σ', H', J, q⟩ => exact ⟨σ', H', J.ofTry ok, q⟩
  | .cont, ⟨σ', H', J, q⟩ => exact ⟨σ', H', J.ofTry ok, q⟩
  | .ret u, ⟨v, σ', H', J, rv, q⟩ => exact ⟨v, σ', H', J.ofTry ok, rv, q⟩
end
end Ex

set_option Elab.async false
set_option maxRecDepth 100000
set_option maxHeartbeats 4000000
set_option linter.all false
/-! the empty dict: shown, and beside a tuple; == of anything with a tuple; len({a, b, c, d}) -/
namespace PySem.SeqAt
open PySem PySem.Spec PyProof
end PySem.SeqAt
namespace Md
open PySem PySem.Spec PyProof.Rows L2
/-- a dict that is told of and is empty -/
def NoKeys (H : Hp) (x : V) : Prop := ∃ a o, x = .ref a ∧ H a = some (.frz o (.dK []))
def rReprZ (K : PySem.W.Frag) : List V → Hp → VK → Prop := fun xs H Q => Gl.rReprW K xs H Q ∨ ∃ x, xs = [x] ∧ NoKeys H x ∧ Q (.str "{}") H
def reprZ (xs : List D) (s : Sto) : Out D := match xs with
  | [.dic []] => .ok (.str "{}") s
  | xs => reprD xs s
theorem reprZ_nr {d : D} {s : Sto} {c : Nat} {q : Option (Str × D)} {s2 : Sto} (e : reprZ [d] s = .err c q s2) : False := by
  unfold reprZ at e
  split at e
  · cases e
  · simp only [reprD] at e
    split at e <;> (try split at e) <;> cases e
def eqZ (f : D → D → Sto → Out D) (x y : D) (s : Sto) : Out D := match x with
  | .dic [] => match y with
    | .tup _ => .ok (.bl false) s
    | _ => .bad
  | .ins _ _ => f x y s
  | x => eqD x y s
section
variable {X : Cx} {K : PySem.W.Frag} {Γ : Gam}
theorem noKeys_obj {pins : List (Addr × Obj)} {σ : L2.St} {H : Hp} {s : Shared} {x : V} {u : Value} (I : Inv X pins σ H s) (h : NoKeys H x) (r : RelV x u) : ∃ (a : Addr) (n : Nat), u = .ref a ∧ (a == sysModules) = false ∧ s.heap.get? a = some { cls := .type "dict", dict := none, data := .dict #[] n } := by
  obtain ⟨a, o, rfl, ha⟩ := h
  cases (show u = Value.ref a from r)
  obtain ⟨g, _, ya, vs, kv, o2, es, ep, g2, hx, hd, _, pr, _⟩ := (show ObjOk X.prog X.w H s.heap a (.frz o (.dK [])) from I.hok a _ ha)
  have : vs = [] := by cases kv; rfl
  subst this
  have e : es = #[] := by
    cases es with
    | mk l => cases pr; rfl
  subst e
  obtain ⟨cls, dd, data, sl⟩ := o2
  obtain ⟨rfl, rfl, rfl⟩ := hx
  cases hd
  exact ⟨a, ep, rfl, ya, g2⟩
theorem call_reprZU (hu : X.A.units + 64 < cLine) (hG : X.A.guards = some []) (hn : X.base.NoDigits) (hK : X.K = K := by rfl) : CallR X (.builtin "repr") (rReprZ K) := by
  subst hK
  intro pins s σ H xs us Q I r h
  rcases h with h | ⟨x, rfl, hx, q⟩
  · exact Gl.call_reprU hu hG hn pins s σ H xs us Q I r h
  · obtain ⟨u, rfl, r1⟩ := vals1 r
    obtain ⟨a, n, rfl, ya, g⟩ := noKeys_obj I hx r1
    refine call_repr_slot (by omega) ⟨_, g, rfl⟩ F.slot_dict_repr ?_
    exact call_dict_reprK (as := []) (d := 0) g rfl rfl ya (fun z => nomatch z) .nil hG (fun b _ => Clear.nil b) (by show X.A.units + 1 + (0 + 1) < cLine; omega) (fun _ _ e => e) (fun h' u tk hk => ⟨_, _, rfl, .str _, H, I.kept hk, ⟨_, rfl⟩, q⟩) (by decide)
theorem noKeys_rp {G F H : Hp} {ι : List Addr} {s : Sto} {v : V} (r : Rel K Γ G F H ι s) (h : Rp K Γ F ι v (.dic [])) : NoKeys H v := by
  cases h with
  | dK h g => cases g; exact ⟨_, _, rfl, r.sub _ _ h⟩
theorem cg_reprZ : CallG K Γ (rReprZ K) reprZ := by
  intro W σ H Q G F ι s xs vs r g hp
  unfold reprZ at hp
  split at hp
  · obtain ⟨v, rfl, gx⟩ := one_rp g
    exact Or.inr ⟨v, rfl, noKeys_rp r gx, hp _ _ _ _ Ext.refl r (.str _)⟩
  · exact Or.inl (cg_repr W σ H Q G F ι s _ vs r g hp)
end
/-! ### len({a, b, c, d}) of ints -/
def intB (φ : FE) (k : Int → DSt → Sto → Out D) : FE := fun ds s => (φ ds s).bind fun x s1 => match x with
  | .int a => k a ds s1
  | _ => .bad
def lenXD (a b c d : FE) : FE := intB a fun i => intB b fun j => intB c fun k => intB d fun l => fun _ s => .ok (.int (Gl.cnt4 i j k l : Nat)) s
section
variable {X : Cx} {K : PySem.W.Frag} {Γ : Gam} {W : WX} {e1 e2 e3 e4 : Expr} {t1 t2 t3 t4 : TE} {φ1 φ2 φ3 φ4 : FE} {p p2 pos : Pos}
end
/-! ### a def that knows its code -/
section
variable {P : Program} {w : World} {K : PySem.W.Frag} {mg : Str → Option Value} {base : Heap} {Γ : Gam}
end
end Md

set_option Elab.async false
set_option maxRecDepth 100000
set_option maxHeartbeats 4000000
set_option linter.all false
/-! x + y .. by an own method of x's class, whatever y is: of a plain kind, or of a class that says nothing of it -/
namespace PySem.W
open Lean Elab Tactic Meta PySem PySem.Calls PyProof.Rows
/-- a class right under object -/
def underObj (K : Frag) (C : Addr) : Bool := (clsIn K C).any fun cd => cd.mro == [.ref C, .type "object"]
section
variable {prog : Program} {w : World} {M : Model} {A : Around} {E : Value → Shared → Prop} {s : Shared} {K : Frag} {x C C' L f : Addr} {h₀ : Heap} {m : Str → Option Value} {ox : Obj} {od : Option Obj} {nm T : String}
end
end PySem.W
namespace Md
open PySem PySem.Spec PyProof.Rows L2
/-- a class that says nothing of an operation -/
structure NoOp (K : PySem.W.Frag) (name rname : Str) (C : Addr) : Prop where
  u : PySem.W.underObj K C = true
  f : PySem.W.findIn K (.ref C) name = some none
  r : PySem.W.findIn K (.ref C) rname = some none
def binOwnR (c : Nat) (cs : List Nat) (m : Fn) (x y : D) (s : Sto) : Out D :=
  if (decide (clsD x s = some c) && ((kindD y s).isSome || ((clsD y s).any fun c' => decide (c' = c ∨ c' ∈ cs)))) = true then m [x, y] s else .bad
section
variable {X : Cx} {K : PySem.W.Frag} {Γ : Gam} {E : XK} {g : Addr} {n c : Nat} {m : Fn} {a b : Expr} {ta tb : TE} {φ ψ : FE} {pos : Pos}
end
end Md

set_option Elab.async false
set_option maxRecDepth 100000
set_option maxHeartbeats 4000000
set_option linter.all false
/-! classes as values: C.m(..) of a classmethod, cls(..) of a name that holds a class -/
namespace Md
open PySem PySem.Spec PyProof.Rows L2
section
variable {X : Cx} {CX : CXT} {K : PySem.W.Frag} {Γ : Gam} {C f g rp : Addr} {fd : FuncData} {ps : List Str} {k i c : Nat} {sp : Sp} {E : XK} {x m' : Str} {p pos apos : Pos} {e o : Expr} {es : List Expr} {te : TE} {t ta : TA} {φ : FE} {ψ : FA} {m : Fn} {mc : Value} {pl : Sem Bool}
end
/-! the first place of a text in a text -/
section
variable {X : Cx} {K : PySem.W.Frag} {Γ : Gam}
end
end Md

set_option Elab.async false
set_option maxRecDepth 100000
set_option maxHeartbeats 4000000
set_option linter.all false
/-! the mirror layer: raise; a def that calls what it got within a try; a lambda handed to it -/
namespace Md
open PySem PySem.Spec PyProof.Rows L2 Ex
/-! ### raise -/
def errS (c : Nat) : FS := fun ds s => .err c none ds s
def errV (c : Nat) (f : Str) (φ : FE) : FS := fun ds s => bindS (φ ds s) ds fun d s => .err c (some (f, d)) ds s
/-- an own exception class without own __init__ -/
structure ExcA (K : PySem.W.Frag) (C : Addr) : Prop where
  over : ∃ (B newId initId : String) (bmB : List Value), ExcBaseFacts B newId initId bmB ∧ PySem.W.excIn K C bmB newId = true
  keep : PySem.W.keepIn K (.ref C) = true
  exc : PySem.W.subIn K (.ref C) (.type "BaseException") = some true
  ty : PySem.W.typeIn K (.ref C) = some (.type "type")
/-- .. with an __init__ at g that stores the field f -/
structure ExcB (K : PySem.W.Frag) (C : Addr) (f : Str) (g : Addr) : Prop where
  own : Own K C
  ini : PySem.W.findIn K (.ref C) "__init__" = some (some (.ref g))
  fn : PySem.W.typeIn K (.ref g) = some (.type "function")
  no : PySem.W.findIn K (.ref C) f = some none
  xf : XfC K C
theorem ExcB.taker {K : PySem.W.Frag} {C g : Addr} {f : Str} (h : ExcB K C f g) : PySem.W.takerIn K C f = some none := by
  unfold PySem.W.takerIn
  rw [h.no]
  rfl
section
variable {X : Cx} {K : PySem.W.Frag} {Γ : Gam} {W : WX} {c : Nat} {x m f : Str} {j : Nat} {p p2 pos pos2 : Pos} {e : Expr} {te : TE} {φ : FE}
theorem ds_raise0 (hc : X.calm = true) (tk : Takes X W) (h : ExcA K (Γ c)) (hm : X.mg x = some (.ref (Γ c))) (hg : L2.Gl X x) (hK : X.K = K := by rfl) (hdb : (x == ("__debug__" : Str)) = false := by decide) :
    DS X K Γ W (.Raise (some (.Call (.Name x p) [.Constant (.str m) j p2] [] pos)) none pos2) (fun _ σ H => W (.ref (Γ c)) none σ H) (errS c) := by
  subst hK
  obtain ⟨B, newId, initId, bmB, F, q⟩ := h.over
  exact ⟨ps_raise hc tk (pmk_own F q hm h.keep (raises_own h.exc h.ty) hg hdb), fun E σ H G F ι s ds hs hr hp => hp none σ H F ι Ext.refl hs hr rfl⟩
theorem ds_raise1 {fI : Addr} {fd : FuncData} {ps : List Str} (hc : X.calm = true) (tk : Takes X W) (h : ExcB K (Γ c) f fI) (F1 : FnOk X.prog X.w X.K X.mg X.base (L2.CX X.prog X.w) 1 fI fd ps (spInit K f)) (hr : Room 2 X.A) (hb : Binds X.K fd ps []) (hm : X.mg x = some (.ref (Γ c))) (hg : L2.Gl X x) (he : DE X K Γ W e te φ)
    (hK : X.K = K := by rfl) (hdb : (x == ("__debug__" : Str)) = false := by decide) (hs : starEach [e] X.env = (false, eval e X.env) :: starEach [] X.env := by rfl) (hpl : (backTo pos (starEach [] X.env)).any (·.1) = false := by rfl) :
    DS X K Γ W (.Raise (some (.Call (.Name x p) [e] [] pos)) none pos2) (fun _ σ H => tMake K (Γ c) f te σ H fun cls d H' => W cls d σ H') (errV c f φ) := by
  subst hK
  refine ⟨ps_raise hc tk (pmk_one (k := 1) h.ini h.fn F1 hr hb hg hm h.own.keep he.pe hdb hs hpl), fun E σ H G F ι s ds hs hr hp => ?_⟩
  refine he.gd.stepS hs hr hp fun d s1 v H1 F1 ι1 x1 r1 q1 hs1 hp1 => ⟨h.own, h.taker, fun dd nd => ?_⟩
  exact hp1 (some dd) σ _ F1 ι1 Ext.refl hs1 (r1.junk nd) ⟨dd, v, rfl, upd_same, q1⟩
end
/-! ### what a clause takes, and what its suite returns -/
structure Clr where
  m : Nat → Option Bool
  run : Option (Str × D) → Sto → Out D
def pickR : List Clr → Nat → Option (Str × D) → Sto → Out D
  | [], _, _, _ => .bad
  | z :: r, c, p, s => match z.m c with
    | some true => z.run p s
    | some false => pickR r c p s
    | none => .bad
/-- the clauses in the text and their data -/
def ClOk (K : PySem.W.Frag) (Γ : Gam) : List Cls3 → List Clr → Prop
  | [], [] => True
  | (cv, n, ts) :: l, z :: r => (∀ c b, z.m c = some b → PySem.W.exmOne K (.ref (Γ c)) cv = some b) ∧
      (∀ (c : Nat) (p : Option (Str × D)) (a : Addr) (dd : Option Addr) (E : Ends) (σ : L2.St) (H G F : Hp) (ι : List Addr) (s : Sto), (∀ i, n = some i → i < σ.length) → z.m c = some true → Rel K Γ G F H ι s → ErrAt K Γ F H ι dd p → Post K Γ (fun _ _ _ _ => False) [] G F ι (RV K Γ) E.rt (z.run p s) →
        ts a (.ref (Γ c)) dd (gone E n) (named σ a n) H) ∧ ClOk K Γ l r
  | _, _ => False
theorem pick_mix {K : PySem.W.Frag} {Γ : Gam} {G F H : Hp} {ι : List Addr} {s : Sto} {c : Nat} {p : Option (Str × D)} {dd : Option Addr} {E : Ends} {σ : L2.St} (hr : Rel K Γ G F H ι s) (he : ErrAt K Γ F H ι dd p) :
    ∀ {l : List Cls3} {r : List Clr}, ClOk K Γ l r → (∀ z ∈ l, ∀ i, z.2.1 = some i → i < σ.length) → Post K Γ (fun _ _ _ _ => False) [] G F ι (RV K Γ) E.rt (pickR r c p s) → wMix K (fun _ _ _ _ => False) E l (.ref (Γ c)) dd σ H
  | [], [], _, _, hp => hp
  | (cv, n, ts) :: l, z :: r, k, hl, hp => by
    obtain ⟨k1, k2, k3⟩ := k
    unfold pickR at hp
    split at hp
    · rename_i e
      exact ⟨true, k1 c true e, fun _ a _ => k2 c p a dd E σ H G F ι s (hl _ (List.mem_cons_self ..)) e hr he hp, fun z => Bool.noConfusion z⟩
    · rename_i e
      exact ⟨false, k1 c false e, fun z => Bool.noConfusion z, fun _ => pick_mix hr he k3 (fun z hz => hl z (List.mem_cons_of_mem _ hz)) hp⟩
    · exact hp.elim
  | [], _ :: _, k, _, _ => k.elim
  | _ :: _, [], k, _, _ => k.elim
/-! suites that return -/
def retC (x : Str) : Option (Str × D) → Sto → Out D := fun _ s => .ok (.str x) s
def payR (f : Str) : Option (Str × D) → Sto → Out D := fun p s => match p with
  | some (f', d) => if f' = f then .ok d s else .bad
  | none => .bad
def retRep (x f : Str) : Option (Str × D) → Sto → Out D := fun p s => (payR f p s).bind fun d s => (reprZ [d] s).bind fun t s => addD (.str x) t s
section
variable {K : PySem.W.Frag} {Γ : Gam} {X : Cx}
/-- reading e.f in the suite -/
theorem cl_field {a : Addr} {dd : Option Addr} {c i : Nat} {f : Str} {p : Option (Str × D)} {σ : L2.St} {H F : Hp} {ι : List Addr} {s : Sto} {d : D} {Q : VK} (hi : i < σ.length) (he : ErrAt K Γ F H ι dd p) (ep : payR f p s = .ok d s) (q : ∀ v, Rp K Γ F ι v d → Q v H) : tXf a (.ref (Γ c)) dd (Γ c) f (tVar i) (named σ a (some i)) H Q := by
  unfold payR at ep
  split at ep
  · rename_i f' d'
    split at ep
    · rename_i ef
      cases ep
      subst ef
      obtain ⟨b, v, rfl, hb, rv⟩ := he
      refine ⟨.ref a, ?_, rfl, rfl, b, [(f', v)], v, rfl, hb, by simp [List.lookup], q v rv⟩
      show (σ.set i (some (V.ref a)))[i]? = _
      rw [List.getElem?_set_self hi]
    · cases ep
  · cases ep
end
end Md

set_option Elab.async false
set_option maxRecDepth 100000
set_option maxHeartbeats 4000000
set_option linter.all false
/-! the mirror layer: a lambda handed to a def that calls it within a try -/
namespace Md
open PySem PySem.Spec PyProof.Rows L2 Ex
/-- a lambda's data: what its body gives -/
abbrev Lm := Sto → Out D
/-- the callee: calls what it got, then returns fin (or what the call gave) -/
def metD (cl : List Clr) (fin : Option Str) (lam : Lm) (s : Sto) : Out D := match lam s with
  | .ok d s' => match fin with
    | some z => .ok (.str z) s'
    | none => .ok d s'
  | .err c p s' => pickR cl c p s'
  | .bad => .bad
section
variable {X : Cx} {K : PySem.W.Frag} {Γ : Gam} {Ng : List Str} {x a q : Str} {sg : Scope} {g : Addr} {cdg : Value}
end
/-! ### x(lambda: e) -/
/-- m: what the callee makes of the lambda -/
def lamD (m : Lm → Sto → Out D) (φ : FE) : FE := fun ds s => m (φ ds) s
theorem relT_next {T : List (Addr × Str)} {G F H H1 : Hp} {ι : List Addr} (r : RelT T G F H ι) (e : LamX.ExtN H H1) (t : LamX.Tabs T H1) (sm : ∀ a ∈ ι, ∃ o, H a = some o ∧ Pl o) : RelT T G F H1 ι :=
  ⟨t, r.plF, r.plG, fun a ha o q => by
    obtain ⟨o', e1, p⟩ := sm a ha
    have := e a o' e1 p.1
    rw [this] at q
    cases q
    exact p, r.plU⟩
section
variable {K : PySem.W.Frag} {Γ : Gam} {G F H H1 : Hp} {ι : List Addr} {s : Sto}
/-- tables are written, code objects are new -/
theorem Rel.tabs (r : Rel K Γ G F H ι s) (e : LamX.ExtN H H1) (t : LamX.Tabs Γ.T H1) : Rel K Γ G F H1 ι s := by
  have keep : ∀ b o, H b = some o → (∀ ps, o ≠ .tbl ps) → H1 b = some o := e
  have at_ι : ∀ a ∈ ι, ∃ o, H a = some o ∧ Pl o := fun a ha => by
    obtain ⟨o, q⟩ := Option.isSome_iff_exists.mp (r.free a ha).2
    exact ⟨o, q, r.rest.plI a ha o q⟩
  refine ⟨fun b o q => keep b o (r.sub b o q) (r.rest.plF b o q).1, fun b o q => keep b o (r.aside b o q) fun ps z => r.rest.plG b ps (by rw [← z]; exact q), r.apart, r.nd, r.len, fun a ha => ⟨(r.free a ha).1, ?_⟩, fun n c a e1 e2 => ?_, relT_next r.rest e t at_ι⟩
  · obtain ⟨o, q, p⟩ := at_ι a ha
    rw [keep a o q p.1]
    rfl
  · refine (r.at_ n c a e1 e2).keep Ext.refl (fun b u q hb => keep b u q ?_) (fun h => h) (fun _ _ h => h)
    rcases hb with rfl | rfl | rfl
    · exact (r.rest.plI b (List.mem_of_getElem? e2) u q).1
    · exact fun _ z => nomatch z
    · exact fun _ z => nomatch z
end
end Md

set_option Elab.async false
set_option maxRecDepth 100000
set_option maxHeartbeats 4000000
set_option linter.all false
/-! defs that make lambdas; the law's end where tables of code objects are written -/
namespace Gl
open PySem PySem.Spec PyProof.Rows L2
/-- a def whose code object is known -/
structure FunC (K : PySem.W.Frag) (x qual : Str) (st : Stmt) (f : Addr) (fd : FuncData) (c : Addr) : Prop where
  ex : ∃ (oc : Value) (od : Option Addr) (kV doc pm : Value) (an : Option Addr) (ct : Value) (osl : Array (Option Value)),
    fd = PySem.W.fnOf x qual (defArgs st) (defBody st) (defScope st) .none kV doc pm an (.ref c) ct ∧ K.lookup f = some ⟨oc, od, .func fd, osl⟩ ∧ PySem.W.codeIn K (.ref c) qual = true
  kp : PySem.W.keepIn K (.ref f) = true
theorem FunC.fn {K : PySem.W.Frag} {x qual : Str} {st : Stmt} {f : Addr} {fd : FuncData} {c : Addr} (h : FunC K x qual st f fd c) : Fun K x qual st f fd :=
  ⟨let ⟨oc, od, kV, doc, pm, an, ct, osl, a, b, d⟩ := h.ex; ⟨oc, od, kV, doc, pm, an, .ref c, ct, osl, a, b, d⟩, h.kp⟩
section
variable {P : Program} {w : World} {K : PySem.W.Frag} {mg : Str → Option Value} {base : Heap}
end
end Gl
namespace Md
open PySem PySem.Spec PyProof.Rows L2 Ex
section
variable {P : Program} {w : World} {K : PySem.W.Frag} {mg : Str → Option Value} {base : Heap} {Γ : Gam}
end
section
variable {X : Cx} {K : PySem.W.Frag} {Γ : Gam} {W : WX} {st : Stmt} {x a : Str} {g c P : Addr} {fd : FuncData} {k : Nat} {Ng : List Str} {m : Lm → Sto → Out D} {φ : FE} {t : XK → TE} {params : Arguments} {body : Expr} {scope : Scope} {p lpos pos : Pos}
end
end Md

set_option Elab.async false
set_option maxRecDepth 100000
set_option maxHeartbeats 4000000
set_option linter.all false
/-! the law's end where tables of code objects are written, and nothing is being shown -/
namespace Gl
open PySem PySem.Spec PyProof.Rows L2
end Gl
namespace Md
open PySem PySem.Spec PyProof.Rows L2 Ex
theorem exm_of {K : PySem.W.Frag} {x : Value} {C : Addr} {b : Bool} (h1 : PySem.W.subIn K (.ref C) (.type "BaseException") = some true) (h2 : PySem.W.isClsIn K C = true) (h3 : PySem.W.typeIn K (.ref C) = some (.type "type")) (h4 : PySem.W.subIn K x (.ref C) = some b) : PySem.W.exmOne K x (.ref C) = some b := by
  have e : ((PySem.W.clsIn K C).isSome && PySem.W.typeIn K (.ref C) == some (.type "type")) = true := by
    rw [show (PySem.W.clsIn K C).isSome = true from h2, h3]
    rfl
  unfold PySem.W.exmOne PySem.W.kitCls
  rw [h1, if_pos (by rfl)]
  show (if ((PySem.W.clsIn K C).isSome && PySem.W.typeIn K (.ref C) == some (.type "type")) = true then PySem.W.subIn K x (.ref C) else none) = some b
  rw [if_pos e, h4]
theorem ClOk.nil {K : PySem.W.Frag} {Γ : Gam} : ClOk K Γ [] [] := trivial
theorem ClOk.cons {K : PySem.W.Frag} {Γ : Gam} {cv : Value} {n : Option Nat} {ts : Addr → Value → Option Addr → TS} {l : List Cls3} {z : Clr} {r : List Clr} (h1 : ∀ c b, z.m c = some b → PySem.W.exmOne K (.ref (Γ c)) cv = some b)
    (h2 : ∀ (c : Nat) (p : Option (Str × D)) (a : Addr) (dd : Option Addr) (E : Ends) (σ : L2.St) (H G F : Hp) (ι : List Addr) (s : Sto), (∀ i, n = some i → i < σ.length) → z.m c = some true → Rel K Γ G F H ι s → ErrAt K Γ F H ι dd p → Post K Γ (fun _ _ _ _ => False) [] G F ι (RV K Γ) E.rt (z.run p s) → ts a (.ref (Γ c)) dd (gone E n) (named σ a n) H)
    (h3 : ClOk K Γ l r) : ClOk K Γ ((cv, n, ts) :: l) (z :: r) := And.intro h1 (And.intro h2 h3)
end Md

set_option Elab.async false
set_option maxRecDepth 100000
set_option maxHeartbeats 4000000
set_option linter.all false
/-! the mirror layer: list(d.values()), sum(d.values()), d[k] += v -/
namespace Md
open PySem PySem.Spec PyProof.Rows L2
section
variable {X : Cx} {K : PySem.W.Frag} {Γ : Gam} {W : WX} {e : Expr} {te : TE} {φ : FE} {apos cpos p pos : Pos}
/-! the data -/
end
/-! d[k] += v -/
section
variable {X : Cx} {K : PySem.W.Frag} {Γ : Gam} {W : WX} {pos : Pos} {G F H : Hp} {ι : List Addr} {s : Sto}
end
/-! ### y = {k: v for ..} -/
section
variable {X : Cx} {K : PySem.W.Frag} {Γ : Gam} {W : WX} {pos : Pos} {tg iter kx vx : Expr} {ifs : List Expr} {wi : TI} {η : FA} {g : TG} {γ : FG} {sl : List Nat} {tt : TT} {μ : FT} {tk tv : TE} {κ φ : FE} {vs : List Nat}
end
/-! ### a, b = x, y with a captured name; list(x) in a cell -/
section
variable {X : Cx} {K : PySem.W.Frag} {Γ : Gam} {W : WX} {pos : Pos} {i j : Nat} {ta : TA} {ψ : FA} {sl : List Nat} {γ : FG} {tg a b : Expr}
end
end Md

set_option Elab.async false
set_option maxRecDepth 100000
set_option maxHeartbeats 4000000
set_option linter.all false
/-! the mirror layer: an own __iter__ that walks a dict; tuple(dict) -/
namespace Md
open PySem PySem.Spec PyProof.Rows L2
section
variable {X : Cx} {K : PySem.W.Frag} {Γ : Gam}
end
section
variable {P : Program} {w : World} {K : PySem.W.Frag} {mg : Str → Option Value} {base : Heap} {Γ : Gam}
end
/-! ### walking an instance, key by key -/
section
variable {X : Cx} {K : PySem.W.Frag} {Γ : Gam} {W : WX} {tg e : Expr} {te : TE} {φ : FE} {g : Addr} {n c : Nat} {m : Fn} {sp : Nat → Sp}
end
/-! ### tuple(d) -/
section
variable {prog : Program} {w : World} {A : Around} {E : Value → Shared → Prop} {s : Shared} {T : String} {r d : Addr} {n : Nat} {P : Nat → Value → Prop} {OK : Heap → Prop}
end
section
variable {X : Cx} {K : PySem.W.Frag} {Γ : Gam}
end
section
variable {X : Cx} {K : PySem.W.Frag} {Γ : Gam} {e : Expr} {te : TE} {φ : FE} {p q pos : Pos}
end
end Md

set_option Elab.async false
set_option maxRecDepth 100000
set_option maxHeartbeats 4000000
set_option linter.all false
/-! the mirror layer: evaluation lemmas of MdZ, MdY, Md27 .. Md29 -/
namespace Md
open PySem PySem.Spec PyProof.Rows L2 TxS
section
variable {ds : DSt} {s : Sto} {c n : Nat} {f x z : Str} {p : Option (Str × D)}
theorem e_errS : errS c ds s = .err c none ds s := rfl
def errW (c : Nat) (f : Str) (ds : DSt) (o : Out D) : SOut := bindS o ds fun d s => .err c (some (f, d)) ds s
theorem e_errV (φ : FE) : errV c f φ ds s = errW c f ds (φ ds s) := rfl
theorem e_errW_ok {d : D} : errW c f ds (.ok d s) = .err c (some (f, d)) ds s := rfl
theorem e_errW_err : errW c f ds (.err n p s) = .err n p ds s := rfl
def metO (cl : List Clr) (fin : Option Str) (o : Out D) : Out D := match o with
  | .ok d s' => match fin with
    | some z => .ok (.str z) s'
    | none => .ok d s'
  | .err c p s' => pickR cl c p s'
  | .bad => .bad
theorem e_lamD (m : Lm → Sto → Out D) (φ : FE) : lamD m φ ds s = m (φ ds) s := rfl
theorem e_metD (cl : List Clr) (fin : Option Str) (lam : Lm) : metD cl fin lam s = metO cl fin (lam s) := by
  unfold metD metO
  cases lam s <;> rfl
theorem e_metO_ok {cl : List Clr} {d : D} : metO cl (some z) (.ok d s) = .ok (.str z) s := rfl
theorem e_metO_okN {cl : List Clr} {d : D} : metO cl none (.ok d s) = .ok d s := rfl
theorem e_metO_err {cl : List Clr} {fin : Option Str} : metO cl fin (.err c p s) = pickR cl c p s := rfl
theorem e_retC : retC x p s = .ok (.str x) s := rfl
def adR (x : Str) (t : D) (s : Sto) : Out D := addD (.str x) t s
theorem e_retRep {d : D} : retRep x f (some (f, d)) s = (reprZ [d] s).bind (adR x) := by
  have e : payR f (some (f, d)) s = .ok d s := if_pos rfl
  unfold retRep
  rw [e]
  rfl
theorem e_adR {t : Str} : adR x (.str t) s = addD (.str x) (.str t) s := rfl
theorem e_reprZ_dic : reprZ [.dic []] s = .ok (.str "{}") s := rfl
theorem e_reprZ_int {i : Int} : reprZ [.int i] s = reprD [.int i] s := rfl
theorem e_reprZ_str {i : Str} : reprZ [.str i] s = reprD [.str i] s := rfl
theorem e_reprZ_bl {i : Bool} : reprZ [.bl i] s = reprD [.bl i] s := rfl
theorem e_reprZ_non : reprZ [.non] s = reprD [.non] s := rfl
theorem e_reprZ_tup {xs : List D} : reprZ [.tup xs] s = reprD [.tup xs] s := rfl
theorem e_reprZ_lst {xs : List D} : reprZ [.lst xs] s = reprD [.lst xs] s := rfl
theorem binR_kind {cs : List Nat} {m : Fn} {g : List D} {y : D} {k : String} (h : kindD y s = some k) : binOwnR n cs m (.ins n g) y s = m [.ins n g, y] s := by
  unfold binOwnR
  simp only [clsD, h, decide_true, Option.isSome_some, Bool.true_or, Bool.and_self, if_true]
theorem e_binR_int {cs : List Nat} {m : Fn} {g : List D} {i : Int} : binOwnR n cs m (.ins n g) (.int i) s = m [.ins n g, .int i] s := binR_kind rfl
theorem e_binR_str {cs : List Nat} {m : Fn} {g : List D} {i : Str} : binOwnR n cs m (.ins n g) (.str i) s = m [.ins n g, .str i] s := binR_kind rfl
theorem e_binR_bl {cs : List Nat} {m : Fn} {g : List D} {i : Bool} : binOwnR n cs m (.ins n g) (.bl i) s = m [.ins n g, .bl i] s := binR_kind rfl
theorem e_binR_non {cs : List Nat} {m : Fn} {g : List D} : binOwnR n cs m (.ins n g) .non s = m [.ins n g, .non] s := binR_kind rfl
theorem e_binR_tup {cs : List Nat} {m : Fn} {g : List D} {i : List D} : binOwnR n cs m (.ins n g) (.tup i) s = m [.ins n g, .tup i] s := binR_kind rfl
theorem e_binR_lst {cs : List Nat} {m : Fn} {g : List D} {i : List D} : binOwnR n cs m (.ins n g) (.lst i) s = m [.ins n g, .lst i] s := binR_kind rfl
theorem e_binR_dic {cs : List Nat} {m : Fn} {g : List D} : binOwnR n cs m (.ins n g) (.dic []) s = m [.ins n g, .dic []] s := binR_kind rfl
theorem e_binR_ins {cs : List Nat} {m : Fn} {g h : List D} (k : c = n ∨ c ∈ cs) : binOwnR n cs m (.ins n g) (.ins c h) s = m [.ins n g, .ins c h] s := by
  unfold binOwnR
  simp only [clsD, decide_true, Option.any_some, k, Bool.or_true, Bool.and_self, if_true]
theorem e_eqZ_int {g : D → D → Sto → Out D} {a : Int} {y : D} : eqZ g (.int a) y s = eqD (.int a) y s := rfl
theorem e_eqZ_str {g : D → D → Sto → Out D} {a : Str} {y : D} : eqZ g (.str a) y s = eqD (.str a) y s := rfl
theorem e_eqZ_bl {g : D → D → Sto → Out D} {a : Bool} {y : D} : eqZ g (.bl a) y s = eqD (.bl a) y s := rfl
theorem e_eqZ_non {g : D → D → Sto → Out D} {y : D} : eqZ g .non y s = eqD .non y s := rfl
theorem e_eqZ_tup {g : D → D → Sto → Out D} {a : List D} {y : D} : eqZ g (.tup a) y s = eqD (.tup a) y s := rfl
theorem e_eqZ_lst {g : D → D → Sto → Out D} {a : List D} {y : D} : eqZ g (.lst a) y s = eqD (.lst a) y s := rfl
theorem e_eqZ_dic {g : D → D → Sto → Out D} {a : List D} : eqZ g (.dic []) (.tup a) s = .ok (.bl false) s := rfl
theorem e_eqZ_ins {g : D → D → Sto → Out D} {a : List D} {y : D} : eqZ g (.ins c a) y s = g (.ins c a) y s := rfl
def intC (k : Int → DSt → Sto → Out D) (ds : DSt) (o : Out D) : Out D := o.bind fun x s1 => match x with
  | .int a => k a ds s1
  | _ => .bad
theorem e_lenX (a b d e : FE) : lenXD a b d e ds s = intC (fun i => intB b fun j => intB d fun k => intB e fun l => fun _ s => .ok (.int (Gl.cnt4 i j k l : Nat)) s) ds (a ds s) := rfl
theorem e_asI (φ : FE) (k : Int → DSt → Sto → Out D) : intB φ k ds s = intC k ds (φ ds s) := rfl
theorem e_asIC {k : Int → DSt → Sto → Out D} {a : Int} : intC k ds (.ok (.int a) s) = k a ds s := rfl
def evFive := And.intro @e_errS (And.intro @e_errV (And.intro @e_errW_ok (And.intro @e_errW_err (And.intro @e_lamD (And.intro @e_metD (And.intro @e_metO_ok (And.intro @e_metO_okN (And.intro @e_metO_err (And.intro @e_retC (And.intro @e_retRep (And.intro @e_adR (And.intro @e_reprZ_dic (And.intro @e_reprZ_int (And.intro @e_reprZ_str (And.intro @e_reprZ_bl (And.intro @e_reprZ_non (And.intro @e_reprZ_tup (And.intro @e_reprZ_lst (And.intro @e_binR_int (And.intro @e_binR_str (And.intro @e_binR_bl (And.intro @e_binR_non (And.intro @e_binR_tup (And.intro @e_binR_lst (And.intro @e_binR_dic (And.intro @e_binR_ins (And.intro @e_eqZ_int (And.intro @e_eqZ_str (And.intro @e_eqZ_bl (And.intro @e_eqZ_non (And.intro @e_eqZ_tup (And.intro @e_eqZ_lst (And.intro @e_eqZ_dic (And.intro @e_eqZ_ins (And.intro @e_lenX (And.intro @e_asI @e_asIC))))))))))))))))))))))))))))))))))))
end
end Md

set_option Elab.async false
set_option maxRecDepth 100000
set_option maxHeartbeats 4000000
set_option linter.all false
/-! the mirror layer: evaluation lemmas of MdC -/
namespace Md
open PySem PySem.Spec PyProof.Rows L2 TxS
section
variable {ds : DSt} {s : Sto} {c n : Nat} {p : Option (Str × D)}
end
end Md

set_option Elab.async false
set_option maxRecDepth 100000
set_option maxHeartbeats 4000000
set_option linter.all false
/-! the mirror layer: evaluation lemmas of dicts, own key walks, two clauses, whiles -/
namespace Md
open PySem PySem.Spec PyProof.Rows L2 TxS
section
variable {ds : DSt} {s : Sto} {c n : Nat} {p : Option (Str × D)}
end
end Md

set_option Elab.async false
set_option maxRecDepth 100000
set_option maxHeartbeats 4000000
set_option linter.all false
/-! rows of steps, their points: no program in sight -/
namespace Pl
open PySem Md TxS
abbrev Steps := List (Str × Int)
abbrev Pt := Int × Int
def stp (tri : Bool) (p : Pt) (t : Int) : Pt := (p.1 + uX tri t, p.2 + uY tri t)
def fin (tri : Bool) : Pt → Steps → Pt
  | p, [] => p
  | p, x :: r => fin tri (stp tri p x.2) r
def O : Pt := (0, 0)
def letB (z : Str) : Bool := decide (z.length = 1) && !(Builtin.Str.occurrences (Str.ofString "abcdefghijklmnopqrstuvwxyz") z 0 (Str.ofString "abcdefghijklmnopqrstuvwxyz").length 1).isEmpty
structure Let (z : Str) : Prop where
  is : letB z = true
  ok : PyData.strOk z = true
structure OkR (tri : Bool) (r : Steps) : Prop where
  lt : ∀ p ∈ r, Let p.1
  lo : ∀ p ∈ r, 0 ≤ p.2
  hi : ∀ p ∈ r, p.2 < nUn tri
section
variable {tri : Bool}
end
/-! ### sizes -/
/-! ### shapes -/
/-! ### letters of a row -/
/-! ### dicts by texts -/
end Pl

set_option Elab.async false
set_option maxRecDepth 100000
set_option maxHeartbeats 4000000
set_option linter.all false
/-! what can be shown, what is equal, what is in a row: no program in sight -/
namespace Pl
open PySem Md TxS
/-- data whose repr is told -/
def Shw (k B : Nat) (x : D) : Prop := ∃ q, x.py = some q ∧ wideB q = true ∧ q.depth ≤ k ∧ Gl.wt q ≤ B
section
variable {s : Sto} {k B n : Nat} {x : D}
theorem Shw.up {k' B' : Nat} (h : Shw k B x) (hk : k ≤ k') (hB : B ≤ B') : Shw k' B' x := let ⟨q, a, b, c, d⟩ := h; ⟨q, a, b, Nat.le_trans c hk, Nat.le_trans d hB⟩
theorem shw_str {z : Str} (h : Tx n z) : Shw 0 (10 * n + 2) (.str z) := ⟨_, rfl, rfl, Nat.le_refl _, h.repr⟩
theorem shw_all : ∀ {xs : List D}, (∀ x ∈ xs, Shw k B x) → ∃ qs, pyA xs = some qs ∧ wideA qs = true ∧ PyData.depthAll qs ≤ k ∧ Gl.wtAll qs ≤ xs.length * (B + 2)
  | [], _ => ⟨[], rfl, rfl, Nat.zero_le _, Nat.zero_le _⟩
  | x :: r, h => by
    obtain ⟨q, a, b, c, d⟩ := h x (List.mem_cons_self ..)
    obtain ⟨qs, a2, b2, c2, d2⟩ := shw_all fun y hy => h y (List.mem_cons_of_mem _ hy)
    refine ⟨q :: qs, ?_, ?_, ?_, ?_⟩
    · simp only [pyA, a, a2]
    · rw [w_cons, b, b2]; rfl
    · simp only [PyData.depthAll]; omega
    · simp only [Gl.wtAll, List.length_cons, Nat.succ_mul]
      omega
theorem shw_lst {xs : List D} (h : ∀ x ∈ xs, Shw k B x) (hn : xs.length ≤ n) : Shw (k + 1) (n * (B + 2) + 3) (.lst xs) := by
  obtain ⟨qs, a, b, c, d⟩ := shw_all h
  have := Nat.mul_le_mul_right (B + 2) hn
  refine ⟨.list qs, ?_, b, ?_, ?_⟩
  · simp only [D.py, a, Option.map_some]
  · simp only [PyData.depth]; omega
  · simp only [Gl.wt]; omega
theorem shw_tup {xs : List D} (h : ∀ x ∈ xs, Shw k B x) (hn : xs.length ≤ n) : Shw (k + 1) (n * (B + 2) + 3) (.tup xs) := by
  obtain ⟨qs, a, b, c, d⟩ := shw_all h
  have := Nat.mul_le_mul_right (B + 2) hn
  refine ⟨.tuple qs, ?_, b, ?_, ?_⟩
  · simp only [D.py, a, Option.map_some]
  · simp only [PyData.depth]; omega
  · simp only [Gl.wt]; omega
theorem reprE (h : Shw k B x) (hv : ∀ s, vw x s = x) (hk : k ≤ 30) (hB : B ≤ 16000000) : ∃ t, ∀ s, reprD [x] s = .ok (.str t) s := by
  obtain ⟨q, a, b, c, d⟩ := h
  exact ⟨q.shown, fun s => repr_eq (by rw [hv]; exact a) (show_of b (Nat.le_trans c hk) (Nat.le_trans d hB))⟩
end
/-! ### rows as data -/
section
variable {s : Sto} {tri tri' : Bool} {r r' : Steps}
end
/-! ### letters -/
/-! ### the row's text -/
/-! ### five letters, six turns -/
end Pl

set_option Elab.async false
set_option maxRecDepth 100000
set_option maxHeartbeats 4000000
set_option linter.all false
/-! schemes, their rows and sums: no program in sight -/
namespace Pl
open PySem Md TxS
open L2 (Key)
/-! ### sums of turns -/
section
variable {tri : Bool}
end
/-! ### schemes -/
structure Sch where
  tri : Bool
  ax : Steps
  ru : List (Str × Steps)
def Sch.keys (S : Sch) : List Str := S.ru.map (·.1)
def rowOf (S : Sch) (l : Str) : Steps := ((S.ru.find? fun p => decide (p.1 = l)).map (·.2)).getD []
structure GoodR (tri : Bool) (keys : List Str) (g : Pt) (p : Str × Steps) : Prop where
  let_ : Let p.1
  ok : OkR tri p.2
  two : 2 ≤ p.2.length
  twelve : p.2.length ≤ 12
  inn : ∀ x ∈ p.2, x.1 ∈ keys
  sum : fin tri O p.2 = g
structure Good (S : Sch) (g : Pt) : Prop where
  axok : OkR S.tri S.ax
  ax1 : 1 ≤ S.ax.length
  ax12 : S.ax.length ≤ 12
  axin : ∀ x ∈ S.ax, x.1 ∈ S.keys
  ru1 : 1 ≤ S.ru.length
  ru6 : S.ru.length ≤ 6
  nd : S.keys.Nodup
  rules : ∀ p ∈ S.ru, GoodR S.tri S.keys g p
  norm : 2 ≤ nrm S.tri g.1 g.2
theorem find_at {α : Type} : ∀ {l : List (Str × α)} {p : Str × α}, p ∈ l → (l.map (·.1)).Nodup → l.find? (fun q => decide (q.1 = p.1)) = some p
  | x :: r, p, h, nd => by
    rw [List.map_cons, List.nodup_cons] at nd
    rcases List.mem_cons.mp h with rfl | h
    · rw [List.find?_cons, decide_eq_true rfl]
    · have ne : x.1 ≠ p.1 := fun e => nd.1 (e ▸ List.mem_map_of_mem h)
      rw [List.find?_cons, decide_eq_false ne]
      exact find_at h nd.2
theorem mem_key {α : Type} {l : List (Str × α)} {k : Str} (h : k ∈ l.map (·.1)) : ∃ p ∈ l, p.1 = k := by
  obtain ⟨p, hp, e⟩ := List.mem_map.mp h
  exact ⟨p, hp, e⟩
section
variable {S : Sch} {g : Pt} {l : Str}
theorem row_at {p : Str × Steps} (nd : S.keys.Nodup) (h : p ∈ S.ru) : rowOf S p.1 = p.2 := by
  unfold rowOf
  rw [find_at h nd]
  rfl
theorem Good.key (G : Good S g) (h : l ∈ S.keys) : (l, rowOf S l) ∈ S.ru := by
  obtain ⟨p, hp, rfl⟩ := mem_key h
  rw [row_at G.nd hp]
  exact hp
theorem Good.row (G : Good S g) (h : l ∈ S.keys) : GoodR S.tri S.keys g (l, rowOf S l) := G.rules _ (G.key h)
end
/-! ### the letters that are met: found f, waiting w -/
inductive Wk (rl : Str → List Str) : List Str → List Str → List Str → Nat → Prop
  | nil {f : List Str} : Wk rl f [] f 0
  | old {f w : List Str} {l : Str} {res : List Str} {n : Nat} : l ∈ f → Wk rl f w res n → Wk rl f (w ++ [l]) res (n + 1)
  | new {f w : List Str} {l : Str} {res : List Str} {n : Nat} : l ∉ f → Wk rl (f ++ [l]) (w ++ rl l) res n → Wk rl f (w ++ [l]) res (n + 1)
/-! ### growth -/
/-- steps with letters of the scheme -/
structure StS (S : Sch) (r : Steps) : Prop where
  ok : OkR S.tri r
  inn : ∀ x ∈ r, x.1 ∈ S.keys
section
variable {S : Sch} {g : Pt} {r : Steps}
theorem OkR.sub {tri : Bool} {a b : Steps} (h : OkR tri b) (s : ∀ x ∈ a, x ∈ b) : OkR tri a := ⟨fun p hp => h.lt p (s p hp), fun p hp => h.lo p (s p hp), fun p hp => h.hi p (s p hp)⟩
theorem StS.sub {a b : Steps} (h : StS S b) (s : ∀ x ∈ a, x ∈ b) : StS S a := ⟨h.ok.sub s, fun x hx => h.inn x (s x hx)⟩
theorem Good.sts (G : Good S g) {l : Str} (h : l ∈ S.keys) : StS S (rowOf S l) := ⟨(G.row h).ok, (G.row h).inn⟩
end
/-! ### counts -/
end Pl

set_option Elab.async false
set_option maxRecDepth 100000
set_option maxHeartbeats 4000000
set_option linter.all false
/-! the mirror layer: try: .. except A: return .. in a def of its own -/
namespace Md
open PySem PySem.Spec PyProof.Rows L2 Ex
/-- what is raised in the body goes to the clauses, whose suites return -/
def tryR (cl : List Clr) (f : FS) : FS := fun ds s => match f ds s with
  | .err c p _ s' => match pickR cl c p s' with
    | .ok d s2 => .rt d s2
    | _ => .bad
  | o => o
theorem wMix_mono {K : PySem.W.Frag} {W W' : WX} {D : Ends} (h : ∀ cls d σ H, W cls d σ H → W' cls d σ H) : ∀ {l : List Cls3} {cls : Value} {d : Option Addr} {σ : L2.St} {H : Hp}, wMix K W D l cls d σ H → wMix K W' D l cls d σ H
  | [], _, _, _, _, w => h _ _ _ _ w
  | (_, _, _) :: _, _, _, _, _, ⟨b, e, y, n⟩ => ⟨b, e, y, fun z => wMix_mono h (n z)⟩
section
variable {X : Cx} {K : PySem.W.Frag} {Γ : Gam} {W : WX}
theorem ds_try {cl : List Clr} {l : List Cls3} {h0 : ExceptHandler} {hds : List ExceptHandler} {body : List Stmt} {tb : WX → TS} {f : FS} {pos : Pos} (hs : X.stack = X.env :: X.outer) (hf : X.env.frame = some X.env.locals) (tk : Takes X W)
    (hb : ∀ (W : WX) (pn : List (Addr × Obj)) (xe : Value → Shared → Prop), Takes (X.tr pn xe) W → DSs (X.tr pn xe) K Γ W body (tb W) f)
    (hh : HOk3 X (h0 :: hds) l) (k : ClOk K Γ l cl) (hl : ∀ z ∈ l, ∀ i, z.2.1 = some i → i < X.N.length) (hK : X.K = K := by rfl) :
    DS X K Γ W (.Try body (h0 :: hds) [] [] pos) (fun D σ H => tb (wMixL X.N.length X.K W D l) D σ H) (tryR cl f) := by
  subst hK
  refine ⟨ps_try_mix hs hf tk (fun W pn xe tk _ => (hb W pn xe tk).ps) hh, fun E σ H G F ι s ds hs hr hp => ?_⟩
  refine (hb (wMixL X.N.length X.K W E l) [] (fun _ _ => True) (fun _ _ _ => trivial)).gd E σ H G F ι s ds hs hr ?_
  unfold tryR at hp
  cases e : f ds s with
  | nx _ _ => rw [e] at hp; exact hp
  | rt _ _ => rw [e] at hp; exact hp
  | bk _ _ => rw [e] at hp; exact hp
  | ct _ _ => rw [e] at hp; exact hp
  | bad => rw [e] at hp; exact hp
  | err c p ds' s' =>
    rw [e] at hp
    intro dd σ' H' F' ι' x _ r er len
    refine wMix_mono (fun _ _ _ _ z => z.elim) (pick_mix r er k (fun z hz i hi => by rw [len]; exact hl z hz i hi) ?_)
    have hp : PostS X.K Γ W G F ι E (match pickR cl c p s' with | .ok d s2 => .rt d s2 | _ => .bad) := hp
    cases q : pickR cl c p s' with
    | ok d s2 =>
      rw [q] at hp
      exact fun v H2 F2 ι2 y => hp v H2 F2 ι2 (x.trans y)
    | err _ _ _ => rw [q] at hp; exact hp.elim
    | bad => rw [q] at hp; exact hp.elim
end
end Md

set_option Elab.async false
set_option maxRecDepth 100000
set_option maxHeartbeats 4000000
set_option linter.all false
/-! repr of nested lists and tuples with small dicts in them -/
namespace Md
open PySem PySem.Spec PyProof PyProof.Rows L2
mutual
/-- what is read, where the lists and tuples around the dicts are told one by one -/
inductive RN (h : Heap) : Value → PyData → List Addr → Prop
  | base {v : Value} {d : PyData} {as : List Addr} : Reads h v d as → d.showable = true → (d.hasDict = true → sysModules ∉ as) → RN h v d as
  | list {a : Addr} {o : Obj} {vs : Array Value} {n : Nat} {xs : List PyData} {as : List Addr} : h.get? a = some o → o.cls = .type "list" → o.data = .seq vs n → RNA h vs.toList xs as → RN h (.ref a) (.list xs) (a :: as)
  | tuple {a : Addr} {o : Obj} {vs : Array Value} {n : Nat} {xs : List PyData} {as : List Addr} : h.get? a = some o → o.cls = .type "tuple" → o.data = .seq vs n → RNA h vs.toList xs as → RN h (.ref a) (.tuple xs) as
inductive RNA (h : Heap) : List Value → List PyData → List Addr → Prop
  | nil : RNA h [] [] []
  | cons {v : Value} {vs : List Value} {d : PyData} {ds : List PyData} {as bs : List Addr} : RN h v d as → RNA h vs ds bs → RNA h (v :: vs) (d :: ds) (as ++ bs)
end
section
variable {prog : Program} {w : World} {h₀ : Heap}
mutual
theorem RN.reads : ∀ {v : Value} {d : PyData} {as : List Addr}, RN h₀ v d as → Reads h₀ v d as
  | _, _, _, .base r _ _ => r
  | _, _, _, .list h1 h2 h3 h4 => .list h1 h2 h3 (RNA.reads h4)
  | _, _, _, .tuple h1 h2 h3 h4 => .tuple h1 h2 h3 (RNA.reads h4)
theorem RNA.reads : ∀ {vs : List Value} {ds : List PyData} {as : List Addr}, RNA h₀ vs ds as → ReadsAll h₀ vs ds as
  | _, _, _, .nil => .nil
  | _, _, _, .cons r rs => .cons (RN.reads r) (RNA.reads rs)
end
mutual
theorem RN.shows : ∀ {v : Value} {d : PyData} {as : List Addr}, RN h₀ v d as → d.shown.length ≤ sizeLine → ∃ bs, ReadAtMost h₀ d.depth bs ∧ ReprK prog w bs h₀ d.depth v d.shown
  | _, _, _, .base r s m, hz => ReprK.of_reads r s m hz
  | _, _, _, .list (a := a) (vs := vs) (xs := xs) h1 h2 h3 h4, hz => by
    have z : (listText (PyData.shownAll xs)).length ≤ sizeLine := hz
    obtain ⟨bs, hb, hk⟩ := RNA.shows h4 fun t ht => Nat.le_trans (listText_mem_le ht) z
    have r := RN.reads (.list h1 h2 h3 h4)
    have deep : PyData.depthAll xs < (PyData.list xs).depth := by simp only [PyData.depth]; omega
    refine ⟨a :: bs, ReadAtMost.cons r (Nat.le_of_lt deep) hb, ?_⟩
    have away := not_mem_of_deeper r deep hb
    show ReprK prog w (a :: bs) h₀ (PyData.list xs).depth (.ref a) (listText (PyData.shownAll xs))
    simp only [PyData.depth]
    rcases vs with ⟨_ | ⟨x, l⟩⟩
    · have h4' : RNA h₀ [] xs _ := h4
      cases h4'
      exact ReprK.listEmpty h1 h2 h3
    · exact ReprK.list h1 h2 h3 away (by simpa using hk.length_eq) fun i y e => hk.item i y (by simpa using e)
  | _, _, _, .tuple (a := a) (xs := xs) h1 h2 h3 h4, hz => by
    have z : (tupleText (PyData.shownAll xs)).length ≤ sizeLine := hz
    obtain ⟨bs, hb, hk⟩ := RNA.shows h4 fun t ht => Nat.le_trans (tupleText_mem_le ht) z
    have r := RN.reads (.tuple h1 h2 h3 h4)
    have deep : PyData.depthAll xs < (PyData.tuple xs).depth := by simp only [PyData.depth]; omega
    refine ⟨a :: bs, ReadAtMost.cons r (Nat.le_of_lt deep) hb, ?_⟩
    show ReprK prog w (a :: bs) h₀ (PyData.tuple xs).depth (.ref a) (tupleText (PyData.shownAll xs))
    simp only [PyData.depth]
    exact ReprK.tuple h1 h2 h3 (not_mem_of_deeper r deep hb) hk
theorem RNA.shows : ∀ {vs : List Value} {ds : List PyData} {as : List Addr}, RNA h₀ vs ds as → (∀ t ∈ PyData.shownAll ds, t.length ≤ sizeLine) → ∃ bs, ReadAtMost h₀ (PyData.depthAll ds) bs ∧ ReprAllK prog w bs h₀ (PyData.depthAll ds) vs (PyData.shownAll ds)
  | _, _, _, .nil, _ => ⟨[], (fun _ h => nomatch h), .nil⟩
  | _, _, _, .cons (d := d) (ds := ds) r rs, hz => by
    obtain ⟨b1, a1, k1⟩ := RN.shows r (hz _ (List.mem_cons_self ..))
    obtain ⟨b2, a2, k2⟩ := RNA.shows rs fun t ht => hz t (List.mem_cons_of_mem d.shown ht)
    have m1 : d.depth ≤ PyData.depthAll (d :: ds) := by simp only [PyData.depthAll]; omega
    have m2 : PyData.depthAll ds ≤ PyData.depthAll (d :: ds) := by simp only [PyData.depthAll]; omega
    exact ⟨b1 ++ b2, (a1.mono m1).append (a2.mono m2), .cons ((k1.more fun b hb => List.mem_append_left _ hb).level_le m1) (k2.more_le (fun b hb => List.mem_append_right _ hb) m2)⟩
end
end
/-- x reads as q wherever H is held -/
def Shx (K : PySem.W.Frag) (H : Hp) (x : V) (q : PyData) : Prop := ∀ (X : Cx) (pins : List (Addr × Obj)) (σ : L2.St) (s : Shared), X.K = K → Inv X pins σ H s → ∀ u, RelV x u → ∃ as, RN s.heap u q as
def ShA (K : PySem.W.Frag) (H : Hp) (xs : List V) (qs : List PyData) : Prop := ∀ (X : Cx) (pins : List (Addr × Obj)) (σ : L2.St) (s : Shared), X.K = K → Inv X pins σ H s → ∀ us, Vals xs us → ∃ as, RNA s.heap us qs as
/-- a leaf -/
def leafD : D → Option PyData
  | .non => some .none
  | .bl b => some (.bool b)
  | .int i => some (.int i)
  | .str x => some (.str x)
  | _ => none
def kPy : Key → PyData
  | .inl i => .int i
  | .inr x => .str x
def leafK : List (Key × D) → Option (List (PyData × PyData))
  | [] => some []
  | (k, d) :: r => match leafD d, leafK r with
    | some q, some qs => some ((kPy k, q) :: qs)
    | _, _ => none
mutual
def shD : D → Option PyData
  | .lst xs => (shL xs).map .list
  | .tup xs => (shL xs).map .tuple
  | .dic kvs => (leafK kvs).map .dict
  | d => leafD d
def shL : List D → Option (List PyData)
  | [] => some []
  | d :: r => match shD d, shL r with
    | some q, some qs => some (q :: qs)
    | _, _ => none
end
section
variable {K : PySem.W.Frag} {Γ : Gam} {F H : Hp}
theorem leaf_reads {ι : List Addr} {v : V} {d : D} {q : PyData} {h : Heap} {u : Value} (r : Rp K Γ F ι v d) (e : leafD d = some q) (ru : RelV v u) : Reads h u q [] := by
  cases r <;> first | (cases e; done) | skip
  · cases e; cases (show u = Value.none from ru); exact .none
  · cases e; cases (show u = Value.bool _ from ru); exact .bool _
  · cases e; obtain ⟨t, rfl⟩ := (show ∃ t, u = Value.int _ t from ru); exact .int _ _
  · cases e; obtain ⟨t, rfl⟩ := (show ∃ t, u = Value.str _ t from ru); exact .str _ _
theorem key_reads {h : Heap} {k : Key} {u : Value} (e : keyIs k u = true) : Reads h u (kPy k) [] := by
  rcases keyIs_shape e with ⟨i, t, rfl, rfl⟩ | ⟨x, t, rfl, rfl⟩
  · exact .int _ _
  · exact .str _ _
theorem rows_leaf {P : Program} {w : World} {h : Heap} {ι : List Addr} : ∀ {ks : List (Key × V)} {kvs : List (Key × D)} {vs : List (Key × Value)} {es : List DictEntry} {qs : List (PyData × PyData)}, RpK K Γ F ι ks kvs → KV ks vs → PySem.Pairs (mixKind P w) es vs → leafK kvs = some qs →
    ReadsAll h (es.map (·.key)) (qs.map (·.1)) [] ∧ ReadsAll h (es.map (·.val)) (qs.map (·.2)) []
  | _, _, _, _, _, .nil, .nil, .nil, e => by cases e; exact ⟨.nil, .nil⟩
  | _, _, _, _, _, .cons (k := k) (d := d) r rs, .cons k1 ks, .cons p1 p2 ps, e => by
    unfold leafK at e
    split at e
    · rename_i q qs e1 e2
      cases e
      obtain ⟨a1, a2⟩ := rows_leaf rs ks ps e2
      obtain ⟨k1, k2⟩ := k1
      have k0 : k = _ := k1
      have y1 : Reads h _ (kPy k) [] := key_reads (by rw [k0]; exact p1)
      exact ⟨.cons (as := []) (bs := []) y1 a1, .cons (as := []) (bs := []) (leaf_reads r e1 (by dsimp only; rw [p2]; exact k2)) a2⟩
    · cases e
theorem sh_leaf {ι : List Addr} {v : V} {d : D} {q : PyData} (r : Rp K Γ F ι v d) (e : leafD d = some q) (z : q.showable = true) : Shx K H v q := fun X pins σ s hK I u ru => ⟨[], .base (leaf_reads r e ru) z fun _ => by simp⟩
mutual
theorem sh_rp (sub : Same F H) {ι : List Addr} : ∀ {d : D} {v : V} {q : PyData}, Rp K Γ F ι v d → shD d = some q → q.showable = true → Shx K H v q
  | .lst xs, _, q, .lst h g, e, z => by
    unfold shD at e
    obtain ⟨qs, e1, rfl⟩ := Option.map_eq_some_iff.mp e
    intro X pins σ s hK I u ru
    cases (show u = Value.ref _ from ru)
    obtain ⟨_, its, n, rv, at_⟩ := (show ObjOk X.prog X.w H s.heap _ (.lst _) from I.hok _ _ (sub _ _ h))
    obtain ⟨as, ra⟩ := sh_rpA sub g e1 z X pins σ s hK I its rv
    exact ⟨_, .list at_ rfl rfl (by simpa using ra)⟩
  | .tup xs, _, q, .tup h g, e, z => by
    unfold shD at e
    obtain ⟨qs, e1, rfl⟩ := Option.map_eq_some_iff.mp e
    intro X pins σ s hK I u ru
    cases (show u = Value.ref _ from ru)
    obtain ⟨its, rv, ⟨o, at_, hc, n, hd⟩, _⟩ := I.tuple (by rw [hK]; exact Gl.sqTS sub h.sq)
    obtain ⟨as, ra⟩ := sh_rpA sub g e1 z X pins σ s hK I its rv
    exact ⟨_, .tuple at_ hc hd (by simpa using ra)⟩
  | .dic kvs, _, q, .dK (a := a) h g, e, z => by
    unfold shD at e
    obtain ⟨qs, e1, rfl⟩ := Option.map_eq_some_iff.mp e
    intro X pins σ s hK I u ru
    cases (show u = Value.ref _ from ru)
    obtain ⟨_, na, vs, kv, o, es, ep, at_, ex, hd, _, ps, _⟩ := dk_rd I.hok (Or.inr ⟨_, sub _ _ h⟩)
    obtain ⟨r1, r2⟩ := rows_leaf (h := s.heap) g kv ps e1
    refine ⟨_, .base (.dict at_ ex.1 hd r1 r2) z fun _ hm => ?_⟩
    have : sysModules = a := by simpa using hm
    rw [this] at na
    simp at na
  | .non, _, _, r, e, z => sh_leaf r e z
  | .bl _, _, _, r, e, z => sh_leaf r e z
  | .int _, _, _, r, e, z => sh_leaf r e z
  | .str _, _, _, r, e, z => sh_leaf r e z
  | .ins _ _, _, _, r, e, z => sh_leaf r e z
  | .raw _, _, _, r, e, z => sh_leaf r e z
  | .cell _, _, _, r, e, z => sh_leaf r e z
  | .scr _, _, _, r, e, z => sh_leaf r e z
  | .ktp _, _, _, r, e, z => sh_leaf r e z
  | .cls _, _, _, r, e, z => sh_leaf r e z
  | .dct _, _, _, r, e, z => sh_leaf r e z
  | .ptp _, _, _, r, e, z => sh_leaf r e z
  | .exc _ _ _, _, _, r, e, z => sh_leaf r e z
theorem sh_rpA (sub : Same F H) {ι : List Addr} : ∀ {ds : List D} {vs : List V} {qs : List PyData}, RpA K Γ F ι vs ds → shL ds = some qs → PyData.showableAll qs = true → ShA K H vs qs
  | [], _, _, .nil, e, _ => by
    cases e
    intro X pins σ s hK I us ru
    cases ru
    exact ⟨[], .nil⟩
  | d :: ds, _, _, .cons h g, e, z => by
    unfold shL at e
    split at e
    · rename_i q qs e1 e2
      cases e
      have z2 : (q.showable && PyData.showableAll qs) = true := by simpa only [PyData.showableAll] using z
      rw [Bool.and_eq_true] at z2
      intro X pins σ s hK I us ru
      cases ru with
      | cons r1 r2 =>
        obtain ⟨as, a1⟩ := sh_rp sub h e1 z2.1 X pins σ s hK I _ r1
        obtain ⟨bs, a2⟩ := sh_rpA sub g e2 z2.2 X pins σ s hK I _ r2
        exact ⟨as ++ bs, .cons a1 a2⟩
    · cases e
end
end
/-! ### how long a text is, whatever the integers are -/
mutual
def wtV : PyData → Nat
  | .int _ => 4400
  | .list xs => wtVA xs + 2
  | .tuple xs => wtVA xs + 3
  | d => d.shown.length
def wtVA : List PyData → Nat
  | [] => 0
  | x :: xs => wtV x + 2 + wtVA xs
end
mutual
theorem shown_leV : ∀ d : PyData, d.showable = true → d.shown.length ≤ wtV d
  | .none, _ => by simp [wtV]
  | .bool b, _ => by simp [wtV]
  | .str x, _ => by simp [wtV]
  | .int i, h => by
    have h1 : i.natAbs.log2 < 1920 := by simpa [PyData.showable] using h
    have h2 : i.natAbs < 10 ^ 4300 := by
      rcases Nat.eq_zero_or_pos i.natAbs with z | z
      · rw [z]; exact Nat.pos_of_ne_zero (by simp)
      · exact Nat.lt_of_lt_of_le ((Nat.log2_lt (Nat.pos_iff_ne_zero.mp z)).mp h1) (by decide +kernel)
    have e := int_text_length_le10 (k := 4300) (by decide) h2
    show (Str.ofString (toString i)).length ≤ 4400
    rw [PySem.ofString_length]
    omega
  | .list xs, h => Nat.le_trans (Gl.listText_le _) (Nat.add_le_add_right (shownAll_leV xs (by simpa only [PyData.showable] using h)) 2)
  | .tuple xs, h => Nat.le_trans (Gl.tupleText_le _) (Nat.add_le_add_right (shownAll_leV xs (by simpa only [PyData.showable] using h)) 3)
  | .dict _, _ => by simp [wtV]
theorem shownAll_leV : ∀ xs : List PyData, PyData.showableAll xs = true → ((PyData.shownAll xs).map fun t => t.length + 2).sum ≤ wtVA xs
  | [], _ => Nat.le_refl _
  | x :: xs, h => by
    have h0 : (x.showable && PyData.showableAll xs) = true := by simpa only [PyData.showableAll] using h
    rw [Bool.and_eq_true] at h0
    have h1 := shown_leV x h0.1
    have h2 := shownAll_leV xs h0.2
    show (x.shown.length + 2) + ((PyData.shownAll xs).map fun t => t.length + 2).sum ≤ wtV x + 2 + wtVA xs
    omega
end
/-! ### repr -/
def rReprV (K : PySem.W.Frag) : List V → Hp → VK → Prop := fun xs H Q => rReprZ K xs H Q ∨ ∃ x q, xs = [x] ∧ Shx K H x q ∧ q.hasDict = true ∧ q.showable = true ∧ q.depth ≤ 30 ∧ q.shown.length ≤ sizeLine ∧ Q (.str q.shown) H
def reprV (xs : List D) (s : Sto) : Out D := match xs with
  | [x] => match shD x with
    | some q => if q.hasDict = true then (if (q.showable && (decide (q.depth ≤ 30) && decide (wtV q ≤ sizeLine))) = true then .ok (.str q.shown) s else .bad) else reprZ [x] s
    | none => reprZ [x] s
  | xs => reprZ xs s
section
variable {X : Cx} {K : PySem.W.Frag} {Γ : Gam}
theorem call_reprVU (hu : X.A.units + 64 < cLine) (hG : X.A.guards = some []) (hn : X.base.NoDigits) (hK : X.K = K := by rfl) : CallR X (.builtin "repr") (rReprV K) := by
  subst hK
  intro pins s σ H xs us Q I r h
  rcases h with h | ⟨x, q, rfl, hx, hd, sh, dp, hz, fin⟩
  · exact call_reprZU hu hG hn rfl pins s σ H xs us Q I r h
  · obtain ⟨u, rfl, ru⟩ := vals1 r
    obtain ⟨as, rd⟩ := hx X pins σ s rfl I u ru
    have done : ∀ h' u tk, (∀ b o, s.heap.get? b = some o → h'.get? b = some o) → EP X pins σ Q (.str q.shown u) { s with heap := h', toks := tk } := fun h' u tk hk => ⟨.str _, H, I.kept hk, ⟨_, rfl⟩, fin⟩
    cases rd with
    | base r1 _ m1 =>
      cases r1 <;> first | (cases hd; done) | skip
      · exact repr_of_reads' (.list ‹_› ‹_› ‹_› ‹_›) sh m1 hG (by omega) (fun _ _ e => e) done hz
      · exact repr_of_reads' (.tuple ‹_› ‹_› ‹_› ‹_›) sh m1 hG (by omega) (fun _ _ e => e) done hz
      · exact repr_of_reads' (.dict ‹_› ‹_› ‹_› ‹_› ‹_›) sh m1 hG (by omega) (fun _ _ e => e) done hz
    | @list a o vs n ds as h1 h2 h3 h4 =>
      obtain ⟨bs, hb, hk⟩ := RNA.shows (prog := X.prog) (w := X.w) h4 fun t ht => Nat.le_trans (listText_mem_le ht) hz
      have deep : PyData.depthAll ds < (PyData.list ds).depth := by simp only [PyData.depth]; omega
      have away := not_mem_of_deeper (RN.reads (.list h1 h2 h3 h4)) deep hb
      have dp' : PyData.depthAll ds + 1 ≤ 30 := Nat.le_trans deep dp
      refine call_repr_slot (by omega) ⟨o, h1, h2⟩ F.slot_list_repr.toG ?_
      rcases vs with ⟨_ | ⟨x, l⟩⟩
      · have h4' : RNA s.heap [] ds _ := h4
        cases h4'
        exact call_list_repr_empty ⟨o, h1, h2⟩ h1 h3 ⟨_, _, rfl, done s.heap _ _ fun _ _ e => e⟩
      · exact call_list_reprK h1 h2 h3 away (by simpa using hk.length_eq) (fun i y e => hk.item i y (by simpa using e)) hG (fun b _ => Clear.nil b) (by show X.A.units + 1 + (PyData.depthAll ds + 1) < cLine; omega) (fun _ _ e => e) (fun h' u tk hk => ⟨_, _, rfl, done h' u tk hk⟩) hz
    | @tuple a o vs n ds as h1 h2 h3 h4 =>
      obtain ⟨bs, hb, hk⟩ := RNA.shows (prog := X.prog) (w := X.w) h4 fun t ht => Nat.le_trans (tupleText_mem_le ht) hz
      have deep : PyData.depthAll ds < (PyData.tuple ds).depth := by simp only [PyData.depth]; omega
      have away := not_mem_of_deeper (RN.reads (.tuple h1 h2 h3 h4)) deep hb
      have dp' : PyData.depthAll ds + 1 ≤ 30 := Nat.le_trans deep dp
      refine call_repr_slot (by omega) ⟨o, h1, h2⟩ F.slot_tuple_repr ?_
      exact call_tuple_reprK h1 h2 h3 away hk hG (fun b _ => Clear.nil b) (by show X.A.units + 1 + (PyData.depthAll ds + 1) < cLine; omega) (fun _ _ e => e) (fun h' u tk hk => ⟨_, _, rfl, done h' u tk hk⟩) hz
theorem call_reprV {k : Nat} (hr : Room k X.A) (hG : X.A.guards = some []) (hn : X.base.NoDigits) (hK : X.K = K := by rfl) : CallR X (.builtin "repr") (rReprV K) := call_reprVU hr.units hG hn hK
theorem reprV_nr {d : D} {s : Sto} {c : Nat} {q : Option (Str × D)} {s2 : Sto} (e : reprV [d] s = .err c q s2) : False := by
  unfold reprV at e
  dsimp only at e
  split at e
  · split at e
    · split at e <;> cases e
    · exact reprZ_nr e
  · exact reprZ_nr e
theorem cg_reprV : CallG K Γ (rReprV K) reprV := by
  intro W σ H Q G F ι s xs vs r g hp
  have old : ∀ xs, RpA K Γ F ι vs xs → Post K Γ W σ G F ι (RV K Γ) Q (reprZ xs s) → rReprV K vs H Q := fun xs g hp => Or.inl (cg_reprZ W σ H Q G F ι s xs vs r g hp)
  unfold reprV at hp
  split at hp
  · split at hp
    · rename_i x q e
      split at hp
      · rename_i hd
        split at hp
        · rename_i hc
          simp only [Bool.and_eq_true, decide_eq_true_eq] at hc
          obtain ⟨v, rfl, gx⟩ := one_rp g
          exact Or.inr ⟨v, q, rfl, sh_rp r.sub gx e hc.1, hd, hc.1, hc.2.1, Nat.le_trans (shown_leV q hc.1) hc.2.2, hp _ _ _ _ Ext.refl r (.str _)⟩
        · exact hp.elim
      · exact old _ g hp
    · exact old _ g hp
  · exact old _ g hp
theorem repV_eq {x : D} {q : PyData} {s : Sto} (h : shD x = some q) (hd : q.hasDict = true) (hs : q.showable = true) (hp : q.depth ≤ 30) (hw : wtV q ≤ sizeLine) : reprV [x] s = .ok (.str q.shown) s := by
  unfold reprV
  simp [h, hd, hs, hp, hw]
theorem repV_old {x : D} {s : Sto} (h : ∀ q, shD x = some q → q.hasDict = false) : reprV [x] s = reprZ [x] s := by
  unfold reprV
  dsimp only
  split
  · rename_i q e
    rw [if_neg (by rw [h q e]; simp)]
  · rfl
end
end Md

set_option Elab.async false
set_option maxRecDepth 100000
set_option maxHeartbeats 4000000
set_option linter.all false
/-! exceptions as values: made, asked of what class they are, their field read -/
namespace Md
open PySem PySem.Spec PyProof.Rows L2 Ex
theorem pl_exw {a C : Addr} {d : Option Addr} : Pl (exw a C d) := Pl.ext fun h ⟨oe, vs, e, _, _, hd, n⟩ => ⟨oe, e, fun ws q t z => by rw [hd] at z; cases z; exact n q t⟩
section
variable {X : Cx} {K : PySem.W.Frag} {Γ : Gam} {W : WX} {c : Nat} {x m f : Str} {j : Nat} {p p2 pos : Pos} {e : Expr} {te : TE} {φ : FE} {t : L2.St → Hp → XK → Prop}
/-- the reading of an exception that is made and kept -/
def tKept (t : L2.St → Hp → XK → Prop) : TE := fun σ H Q => t σ H fun cls d H1 => ∃ C, cls = .ref C ∧ ∀ a, H1 a = none → Q (.ref a) (upd H1 a (exw a C d))
theorem pe_kept (h : PMk X e t) : PE X e (tKept t) := by
  refine ⟨fun pins s σ H Q I q => thn (h pins s σ H _ I q) fun u s1 hu => ?_⟩
  obtain ⟨a, oe, vs, s0, H1, cls, d, rfl, J, k, new, at_, hz, hd, h1, na, os, ag, _, C, rfl, fin⟩ := hu
  have J1 := J.laidN (t' := s1.toks) k new na (exw_ok (H := upd H1 a (exw a C d)) (P := X.prog) (w := X.w) at_ hz hd fun q t z => by rw [h1] at z; cases z)
  exact ⟨.ref a, _, ⟨J1.ok, os.trans J.os, ag, J1.base, J1.loc, J1.cell, J1.free, J1.freeC, J1.pin, J1.hok, J1.len⟩, rfl, fin a na⟩
/-- C("..") of a class without own __init__ -/
def mk0 (c : Nat) : FE := fun _ s => .ok (.exc c "" []) s
theorem de_mk0 (h : ExcA K (Γ c)) (hm : X.mg x = some (.ref (Γ c))) (hg : L2.Gl X x) (hK : X.K = K := by rfl) (hdb : (x == ("__debug__" : Str)) = false := by decide) :
    DE X K Γ W (.Call (.Name x p) [.Constant (.str m) j p2] [] pos) (tKept fun _ H Q => Q (.ref (Γ c)) none H) (mk0 c) := by
  subst hK
  obtain ⟨B, newId, initId, bmB, F, q⟩ := h.over
  refine ⟨pe_kept (pmk_own F q hm h.keep (raises_own h.exc h.ty) hg hdb), fun σ H Q G F ι s ds hs hr hp => ⟨_, rfl, fun a na => ?_⟩⟩
  obtain ⟨r2, x2⟩ := hr.new (o := exw a (Γ c) none) na pl_exw
  exact hp _ _ _ _ x2 r2 (.exc (vs := []) upd_same rfl .nil)
/-- C(e) of a class whose __init__ stores it -/
def mk1 (c : Nat) (f : Str) (φ : FE) : FE := bindX φ fun _ d s => if nc d = true then .ok (.exc c f [d]) s else .bad
theorem de_mk1 {fI : Addr} {fd : FuncData} {ps : List Str} (h : ExcB K (Γ c) f fI) (F1 : FnOk X.prog X.w X.K X.mg X.base (L2.CX X.prog X.w) 1 fI fd ps (spInit K f)) (hr : Room 2 X.A) (hb : Binds X.K fd ps []) (hm : X.mg x = some (.ref (Γ c))) (hg : L2.Gl X x) (he : DE X K Γ W e te φ)
    (hK : X.K = K := by rfl) (hdb : (x == ("__debug__" : Str)) = false := by decide) (hs : starEach [e] X.env = (false, eval e X.env) :: starEach [] X.env := by rfl) (hpl : (backTo pos (starEach [] X.env)).any (·.1) = false := by rfl) :
    DE X K Γ W (.Call (.Name x p) [e] [] pos) (tKept (tMake K (Γ c) f te)) (mk1 c f φ) := by
  subst hK
  refine ⟨pe_kept (pmk_one (k := 1) h.ini h.fn F1 hr hb hg hm h.own.keep he.pe hdb hs hpl), fun σ H Q G F ι s ds hs hr hp => ?_⟩
  refine he.gd.step hs hr hp fun y s1 v H1 F1 ι1 x1 r1 q1 hs1 hp1 => ⟨h.own, h.taker, fun dd nd => ⟨_, rfl, fun a na => ?_⟩⟩
  dsimp only at hp1
  split at hp1
  · rename_i hz
    obtain ⟨r2, x2⟩ := r1.new (o := .xd [(f, v)]) nd
    obtain ⟨r3, x3⟩ := r2.new (o := exw a (Γ c) (some dd)) na pl_exw
    exact hp1 _ _ _ _ (x2.trans x3) r3 (.exc (vs := [v]) upd_same ⟨dd, rfl, x3.same _ _ upd_same⟩ (.cons ((q1.fz hz).ext (x2.trans x3).nil) .nil))
  · exact hp1.elim
end
/-! ### a field -/
section
variable {X : Cx} {K : PySem.W.Frag} {Γ : Gam} {W : WX} {f : Str} {pos : Pos} {e : Expr} {te : TE} {φ : FE}
def tFx (K : PySem.W.Frag) (f : Str) (te : TE) : TE := fun σ H Q => te σ H fun x H1 => ∃ a C dx fs v, x = .ref a ∧ H1 a = some (exw a C (some dx)) ∧ H1 dx = some (.xd fs) ∧ XfC K C ∧ PySem.W.findIn K (.ref C) f = some none ∧ fs.lookup f = some v ∧ Q v H1
theorem exw_at {P : Program} {w : World} {H : Hp} {h : Heap} {a C : Addr} {d : Option Addr} (k : HOk P w H h) (e : H a = some (exw a C d)) : ∃ (oe : Obj) (vs : Array Value), h.get? a = some oe ∧ oe.cls = .ref C ∧ oe.dict = d ∧ oe.data = .fields vs := by
  obtain ⟨⟨oe, vs, h1, h2, h3, h4, _⟩, _⟩ := k a _ e
  exact ⟨oe, vs, h1, h2, h3, h4⟩
theorem pe_fx (he : PE X e te) (hb : attributeBase e f X.env (eval e X.env) = eval e X.env := by rfl) : PE X (.Attribute e f pos) (tFx X.K f te) := by
  refine ⟨fun pins s σ H Q I h => attr_of hb (thn (he.run pins s σ H _ I h) fun u s1 hu => ?_)⟩
  obtain ⟨y, H1, J, ru, a, C, dx, fs, v, rfl, ea, ed, hx, no, lk, q⟩ := hu
  cases (show u = Value.ref a from ru)
  obtain ⟨oe, vs, at_, hc, hdc, hda⟩ := exw_at J.hok ea
  obtain ⟨mA, hn, hr⟩ := (show ObjOk X.prog X.w H1 s1.heap dx (.xd fs) from J.hok dx _ ed)
  obtain ⟨od, ho, hl⟩ := lookIn_ns hn
  obtain ⟨z, hz, rz⟩ := RelO.some_of (v := v) (o := mA f) (by rw [← lk]; exact hr f)
  refine HandSPX.exc_get J.kIn (ox := oe) (od := some od) ⟨at_, hc, by unfold PySem.W.notCls; rw [hda], by rw [hdc]; exact ho⟩ hx.ga hx.gg hx.exC (PySem.W.findObj_own hx.hdC no rfl (by rw [hl, hz])) (handed_of rz) ?_
  exact ⟨v, H1, J.tok _, rz, q⟩
/-- reading the field of an exception of one of the classes cs -/
def fxD (cs : List Nat) (f : Str) (φ : FE) : FE := bindX φ fun _ x s => match x with
  | .exc c g [d] => if g = f ∧ c ∈ cs then .ok d s else .bad
  | _ => .bad
theorem de_fx {cs : List Nat} (ok : ∀ c ∈ cs, XfC K (Γ c) ∧ PySem.W.findIn K (.ref (Γ c)) f = some none) (he : DE X K Γ W e te φ) (hK : X.K = K := by rfl) (hb : attributeBase e f X.env (eval e X.env) = eval e X.env := by rfl) : DE X K Γ W (.Attribute e f pos) (tFx K f te) (fxD cs f φ) := by
  subst hK
  refine ⟨pe_fx he.pe hb, fun σ H Q G F ι s ds hs hr hp => he.gd.step hs hr hp fun y s1 v H1 F1 ι1 x1 r1 q1 hs1 hp1 => ?_⟩
  dsimp only at hp1
  split at hp1
  · split at hp1
    · rename_i c g d hz
      obtain ⟨rfl, hm⟩ := hz
      cases q1 with
      | exc h k g =>
        cases g with
        | cons g1 g2 =>
          cases g2
          obtain ⟨dx, rfl, hx⟩ := k
          exact ⟨_, _, dx, _, _, rfl, r1.sub _ _ h, r1.sub _ _ hx, (ok _ hm).1, (ok _ hm).2, by simp [List.lookup], hp1 _ _ _ _ Ext.refl r1 g1.up⟩
    · exact hp1.elim
  · exact hp1.elim
end
/-! ### of what class it is -/
section
variable {prog : Program} {w : World} {A : Around} {E : Value → Shared → Prop} {s : Shared} {K : PySem.W.Frag} {x D : Addr} {ox : Obj} {od : Option Obj}
set_option maxHeartbeats 400000 in
theorem ask_class {Q : Option Value → Shared → Prop} (Z : ExcC K D) (N : K.In s.heap) (I : PySem.W.InstAt s.heap x ox D od) (fin : Q (some (.ref D)) { s with toks := s.toks + 1 }) : wpAny (model prog w) A (getAttr? (.ref x) "__class__") Q E s := by
  have found : PySem.W.findObj K D od "__class__" = some (.bind (.builtin "getset_descriptor.__get__") (.builtin "object.__class__")) := by
    obtain ⟨cd, hc, _⟩ := PySem.W.any_some Z.hd
    unfold PySem.W.findObj
    simp [hc, Z.ha, Z.hn, Z.ht]
  rcases s with ⟨hp, gg, dr, tk, os⟩
  have who := I.type (M := model prog w)
  have exc_ : PySem.W.Looks (model prog w) hp (isInstance (.ref x) (.type "BaseException")) true := who.andThen (PySem.W.looks_subIn N Z.hs)
  have far : (onTheHeap (Value.ref D) && Value.builtin "BaseException.__getattribute__" == Value.builtin "object.__getattribute__") = false := by
    have z : (Value.builtin "BaseException.__getattribute__" == Value.builtin "object.__getattribute__") = false := by decide +kernel
    rw [z]
    rfl
  have near : (false && onTheHeap (Value.builtin "BaseException.__getattribute__")) = false := rfl
  unfold getAttr? getAttrBy? getAttrBy
  iterate 1 refine wpAny_bind (wpAny_mkText (wpAny_bind (wpAny_attempt (wpAny_holding (wpAny_bind (who.at (wpAny_bind ((PySem.W.looks_findIn N Z.hg).at ?_))))))))
  show wpAny _ _ (ite _ _ _) _ _ _
  rw [far, if_neg Bool.false_ne_true]
  unfold getAttrByItsOwn hookBefore callGetattribute boundAndCalled
  rw [near, if_neg Bool.false_ne_true, if_pos (show onTheHeap (Value.ref D) = true from rfl), PySem.F.excAttr_ValueError.ga.bind (.ref x)]
  refine wpAny_bind ((PySem.W.looks_findIn N Z.hk).at (wpAny_bind (wpAny_attempt (wpAny_holding (wpAny_bind (wpAny_pure ?_))))))
  show wpAny _ _ (call (.builtin "BaseException.__getattribute__") [.ref x, .str "__class__" tk]) _ _ _
  have args := PySem.F.args_bexc_ga (.ref x) (.str "__class__" tk)
  refine wpAny_call (codeAny_call_builtin PySem.F.excAttr_ValueError.ga.plain PySem.F.entry_bexc_ga (PySem.W.check_slot (M := model prog w) (s := ⟨hp, gg, dr, tk + 1, os⟩) (i := "BaseException.__getattribute__") (self := .ref x) (kw := []) (owner := "BaseException") (n := "__getattribute__") (rest := [.str "__class__" tk]) (by decide +kernel) (by decide +kernel) exc_ args ?_))
  unfold Builtin.«object.__getattribute__»
  refine wpAny_bind (wpAny_of_eq (a := ((Value.ref x, [Value.str "__class__" tk]) : Value × List Value)) (by first | rfl | (simp only [slotArgs]; rfl)) (wpAny_bind (wpAny_pure (wpAny_bind (who.at (wpAny_bind ((PySem.W.looks_find (M := model prog w) N I found).at ?_)))))))
  show wpAny _ _ (holding _ (call _ [.builtin "object.__class__", .ref x, .ref D]) >>= ret) _ _ _
  refine wpAny_bind (wpAny_holding (wpAny_call (PySem.W.class_get (s := ⟨hp, gg, dr, tk + 1, os⟩) N I Z.hm (wpAny_pure ?_))))
  show wpAny _ _ (handedOut (.ref D)) _ _ _
  rw [PySem.W.handedOut_of (v := .ref D) rfl]
  first
    | exact wpAny_pure (wpAny_pure fin)
    | exact wpAny_pure fin
    | exact wpAny_pure (wpAny_bind (wpAny_pure (wpAny_pure fin)))
theorem cls_there {C : Addr} (h : PySem.W.hasDictIn K C = true) : ∃ o cd, K.lookup C = some o ∧ o.data = .cls cd := by
  obtain ⟨cd, hc, _⟩ := PySem.W.any_some h
  unfold PySem.W.clsIn at hc
  split at hc
  · rename_i e
    exact ⟨_, _, e, rfl⟩
  · cases hc
theorem kit_exw (Z : ExcC K D) : PySem.W.KitX K (.ref x) (.ref D) (fun h => ∃ ox od, PySem.W.InstAt h x ox D od) := by
  obtain ⟨o, cd, eo, ed⟩ := cls_there Z.hd
  refine ⟨fun _ _ _ ⟨_, _, I⟩ => I.type, fun _ _ N _ A Q E s k q => ?_, fun h tp dd its n sl N e => ?_, fun N ⟨_, _, I⟩ q => ask_class Z N I q⟩
  · simp only [isType, loadHead]
    refine wpAny_bind (wpAny_loadPart (k _ _ (N _ _ eo)) ?_)
    rw [ed]
    exact wpAny_pure q
  · by_cases z : D = tp
    · subst z
      have y := N _ _ eo
      rw [e] at y
      cases y
      cases ed
    · simp [z]
end
section
variable {X : Cx} {K : PySem.W.Frag} {Γ : Gam} {W : WX} {pos p p2 : Pos} {e : Expr} {te : TE} {φ : FE} {x : Str}
/-- isinstance of an exception, of the class u -/
def rIsX (K : PySem.W.Frag) (u : Value) : List V → Hp → VK → Prop := fun xs H Q => ∃ a C d c b, xs = [.ref a, c] ∧ H a = some (exw a C d) ∧ (∀ dx, d = some dx → ∃ fs, H dx = some (.xd fs)) ∧ ExcC K C ∧ (∀ w, RelV c w → w = u) ∧ PySem.W.kitOne K (.ref C) u = some b ∧ Q (.bl b) H
theorem call_isX (u : Value) : CallR X (.builtin "isinstance") (rIsX X.K u) := by
  rintro pins s σ H xs us Q I r ⟨a, C, d, c, b, rfl, ea, ed, Z, hu, ek, q⟩
  obtain ⟨va, vc, rfl⟩ : ∃ va vc, us = [va, vc] := by
    match us, r.length with
    | [va, vc], _ => exact ⟨va, vc, rfl⟩
  cases r with
  | cons r1 r =>
    cases r with
    | cons r2 _ =>
      cases (show va = Value.ref a from r1)
      cases hu _ r2
      obtain ⟨oe, vs, at_, hc, hdc, hda⟩ := exw_at I.hok ea
      have inst : ∃ ox od, PySem.W.InstAt s.heap a ox C od := by
        have no : PySem.W.notCls oe = true := by unfold PySem.W.notCls; rw [hda]
        cases d with
        | none => exact ⟨oe, none, at_, hc, no, by rw [hdc]; trivial⟩
        | some dx =>
          obtain ⟨fs, ef⟩ := ed dx rfl
          obtain ⟨mA, hn, _⟩ := (show ObjOk X.prog X.w H s.heap dx (.xd fs) from I.hok dx _ ef)
          obtain ⟨od, ho, _⟩ := lookIn_ns hn
          exact ⟨oe, some od, at_, hc, no, by rw [hdc]; exact ho⟩
      exact PySem.W.kia_one (kit_exw Z) I.kIn inst ek (fun z => nomatch z) fun tk => ⟨.bl b, H, I.kept (t' := tk) fun _ _ z => z, rfl, q⟩
def isiX (t : Nat → Option Bool) : FE → FE := fun φ => bindX φ fun _ x s => match x with
  | .exc c _ _ => match t c with
    | some b => .ok (.bl b) s
    | none => .bad
  | _ => .bad
theorem gd_isiX {t : Nat → Option Bool} {u : Value} {v0 : V} (hv : ∀ w, RelV v0 w → w = u) (ok : ∀ c b, t c = some b → ExcC K (Γ c) ∧ PySem.W.kitOne K (.ref (Γ c)) u = some b) (h : Gd K Γ W te φ) (t0 : TE) (h0 : ∀ σ H Q, Q v0 H → t0 σ H Q) :
    Gd K Γ W (tCB (rIsX K u) (tCons te (tCons t0 tNil))) (isiX t φ) := by
  intro σ H Q G F ι s ds hs hr hp
  refine h.step hs hr hp fun y s1 v H1 F1 ι1 x1 r1 q1 hs1 hp1 => ?_
  dsimp only at hp1
  split at hp1
  · split at hp1
    · rename_i c f ds' o' b eb
      cases q1 with
      | @exc _ a _ d _ vs _ h k g =>
        refine h0 _ _ _ ⟨a, Γ c, d, v0, b, rfl, r1.sub _ _ h, fun dx ed => ?_, (ok c b eb).1, hv, (ok c b eb).2, hp1 _ _ _ _ Ext.refl r1 (.bl b)⟩
        match vs, k with
        | [], k => rw [ed] at k; cases k
        | [v], ⟨dx', e1, e2⟩ =>
          rw [ed] at e1
          cases e1
          exact ⟨_, r1.sub _ _ e2⟩
    · exact hp1.elim
  · exact hp1.elim
theorem de_isiXT {T : String} {t : Nat → Option Bool} (ok : ∀ c b, t c = some b → ExcC K (Γ c) ∧ PySem.W.kitOne K (.ref (Γ c)) (.type T) = some b) (hg : L2.Gl X "isinstance") (hm : X.mg "isinstance" = none) (hgT : L2.Gl X x) (hmT : X.mg x = none) (hvT : bootBuiltins x = some (.type T)) (h : DE X K Γ W e te φ)
    (hn : x ≠ "__name__" := by decide) (hx : (x == ("__debug__" : Str)) = false := by decide) (hK : X.K = K := by rfl)
    (hs : starEach [e, .Name x p2] X.env = (false, eval e X.env) :: starEach [.Name x p2] X.env := by rfl) (hs2 : starEach [.Name x p2] X.env = (false, eval (.Name x p2) X.env) :: starEach [] X.env := by rfl) (hpl : (backTo pos (starEach [.Name x p2] X.env)).any (·.1) = false := by rfl) :
    DE X K Γ W (.Call (.Name "isinstance" p) [e, .Name x p2] [] pos) (tCB (rIsX K (.type T)) (tCons te (tCons (tC (.ty T)) tNil))) (isiX t φ) := by
  subst hK
  exact ⟨pe_callB (call_isX _) hg hm (by decide +kernel) (pa_cons h.pe (pa_cons (pe_bltn hgT hmT hvT rfl hn hx) pa_nil hs2) hs) (by decide) (by decide) hs hpl, gd_isiX (v0 := .ty T) (fun w hw => hw) ok h.gd (tC (.ty T)) fun _ _ _ q => q⟩
theorem de_isiXC {k : Nat} {t : Nat → Option Bool} (ok : ∀ c b, t c = some b → ExcC K (Γ c) ∧ PySem.W.kitOne K (.ref (Γ c)) (.ref (Γ k)) = some b) (hg : L2.Gl X "isinstance") (hm : X.mg "isinstance" = none) (hgT : L2.Gl X x) (hmT : X.mg x = some (.ref (Γ k))) (h : DE X K Γ W e te φ)
    (hx : (x == ("__debug__" : Str)) = false := by decide) (hK : X.K = K := by rfl)
    (hs : starEach [e, .Name x p2] X.env = (false, eval e X.env) :: starEach [.Name x p2] X.env := by rfl) (hs2 : starEach [.Name x p2] X.env = (false, eval (.Name x p2) X.env) :: starEach [] X.env := by rfl) (hpl : (backTo pos (starEach [.Name x p2] X.env)).any (·.1) = false := by rfl) :
    DE X K Γ W (.Call (.Name "isinstance" p) [e, .Name x p2] [] pos) (tCB (rIsX K (.ref (Γ k))) (tCons te (tCons (tC (.ref (Γ k))) tNil))) (isiX t φ) := by
  subst hK
  exact ⟨pe_callB (call_isX _) hg hm (by decide +kernel) (pa_cons h.pe (pa_cons (pe_glob hgT hmT rfl hx) pa_nil hs2) hs) (by decide) (by decide) hs hpl, gd_isiX (v0 := .ref (Γ k)) (fun w hw => hw) ok h.gd (tC (.ref (Γ k))) fun _ _ _ q => q⟩
end
end Md

set_option Elab.async false
set_option maxRecDepth 100000
set_option maxHeartbeats 4000000
set_option linter.all false
/-! the mirror layer: text * 0 and text * 1 -/
namespace Md
open PySem PySem.Spec PyProof.Rows L2
def rOnceS : R2 := fun x y H Q => ∃ z i, x = .str z ∧ y = .int i ∧ (i = 0 ∨ i = 1) ∧ Q (.str (if i = 0 then Str.empty else z)) H
def mulS (x y : D) (s : Sto) : Out D := match x, y with
  | .str z, .int i => if i = 0 then .ok (.str Str.empty) s else if i = 1 then .ok (.str z) s else .bad
  | _, _ => .bad
section
variable {X : Cx} {K : PySem.W.Frag} {Γ : Gam}
theorem op_mulS : OpR X (binaryOp .Mult) rOnceS := by
  rintro pins s σ H x y v u Q I rx ry ⟨z, i, rfl, rfl, hi, q⟩
  obtain ⟨t, rfl⟩ := rx
  obtain ⟨t2, rfl⟩ := ry
  rcases hi with rfl | rfl
  · exact P.mul_str_none (by decide) (by decide) ⟨.str Str.empty, H, I.tok _, ⟨_, rfl⟩, q⟩
  · exact P.mul_str (by decide) (fun _ z => absurd z (by simp)) (fun _ z => absurd z (by simp)) ⟨.str z, H, I, ⟨_, rfl⟩, q⟩
theorem og_mulS : OpG K Γ rOnceS mulS := by
  intro W σ H Q G F ι s x y v u r h1 h2 hp
  unfold mulS at hp
  split at hp
  · cases h1; cases h2
    split at hp
    · rename_i e
      exact ⟨_, _, rfl, rfl, Or.inl e, by rw [if_pos e]; exact hp _ _ _ _ Ext.refl r (.str _)⟩
    · split at hp
      · rename_i n e
        exact ⟨_, _, rfl, rfl, Or.inr e, by rw [if_neg n]; exact hp _ _ _ _ Ext.refl r (.str _)⟩
      · exact hp.elim
  · exact hp.elim
end
theorem mulS_f {z : Str} {s : Sto} : mulS (.str z) (.int 0) s = .ok (.str Str.empty) s := rfl
theorem mulS_t {z : Str} {s : Sto} : mulS (.str z) (.int 1) s = .ok (.str z) s := rfl
end Md

set_option Elab.async false
set_option maxRecDepth 100000
set_option maxHeartbeats 4000000
set_option linter.all false
/-! a def that is called in an except suite, the exception handed to it -/
namespace Md
open PySem PySem.Spec PyProof.Rows L2 Ex
open L2H (RoomH roomH_of)
/-- a promise of a def that raises nothing, whatever is handled around it -/
structure FnS (P : Program) (w : World) (K : PySem.W.Frag) (mg : Str → Option Value) (base : Heap) (k : Nat) (f : Addr) (fd : FuncData) (ps : List Str) (sp : Sp) : Prop where
  len : ∀ vs H Q E, sp vs H Q E → vs.length = ps.length
  go : ∀ (A : Around) (outer : List Env) (s : Shared) (H : Hp) (args : Args) (us : List Value) (vs : List V) (Q : VK) (E : XK), RoomH k A → Env0 P w K mg base A outer s H → BindsTo s fd args (ps.zip us) → Vals vs us → sp vs H Q E →
    codeAny (model P w) A (.call (.ref f) args) (CR CX0 outer P w H s Q E) s
section
variable {P : Program} {w : World} {K : PySem.W.Frag} {Γ : Gam} {mg : Str → Option Value} {base : Heap}
/-- the context of its body: nothing is said of what is handled -/
abbrev cxS (P : Program) (w : World) (K : PySem.W.Frag) (mg : Str → Option Value) (base : Heap) (N : List Str) (qual : Str) (sc : Scope) (f : Addr) (cdv : Value) (A : Around) (outer : List Env) (s : Shared) (H : Hp) (E : XK) : Cx :=
  { cxOf CX0 P w K mg base N qual sc f cdv A outer s H E with calm := false }
theorem okSoft {x qual : Str} {st : Stmt} {f : Addr} {fd : FuncData} {N ps : List Str} {k : Nat} {sp : Sp} (Fn : Fun K x qual st f fd) (S : FnScope N ps (defScope st)) (len : ∀ vs H Q E, sp vs H Q E → vs.length = ps.length)
    (body : ∀ (cdv : Value) (A : Around) (outer : List Env) (s : Shared) (H : Hp) (vs : List V) (Q : VK) (E : XK), sp vs H Q E →
      ∃ t, PSs (cxS P w K mg base N qual (defScope st) f cdv A outer s H E).nox (defBody st) t ∧ t { nx := fun _ H' => Q .non H', rt := Q } (start N vs) H) : FnS P w K mg base (k + 1) f fd ps sp := by
  obtain ⟨oc, od, kV, doc, pm, an, cdv, ct, osl, rfl, lk, hcd⟩ := Fn.ex
  refine ⟨len, fun A outer s H args us vs Q E hr e0 hb r hsp => ?_⟩
  have N0 := e0.mod.kin.keeps fun b o e => (e0.bs b o e).1
  have kinds : ∀ y ∈ ps.zip us, (defScope st).names.lookup y.1 = some .local ∨ ((defScope st).names.lookup y.1 = some .cell ∧ ((cellsFrom (s.heap.objs.size + 1) (defScope st).names []).lookup y.1).isSome = true) := fun y hy =>
    (S.par y.1 (List.of_mem_zip hy).1).imp id fun q => ⟨q, PySem.W.cellsFrom_some _ _ _ (Or.inl q)⟩
  refine codeAny_call_function hr.depth (N0 _ _ lk) rfl S.co S.gen rfl (PySem.W.codeRec_of N0 hcd) (hb _ _ _ _ (wpAny_newFunctionEnv_cells S.kind kinds ?_))
  rintro env rfl s1 x
  refine ⟨(e0.mod.nolimit.keeps fun b o e => (e0.bs b o e).1).keeps x.toInCall.keep, codeAny_func ?_⟩
  obtain ⟨t, ht, hq⟩ := body cdv A outer s H vs Q E hsp
  have e1 : Env0 P w K mg base { A with handled := none } outer s H := ⟨e0.frames, e0.mod, e0.bs, e0.bsz, e0.funs, e0.frf, e0.hok, e0.bare⟩
  have J := inv_start (CX := CX0) (A := { A with handled := none }) (E := E) S rfl e1 (len _ _ _ _ hsp) r x
  have I : Inv (cxS P w K mg base N qual (defScope st) f cdv A outer s H E) [] (start N vs) H s1 :=
    ⟨⟨J.ok.mod, J.ok.kind, J.ok.glob, J.ok.blt, J.ok.above, J.ok.inj, J.ok.has, J.ok.cab, (fun z => Bool.noConfusion (show false = true from z)), Around.frames_deeper e0.frames, J.ok.stk, J.ok.exf, J.ok.bs, J.ok.bsz, J.ok.noex, J.ok.exfs, J.ok.funs, J.ok.frf⟩,
      J.os, J.bare, J.base, J.loc, J.cell, J.free, J.freeC, J.pin, J.hok, J.len⟩
  refine wpAny_mono (ht.nox.run [] s1 _ H _ I hq) (fun fl s2 out => ?_) fun _ _ z => z
  match fl, out with
  | .ret u, ⟨v, σ2, H2, J2, rv, q⟩ => exact ⟨v, H2, J2.os, J2.bare, J2.base, J2.hok, rv, q⟩
  | .next, ⟨σ2, H2, J2, q⟩ => exact ⟨V.non, H2, J2.os, J2.bare, J2.base, J2.hok, rfl, q⟩
  | .brk, ⟨_, _, _, z⟩ => exact z.elim
  | .cont, ⟨_, _, _, z⟩ => exact z.elim
theorem okDS {x qual : Str} {st : Stmt} {f : Addr} {fd : FuncData} {N ps : List Str} {k n : Nat} {ψ : FS} (Fn : Fun K x qual st f fd) (S : FnScope N ps (defScope st)) (hn : N.length = ps.length + n)
    (hb : ∀ (cdv : Value) (A : Around) (outer : List Env) (s : Shared) (H : Hp) (E : XK), ∃ t, DSs (cxS P w K mg base N qual (defScope st) f cdv A outer s H E).nox K Γ W0 (defBody st) t ψ) : FnS P w K mg base (k + 1) f fd ps (spD K Γ (body0 ps.length n ψ)) := by
  refine okSoft Fn S (fun vs H Q E h => spD_len (np := ps.length) body0_bad h) fun cdv A outer s H vs Q E h => ?_
  have hl := spD_len (np := ps.length) body0_bad h
  obtain ⟨G, F, ι, s0, ds, g, r, p⟩ := h
  obtain ⟨t, ht⟩ := hb cdv A outer s H E
  refine ⟨t, ht.ps, ht.gd _ _ H G F ι s0 _ (rs_start g (by rw [← g.length, hl]; exact hn)) r ?_⟩
  unfold body0 bodyD at p
  rw [if_pos (by rw [← g.length]; exact hl), ← r.len] at p
  have p2 : Post K Γ (fun _ _ _ _ => False) [] G F ι (RV K Γ) Q (rawD n ψ ds s0) := post_trim (by
    revert p
    cases trimO ι.length (rawD n ψ ds s0) with
    | ok d s1 => exact id
    | err c q s1 => exact fun z => z.elim
    | bad => exact fun z => z.elim)
  unfold rawD at p2
  revert p2
  cases ψ (ds.map some ++ List.replicate n none) s0 with
  | rt d s1 => exact id
  | nx ds1 s1 => exact fun q σ' H' F' ι' x' _ r' => q _ H' F' ι' x' r' .non
  | err c q ds1 s1 => exact fun q2 dd σ' H' F' ι' x' _ r' q' => q2 dd H' F' ι' x' r' q'
  | bk ds1 s1 => exact fun z => z.elim
  | ct ds1 s1 => exact fun z => z.elim
  | bad => exact id
end
section
variable {X : Cx} {K : PySem.W.Frag} {Γ : Gam} {W : WX} {pos p : Pos} {e : Expr} {es : List Expr} {ta : TA} {ψ : FA} {x : Str} {k : Nat} {f : Addr} {fd : FuncData} {ps : List Str} {sp : Sp}
theorem pe_callSo (F : FnS X.prog X.w X.K X.mg X.base k f fd ps sp) (hr : RoomH k X.A) (hg : L2.Gl X x) (hm : X.mg x = some (.ref f)) (hk : PySem.W.keepIn X.K (.ref f) = true) (hb : Binds X.K fd ps []) (ha : PA X (e :: es) ta)
    (hdb : (x == ("__debug__" : Str)) = false := by decide) (he : starEach (e :: es) X.env = (false, eval e X.env) :: starEach es X.env := by rfl) (hpl : (backTo pos (starEach es X.env)).any (·.1) = false := by rfl) :
    PE X (.Call (.Name x p) (e :: es) [] pos) (tCall sp [] E0 ta) := by
  refine ⟨fun pins s σ H Q I h => ?_⟩
  refine wpAny_Call_Name_kw (ld_glob I hg hm (PySem.W.callWith_K (h₀ := X.base) I.ok.mod.kin hk (thn (ha.run pos pins s σ H _ I h) fun us s1 ⟨vs, H1, I1, r, q⟩ => ⟨I1.kIn, ?_⟩) he hpl) hdb)
  have q : sp vs H1 Q E0 := by
    have z : sp (vs ++ []) H1 Q E0 := q
    rwa [List.append_nil] at z
  have b := hb s1 us I1.kIn (by rw [List.append_nil, ← r.length]; exact F.len _ _ _ _ q)
  rw [List.append_nil] at b
  refine wpAny_call (codeAny_mono (F.go X.A X.stack s1 H1 ⟨us, []⟩ us vs Q _ hr I1.env0 b r q) fun r2 s2 out => ?_)
  match r2, out with
  | .error z, out => exact pass0 (X := X) pins σ H1 s1 z s2 I1 out
  | .ok (.ret u), out => exact I1.after out
  | .ok .next, out => exact False.elim out
  | .ok .brk, out => exact False.elim out
  | .ok .cont, out => exact False.elim out
end
theorem _root_.L2H.RoomH.mark {k : Nat} {A : Around} {v : Option Value} (h : RoomH k A) : RoomH k (A.mark v) := ⟨h.dp, h.un⟩
/-! ### the clause -/
section
variable {K : PySem.W.Frag} {Γ : Gam}
/-- the suite is `return e`, which asks of no more than the exception, of the class k -/
def runOwn (k : Nat) (ψ : D → Sto → Out D) : Option (Str × D) → Sto → Out D := fun p s => match p with
  | none => nb (ψ (.exc k "" []) s)
  | some _ => .bad
theorem cl_own {k i : Nat} {te : TE} {φ : FE} {ψ : D → Sto → Out D} (h : Gd K Γ (fun _ _ _ _ => False) te φ) (hφ : ∀ ds d s, ds[i]? = some (some d) → φ ds s = ψ d s) {p : Option (Str × D)} {a : Addr} {dd : Option Addr} {E : Ends} {σ : L2.St} {H G F : Hp} {ι : List Addr} {s : Sto} (hi : i < σ.length) (hr : Rel K Γ G F H ι s) (he : ErrAt K Γ F H ι dd p)
    (hp : Post K Γ (fun _ _ _ _ => False) [] G F ι (RV K Γ) E.rt (runOwn k ψ p s)) : H a = none → ∃ C, (Value.ref (Γ k)) = .ref C ∧ tRet te (gone E (some i)) (named σ a (some i)) (upd H a (exw a C dd)) := by
  intro na
  refine ⟨_, rfl, ?_⟩
  cases p with
  | some q => exact hp.elim
  | none =>
    cases (show dd = none from he)
    obtain ⟨r2, x2⟩ := hr.new (o := exw a (Γ k) none) na pl_exw
    have rs : RS K Γ (upd F a (exw a (Γ k) none)) ι (σ.set i (some (.ref a))) ((List.replicate σ.length none).set i (some (.exc k "" []))) := by
      refine ⟨by simp, fun j d e => ?_⟩
      rw [List.getElem?_set] at e
      split at e
      · rename_i z
        subst z
        split at e
        · cases e
          exact ⟨.ref a, by rw [List.getElem?_set_self hi], .exc (vs := []) upd_same rfl .nil⟩
        · cases e
      · rw [List.getElem?_replicate] at e
        split at e <;> cases e
    refine h _ _ _ G _ ι s _ rs r2 ?_
    have hp2 : Post K Γ (fun _ _ _ _ => False) [] G F ι (RV K Γ) E.rt (nb (ψ (.exc k "" []) s)) := hp
    rw [hφ _ (.exc k "" []) s (by rw [List.getElem?_set_self (by simpa using hi)])]
    revert hp2
    cases ψ (.exc k "" []) s with
    | ok d s1 => exact fun q v H' F' ι' x' r' rv => q v H' F' ι' (x2.trans x') r' rv
    | err c p s1 => exact fun z => z.elim
    | bad => exact fun z => z.elim
/-- "x" + f(e) -/
theorem ga_nil {W : WX} : Ga K Γ W tNil nilD := fun σ H Q G F ι s ds hs hr hp => hp [] H F ι Ext.refl hr .nil
theorem gd_own {W : WX} {i : Nat} {x : Str} {m0 : Fn} (hm0 : ∀ xs s, m0 xs s = nb (m0 xs s)) : Gd K Γ W (tOp (rAddA K) (tC (.str x)) (tCall (spD K Γ m0) [] E0 (tCons (tVar i) tNil))) (op2 addD (cD (.str x)) (callD m0 (consD (varD i) nilD))) := gd_op og_add (gd_c fun _ _ => .str _) (gd_callG hm0 (ga_cons gd_var ga_nil))
def ownW (x : Str) (m0 : Fn) : D → Sto → Out D := fun d s => (m0 [d] s).bind fun t s => addD (.str x) t s
theorem own_eq {i : Nat} {x : Str} {m0 : Fn} (hm0 : ∀ xs s, m0 xs s = nb (m0 xs s)) (ds : DSt) (d : D) (s : Sto) (h : ds[i]? = some (some d)) : op2 addD (cD (.str x)) (callD m0 (consD (varD i) nilD)) ds s = ownW x m0 d s := by
  simp only [op2, bindX, cD, callD, consD, varD, nilD, ownW, h, Out.bind]
/-- return "x" + repr(e.f), whatever e keeps -/
def retRepV (x f : Str) : Option (Str × D) → Sto → Out D := fun p s => (payR f p s).bind fun d s => (reprV [d] s).bind fun t s => addD (.str x) t s
theorem payR_st {f : Str} {p : Option (Str × D)} {s s1 : Sto} {d : D} (h : payR f p s = .ok d s1) : s1 = s := by
  unfold payR at h
  split at h
  · split at h <;> cases h
    rfl
  · cases h
theorem payR_nr {f : Str} {p : Option (Str × D)} {s s1 : Sto} {c : Nat} {q : Option (Str × D)} (h : payR f p s = .err c q s1) : False := by
  unfold payR at h
  split at h
  · split at h <;> cases h
  · cases h
theorem cl_reprV {x f : Str} {a : Addr} {dd : Option Addr} {c i : Nat} {p : Option (Str × D)} {E : Ends} {σ : L2.St} {H G F : Hp} {ι : List Addr} {s : Sto} (hi : i < σ.length) (hr : Rel K Γ G F H ι s) (he : ErrAt K Γ F H ι dd p) (hp : Post K Γ (fun _ _ _ _ => False) [] G F ι (RV K Γ) E.rt (retRepV x f p s)) :
    tRet (tOp (rAddA K) (tC (.str x)) (tCB (rReprV K) (tCons (tXf a (.ref (Γ c)) dd (Γ c) f (tVar i)) tNil))) (gone E (some i)) (named σ a (some i)) H := by
  unfold retRepV at hp
  cases ep : payR f p s with
  | bad => rw [ep] at hp; exact hp.elim
  | err c p s1 => exact (payR_nr ep).elim
  | ok d s1 =>
    cases payR_st ep
    rw [ep] at hp
    refine cl_field hi he ep fun v rv => cg_reprV (fun _ _ _ _ => False) [] H _ G F ι s [d] [v] hr (.cons rv .nil) ?_
    have hp2 : Post K Γ (fun _ _ _ _ => False) [] G F ι (RV K Γ) E.rt ((reprV [d] s).bind fun t s => addD (.str x) t s) := hp
    cases er : reprV [d] s with
    | bad => rw [er] at hp2; exact hp2.elim
    | err c p s2 => exact (reprV_nr er).elim
    | ok t s2 =>
      rw [er] at hp2
      exact fun w H2 F2 ι2 x2 r2 rw2 => og_add (fun _ _ _ _ => False) [] H2 E.rt G F2 ι2 s2 (.str x) t (.str x) w r2 (.str x) rw2 (hp2.ext x2)
end
/-! ### evaluation -/
section
variable {c : Nat} {f g z : Str} {xs : List D} {d : D} {s : Sto} {ds : DSt} {φ : FE} {t : Nat → Option Bool} {b : Bool} {cs : List Nat}
def isiO (t : Nat → Option Bool) (o : Out D) : Out D := o.bind fun x s => match x with
  | .exc c _ _ => match t c with
    | some b => .ok (.bl b) s
    | none => .bad
  | _ => .bad
theorem e_isiX : isiX t φ ds s = isiO t (φ ds s) := rfl
theorem e_isiO (h : t c = some b) : isiO t (.ok (.exc c f xs) s) = .ok (.bl b) s := by
  unfold isiO Out.bind
  simp [h]
theorem e_mk0 : mk0 c ds s = .ok (.exc c "" []) s := rfl
def mkO (c : Nat) (f : Str) (o : Out D) : Out D := o.bind fun d s => if nc d = true then .ok (.exc c f [d]) s else .bad
theorem e_mk1 : mk1 c f φ ds s = mkO c f (φ ds s) := rfl
theorem e_mkO (h : nc d = true) : mkO c f (.ok d s) = .ok (.exc c f [d]) s := by
  unfold mkO Out.bind
  simp [h]
def fxO (cs : List Nat) (f : Str) (o : Out D) : Out D := o.bind fun x s => match x with
  | .exc c g [d] => if g = f ∧ c ∈ cs then .ok d s else .bad
  | _ => .bad
theorem e_fxD : fxD cs f φ ds s = fxO cs f (φ ds s) := rfl
theorem e_fxO (h : c ∈ cs) : fxO cs f (.ok (.exc c f [d]) s) = .ok d s := by
  unfold fxO Out.bind
  simp [h]
theorem nc_exc : nc (.exc c f xs) = true := rfl
end
end Md

set_option Elab.async false
set_option maxRecDepth 100000
set_option maxHeartbeats 4000000
set_option linter.all false
namespace Law
open PySem PySem.Spec PyProof.Rows L2 Md
def topS (i : Nat) : Stmt := PySem.Challenge.pw_grownlines_k01_errors_and_what_they_keep.main.body.getD i (.Pass ⟨0, 0, 0, 0⟩)
abbrev s__law_dice : Stmt := topS 18
theorem sc__law_dice : FnScope ["_law_script", "_law_spot", "_law_cell", "_law_left"] ["_law_script", "_law_spot"] (defScope s__law_dice) := ⟨rfl, rfl, rfl, by decide +kernel, rfl, by decide +kernel, by decide +kernel⟩
abbrev s__law_roll : Stmt := topS 19
theorem sc__law_roll : FnScope ["_law_dice_here", "_law_total", "_law_found", "_law_one", "_law_two"] ["_law_dice_here", "_law_total"] (defScope s__law_roll) := ⟨rfl, rfl, rfl, by decide +kernel, rfl, by decide +kernel, by decide +kernel⟩
abbrev s__law_pick : Stmt := topS 20
theorem sc__law_pick : FnScope ["_law_dice_here", "_law_items"] ["_law_dice_here", "_law_items"] (defScope s__law_pick) := ⟨rfl, rfl, rfl, by decide +kernel, rfl, by decide +kernel, by decide +kernel⟩
abbrev s_NoQuotient___init__ : Stmt := inClass (topS 16) 0
theorem sc_NoQuotient___init__ : FnScope ["self", "divisor"] ["self", "divisor"] (defScope s_NoQuotient___init__) := ⟨rfl, rfl, rfl, by decide +kernel, rfl, by decide +kernel, by decide +kernel⟩
abbrev s_UnknownAddress___init__ : Stmt := inClass (topS 11) 0
theorem sc_UnknownAddress___init__ : FnScope ["self", "lost"] ["self", "lost"] (defScope s_UnknownAddress___init__) := ⟨rfl, rfl, rfl, by decide +kernel, rfl, by decide +kernel, by decide +kernel⟩
abbrev s__law_own : Stmt := topS 21
theorem sc__law_own : FnScope ["_law_error", "_law_found"] ["_law_error"] (defScope s__law_own) := ⟨rfl, rfl, rfl, by decide +kernel, rfl, by decide +kernel, by decide +kernel⟩
abbrev s__law_caught : Stmt := topS 25
theorem sc__law_caught : FnScope ["_law_value", "_law_way", "e"] ["_law_value", "_law_way"] (defScope s__law_caught) := ⟨rfl, rfl, rfl, by decide +kernel, rfl, by decide +kernel, by decide +kernel⟩
abbrev s__law_due_messages : Stmt := topS 27
theorem sc__law_due_messages : FnScope ["_law_letter"] [] (defScope s__law_due_messages) := ⟨rfl, rfl, rfl, by decide +kernel, rfl, by decide +kernel, by decide +kernel⟩
abbrev s_InvalidNumber___init__ : Stmt := inClass (topS 12) 0
theorem sc_InvalidNumber___init__ : FnScope ["self", "value"] ["self", "value"] (defScope s_InvalidNumber___init__) := ⟨rfl, rfl, rfl, by decide +kernel, rfl, by decide +kernel, by decide +kernel⟩
abbrev s_NothingToUndo___init__ : Stmt := inClass (topS 13) 0
theorem sc_NothingToUndo___init__ : FnScope ["self", "many"] ["self", "many"] (defScope s_NothingToUndo___init__) := ⟨rfl, rfl, rfl, by decide +kernel, rfl, by decide +kernel, by decide +kernel⟩
abbrev s_ParseError___init__ : Stmt := inClass (topS 9) 0
theorem sc_ParseError___init__ : FnScope ["self", "number"] ["self", "number"] (defScope s_ParseError___init__) := ⟨rfl, rfl, rfl, by decide +kernel, rfl, by decide +kernel, by decide +kernel⟩
abbrev s_Refused___init__ : Stmt := inClass (topS 15) 0
theorem sc_Refused___init__ : FnScope ["self", "pledge"] ["self", "pledge"] (defScope s_Refused___init__) := ⟨rfl, rfl, rfl, by decide +kernel, rfl, by decide +kernel, by decide +kernel⟩
abbrev s_TooMany___init__ : Stmt := inClass (topS 14) 0
theorem sc_TooMany___init__ : FnScope ["self", "limit"] ["self", "limit"] (defScope s_TooMany___init__) := ⟨rfl, rfl, rfl, by decide +kernel, rfl, by decide +kernel, by decide +kernel⟩
abbrev s_UnknownLetter___init__ : Stmt := inClass (topS 10) 0
theorem sc_UnknownLetter___init__ : FnScope ["self", "word"] ["self", "word"] (defScope s_UnknownLetter___init__) := ⟨rfl, rfl, rfl, by decide +kernel, rfl, by decide +kernel, by decide +kernel⟩
abbrev s__law_all : Stmt := topS 22
theorem sc__law_all : FnScope ["_law_error", "_law_found"] ["_law_error"] (defScope s__law_all) := ⟨rfl, rfl, rfl, by decide +kernel, rfl, by decide +kernel, by decide +kernel⟩
abbrev s__law_kept : Stmt := topS 24
theorem sc__law_kept : FnScope ["_law_value", "_law_index", "_law_parse", "_law_unknown", "_law_lost", "_law_number", "_law_undo", "_law_limit", "_law_refused", "_law_quotient", "_law_found"] ["_law_value", "_law_index"] (defScope s__law_kept) := ⟨rfl, rfl, rfl, by decide +kernel, rfl, by decide +kernel, by decide +kernel⟩
abbrev s__law_messages : Stmt := topS 23
theorem sc__law_messages : FnScope ["_law_found"] [] (defScope s__law_messages) := ⟨rfl, rfl, rfl, by decide +kernel, rfl, by decide +kernel, by decide +kernel⟩
abbrev s__law_right : Stmt := topS 26
theorem sc__law_right : FnScope ["_law_value", "_law_index", "_law_due", "_law_told", "_law_way"] ["_law_value", "_law_index"] (defScope s__law_right) := ⟨rfl, rfl, rfl, by decide +kernel, rfl, by decide +kernel, by decide +kernel⟩
abbrev s_law : Stmt := topS 28
theorem sc_law : FnScope ["_law_script", "_law_spot", "_law_dice_here", "_law_some", "_law_index", "_law_turn"] ["_law_script"] (defScope s_law) := ⟨rfl, rfl, rfl, by decide +kernel, rfl, by decide +kernel, by decide +kernel⟩
structure Ad where
  a__law_dice : Addr
  a__law_roll : Addr
  a__law_pick : Addr
  a_NoQuotient___init__ : Addr
  a_UnknownAddress___init__ : Addr
  a__law_own : Addr
  a__law_caught : Addr
  a__law_due_messages : Addr
  a_InvalidNumber___init__ : Addr
  a_NothingToUndo___init__ : Addr
  a_ParseError___init__ : Addr
  a_Refused___init__ : Addr
  a_TooMany___init__ : Addr
  a_UnknownLetter___init__ : Addr
  a__law_all : Addr
  a__law_kept : Addr
  a__law_messages : Addr
  a__law_right : Addr
  a_law : Addr
  c_LineError : Addr
  c_InvalidGrid : Addr
  c_InvalidPoint : Addr
  c_InvalidRule : Addr
  c_InvalidScheme : Addr
  c_InvalidStand : Addr
  c_InvalidPaper : Addr
  c_InvalidOperation : Addr
  c_ParseError : Addr
  c_UnknownLetter : Addr
  c_UnknownAddress : Addr
  c_InvalidNumber : Addr
  c_NothingToUndo : Addr
  c_TooMany : Addr
  c_Refused : Addr
  c_NoQuotient : Addr
structure Fd where
  d__law_dice : FuncData
  d__law_roll : FuncData
  d__law_pick : FuncData
  d_NoQuotient___init__ : FuncData
  d_UnknownAddress___init__ : FuncData
  d__law_own : FuncData
  d__law_caught : FuncData
  d__law_due_messages : FuncData
  d_InvalidNumber___init__ : FuncData
  d_NothingToUndo___init__ : FuncData
  d_ParseError___init__ : FuncData
  d_Refused___init__ : FuncData
  d_TooMany___init__ : FuncData
  d_UnknownLetter___init__ : FuncData
  d__law_all : FuncData
  d__law_kept : FuncData
  d__law_messages : FuncData
  d__law_right : FuncData
  d_law : FuncData
structure Txt (K : PySem.W.Frag) (mg : Str → Option Value) (A : Ad) (D : Fd) : Prop where
  z_ArithmeticError : mg "ArithmeticError" = none
  z_IndexError : mg "IndexError" = none
  z_KeyError : mg "KeyError" = none
  z_LookupError : mg "LookupError" = none
  z_OverflowError : mg "OverflowError" = none
  z_RuntimeError : mg "RuntimeError" = none
  z_ValueError : mg "ValueError" = none
  z_ZeroDivisionError : mg "ZeroDivisionError" = none
  z_abs : mg "abs" = none
  z_int : mg "int" = none
  z_isinstance : mg "isinstance" = none
  z_len : mg "len" = none
  z_max : mg "max" = none
  z_min : mg "min" = none
  z_range : mg "range" = none
  z_repr : mg "repr" = none
  g__law_dice : mg "_law_dice" = some (.ref A.a__law_dice)
  F__law_dice : Fun K "_law_dice" "_law_dice" s__law_dice A.a__law_dice D.d__law_dice
  b__law_dice : Binds K D.d__law_dice ["_law_script", "_law_spot"] []
  g__law_roll : mg "_law_roll" = some (.ref A.a__law_roll)
  F__law_roll : Fun K "_law_roll" "_law_roll" s__law_roll A.a__law_roll D.d__law_roll
  b__law_roll : Binds K D.d__law_roll ["_law_dice_here", "_law_total"] []
  g__law_pick : mg "_law_pick" = some (.ref A.a__law_pick)
  F__law_pick : Fun K "_law_pick" "_law_pick" s__law_pick A.a__law_pick D.d__law_pick
  b__law_pick : Binds K D.d__law_pick ["_law_dice_here", "_law_items"] []
  F_NoQuotient___init__ : Fun K "__init__" "NoQuotient.__init__" s_NoQuotient___init__ A.a_NoQuotient___init__ D.d_NoQuotient___init__
  b_NoQuotient___init__ : Binds K D.d_NoQuotient___init__ ["self", "divisor"] []
  F_UnknownAddress___init__ : Fun K "__init__" "UnknownAddress.__init__" s_UnknownAddress___init__ A.a_UnknownAddress___init__ D.d_UnknownAddress___init__
  b_UnknownAddress___init__ : Binds K D.d_UnknownAddress___init__ ["self", "lost"] []
  g__law_own : mg "_law_own" = some (.ref A.a__law_own)
  F__law_own : Fun K "_law_own" "_law_own" s__law_own A.a__law_own D.d__law_own
  b__law_own : Binds K D.d__law_own ["_law_error"] []
  g__law_caught : mg "_law_caught" = some (.ref A.a__law_caught)
  F__law_caught : Fun K "_law_caught" "_law_caught" s__law_caught A.a__law_caught D.d__law_caught
  b__law_caught : Binds K D.d__law_caught ["_law_value", "_law_way"] []
  g__law_due_messages : mg "_law_due_messages" = some (.ref A.a__law_due_messages)
  F__law_due_messages : Fun K "_law_due_messages" "_law_due_messages" s__law_due_messages A.a__law_due_messages D.d__law_due_messages
  b__law_due_messages : Binds K D.d__law_due_messages [] []
  F_InvalidNumber___init__ : Fun K "__init__" "InvalidNumber.__init__" s_InvalidNumber___init__ A.a_InvalidNumber___init__ D.d_InvalidNumber___init__
  b_InvalidNumber___init__ : Binds K D.d_InvalidNumber___init__ ["self", "value"] []
  F_NothingToUndo___init__ : Fun K "__init__" "NothingToUndo.__init__" s_NothingToUndo___init__ A.a_NothingToUndo___init__ D.d_NothingToUndo___init__
  b_NothingToUndo___init__ : Binds K D.d_NothingToUndo___init__ ["self", "many"] []
  F_ParseError___init__ : Fun K "__init__" "ParseError.__init__" s_ParseError___init__ A.a_ParseError___init__ D.d_ParseError___init__
  b_ParseError___init__ : Binds K D.d_ParseError___init__ ["self", "number"] []
  F_Refused___init__ : Fun K "__init__" "Refused.__init__" s_Refused___init__ A.a_Refused___init__ D.d_Refused___init__
  b_Refused___init__ : Binds K D.d_Refused___init__ ["self", "pledge"] []
  F_TooMany___init__ : Fun K "__init__" "TooMany.__init__" s_TooMany___init__ A.a_TooMany___init__ D.d_TooMany___init__
  b_TooMany___init__ : Binds K D.d_TooMany___init__ ["self", "limit"] []
  F_UnknownLetter___init__ : Fun K "__init__" "UnknownLetter.__init__" s_UnknownLetter___init__ A.a_UnknownLetter___init__ D.d_UnknownLetter___init__
  b_UnknownLetter___init__ : Binds K D.d_UnknownLetter___init__ ["self", "word"] []
  g__law_all : mg "_law_all" = some (.ref A.a__law_all)
  F__law_all : Fun K "_law_all" "_law_all" s__law_all A.a__law_all D.d__law_all
  b__law_all : Binds K D.d__law_all ["_law_error"] []
  g__law_kept : mg "_law_kept" = some (.ref A.a__law_kept)
  F__law_kept : Fun K "_law_kept" "_law_kept" s__law_kept A.a__law_kept D.d__law_kept
  b__law_kept : Binds K D.d__law_kept ["_law_value", "_law_index"] []
  g__law_messages : mg "_law_messages" = some (.ref A.a__law_messages)
  F__law_messages : Fun K "_law_messages" "_law_messages" s__law_messages A.a__law_messages D.d__law_messages
  b__law_messages : Binds K D.d__law_messages [] []
  g__law_right : mg "_law_right" = some (.ref A.a__law_right)
  F__law_right : Fun K "_law_right" "_law_right" s__law_right A.a__law_right D.d__law_right
  b__law_right : Binds K D.d__law_right ["_law_value", "_law_index"] []
  g_law : mg "law" = some (.ref A.a_law)
  F_law : Fun K "law" "law" s_law A.a_law D.d_law
  b_law : Binds K D.d_law ["_law_script"] []
  g_LineError : mg "LineError" = some (.ref A.c_LineError)
  xa_LineError : ExcA K A.c_LineError
  g_InvalidGrid : mg "InvalidGrid" = some (.ref A.c_InvalidGrid)
  xa_InvalidGrid : ExcA K A.c_InvalidGrid
  g_InvalidPoint : mg "InvalidPoint" = some (.ref A.c_InvalidPoint)
  xa_InvalidPoint : ExcA K A.c_InvalidPoint
  g_InvalidRule : mg "InvalidRule" = some (.ref A.c_InvalidRule)
  xa_InvalidRule : ExcA K A.c_InvalidRule
  g_InvalidScheme : mg "InvalidScheme" = some (.ref A.c_InvalidScheme)
  xa_InvalidScheme : ExcA K A.c_InvalidScheme
  g_InvalidStand : mg "InvalidStand" = some (.ref A.c_InvalidStand)
  xa_InvalidStand : ExcA K A.c_InvalidStand
  g_InvalidPaper : mg "InvalidPaper" = some (.ref A.c_InvalidPaper)
  xa_InvalidPaper : ExcA K A.c_InvalidPaper
  g_InvalidOperation : mg "InvalidOperation" = some (.ref A.c_InvalidOperation)
  xa_InvalidOperation : ExcA K A.c_InvalidOperation
  g_ParseError : mg "ParseError" = some (.ref A.c_ParseError)
  xb_ParseError : ExcB K A.c_ParseError "number" A.a_ParseError___init__
  g_UnknownLetter : mg "UnknownLetter" = some (.ref A.c_UnknownLetter)
  xb_UnknownLetter : ExcB K A.c_UnknownLetter "word" A.a_UnknownLetter___init__
  g_UnknownAddress : mg "UnknownAddress" = some (.ref A.c_UnknownAddress)
  xb_UnknownAddress : ExcB K A.c_UnknownAddress "lost" A.a_UnknownAddress___init__
  g_InvalidNumber : mg "InvalidNumber" = some (.ref A.c_InvalidNumber)
  xb_InvalidNumber : ExcB K A.c_InvalidNumber "value" A.a_InvalidNumber___init__
  g_NothingToUndo : mg "NothingToUndo" = some (.ref A.c_NothingToUndo)
  xb_NothingToUndo : ExcB K A.c_NothingToUndo "many" A.a_NothingToUndo___init__
  g_TooMany : mg "TooMany" = some (.ref A.c_TooMany)
  xb_TooMany : ExcB K A.c_TooMany "limit" A.a_TooMany___init__
  g_Refused : mg "Refused" = some (.ref A.c_Refused)
  xb_Refused : ExcB K A.c_Refused "pledge" A.a_Refused___init__
  g_NoQuotient : mg "NoQuotient" = some (.ref A.c_NoQuotient)
  xb_NoQuotient : ExcB K A.c_NoQuotient "divisor" A.a_NoQuotient___init__
  xe_LineError : ExcC K A.c_LineError
  xj_LineError_InvalidGrid : PySem.W.kitOne K (.ref A.c_LineError) (.ref A.c_InvalidGrid) = some false
  xj_LineError_InvalidPoint : PySem.W.kitOne K (.ref A.c_LineError) (.ref A.c_InvalidPoint) = some false
  xj_LineError_InvalidRule : PySem.W.kitOne K (.ref A.c_LineError) (.ref A.c_InvalidRule) = some false
  xj_LineError_InvalidScheme : PySem.W.kitOne K (.ref A.c_LineError) (.ref A.c_InvalidScheme) = some false
  xj_LineError_InvalidStand : PySem.W.kitOne K (.ref A.c_LineError) (.ref A.c_InvalidStand) = some false
  xj_LineError_InvalidPaper : PySem.W.kitOne K (.ref A.c_LineError) (.ref A.c_InvalidPaper) = some false
  xj_LineError_InvalidOperation : PySem.W.kitOne K (.ref A.c_LineError) (.ref A.c_InvalidOperation) = some false
  xj_LineError_ParseError : PySem.W.kitOne K (.ref A.c_LineError) (.ref A.c_ParseError) = some false
  xj_LineError_UnknownLetter : PySem.W.kitOne K (.ref A.c_LineError) (.ref A.c_UnknownLetter) = some false
  xj_LineError_UnknownAddress : PySem.W.kitOne K (.ref A.c_LineError) (.ref A.c_UnknownAddress) = some false
  xj_LineError_InvalidNumber : PySem.W.kitOne K (.ref A.c_LineError) (.ref A.c_InvalidNumber) = some false
  xj_LineError_NothingToUndo : PySem.W.kitOne K (.ref A.c_LineError) (.ref A.c_NothingToUndo) = some false
  xj_LineError_TooMany : PySem.W.kitOne K (.ref A.c_LineError) (.ref A.c_TooMany) = some false
  xj_LineError_Refused : PySem.W.kitOne K (.ref A.c_LineError) (.ref A.c_Refused) = some false
  xj_LineError_NoQuotient : PySem.W.kitOne K (.ref A.c_LineError) (.ref A.c_NoQuotient) = some false
  xj_LineError_LineError : PySem.W.kitOne K (.ref A.c_LineError) (.ref A.c_LineError) = some true
  xj_LineError_ValueError : PySem.W.kitOne K (.ref A.c_LineError) (.type "ValueError") = some true
  xj_LineError_KeyError : PySem.W.kitOne K (.ref A.c_LineError) (.type "KeyError") = some false
  xj_LineError_IndexError : PySem.W.kitOne K (.ref A.c_LineError) (.type "IndexError") = some false
  xj_LineError_LookupError : PySem.W.kitOne K (.ref A.c_LineError) (.type "LookupError") = some false
  xj_LineError_RuntimeError : PySem.W.kitOne K (.ref A.c_LineError) (.type "RuntimeError") = some false
  xj_LineError_OverflowError : PySem.W.kitOne K (.ref A.c_LineError) (.type "OverflowError") = some false
  xj_LineError_ZeroDivisionError : PySem.W.kitOne K (.ref A.c_LineError) (.type "ZeroDivisionError") = some false
  xj_LineError_ArithmeticError : PySem.W.kitOne K (.ref A.c_LineError) (.type "ArithmeticError") = some false
  xe_InvalidGrid : ExcC K A.c_InvalidGrid
  xj_InvalidGrid_InvalidGrid : PySem.W.kitOne K (.ref A.c_InvalidGrid) (.ref A.c_InvalidGrid) = some true
  xj_InvalidGrid_InvalidPoint : PySem.W.kitOne K (.ref A.c_InvalidGrid) (.ref A.c_InvalidPoint) = some false
  xj_InvalidGrid_InvalidRule : PySem.W.kitOne K (.ref A.c_InvalidGrid) (.ref A.c_InvalidRule) = some false
  xj_InvalidGrid_InvalidScheme : PySem.W.kitOne K (.ref A.c_InvalidGrid) (.ref A.c_InvalidScheme) = some false
  xj_InvalidGrid_InvalidStand : PySem.W.kitOne K (.ref A.c_InvalidGrid) (.ref A.c_InvalidStand) = some false
  xj_InvalidGrid_InvalidPaper : PySem.W.kitOne K (.ref A.c_InvalidGrid) (.ref A.c_InvalidPaper) = some false
  xj_InvalidGrid_InvalidOperation : PySem.W.kitOne K (.ref A.c_InvalidGrid) (.ref A.c_InvalidOperation) = some false
  xj_InvalidGrid_ParseError : PySem.W.kitOne K (.ref A.c_InvalidGrid) (.ref A.c_ParseError) = some false
  xj_InvalidGrid_UnknownLetter : PySem.W.kitOne K (.ref A.c_InvalidGrid) (.ref A.c_UnknownLetter) = some false
  xj_InvalidGrid_UnknownAddress : PySem.W.kitOne K (.ref A.c_InvalidGrid) (.ref A.c_UnknownAddress) = some false
  xj_InvalidGrid_InvalidNumber : PySem.W.kitOne K (.ref A.c_InvalidGrid) (.ref A.c_InvalidNumber) = some false
  xj_InvalidGrid_NothingToUndo : PySem.W.kitOne K (.ref A.c_InvalidGrid) (.ref A.c_NothingToUndo) = some false
  xj_InvalidGrid_TooMany : PySem.W.kitOne K (.ref A.c_InvalidGrid) (.ref A.c_TooMany) = some false
  xj_InvalidGrid_Refused : PySem.W.kitOne K (.ref A.c_InvalidGrid) (.ref A.c_Refused) = some false
  xj_InvalidGrid_NoQuotient : PySem.W.kitOne K (.ref A.c_InvalidGrid) (.ref A.c_NoQuotient) = some false
  xj_InvalidGrid_LineError : PySem.W.kitOne K (.ref A.c_InvalidGrid) (.ref A.c_LineError) = some true
  xj_InvalidGrid_ValueError : PySem.W.kitOne K (.ref A.c_InvalidGrid) (.type "ValueError") = some true
  xj_InvalidGrid_KeyError : PySem.W.kitOne K (.ref A.c_InvalidGrid) (.type "KeyError") = some false
  xj_InvalidGrid_IndexError : PySem.W.kitOne K (.ref A.c_InvalidGrid) (.type "IndexError") = some false
  xj_InvalidGrid_LookupError : PySem.W.kitOne K (.ref A.c_InvalidGrid) (.type "LookupError") = some false
  xj_InvalidGrid_RuntimeError : PySem.W.kitOne K (.ref A.c_InvalidGrid) (.type "RuntimeError") = some false
  xj_InvalidGrid_OverflowError : PySem.W.kitOne K (.ref A.c_InvalidGrid) (.type "OverflowError") = some false
  xj_InvalidGrid_ZeroDivisionError : PySem.W.kitOne K (.ref A.c_InvalidGrid) (.type "ZeroDivisionError") = some false
  xj_InvalidGrid_ArithmeticError : PySem.W.kitOne K (.ref A.c_InvalidGrid) (.type "ArithmeticError") = some false
  xe_InvalidPoint : ExcC K A.c_InvalidPoint
  xj_InvalidPoint_InvalidGrid : PySem.W.kitOne K (.ref A.c_InvalidPoint) (.ref A.c_InvalidGrid) = some false
  xj_InvalidPoint_InvalidPoint : PySem.W.kitOne K (.ref A.c_InvalidPoint) (.ref A.c_InvalidPoint) = some true
  xj_InvalidPoint_InvalidRule : PySem.W.kitOne K (.ref A.c_InvalidPoint) (.ref A.c_InvalidRule) = some false
  xj_InvalidPoint_InvalidScheme : PySem.W.kitOne K (.ref A.c_InvalidPoint) (.ref A.c_InvalidScheme) = some false
  xj_InvalidPoint_InvalidStand : PySem.W.kitOne K (.ref A.c_InvalidPoint) (.ref A.c_InvalidStand) = some false
  xj_InvalidPoint_InvalidPaper : PySem.W.kitOne K (.ref A.c_InvalidPoint) (.ref A.c_InvalidPaper) = some false
  xj_InvalidPoint_InvalidOperation : PySem.W.kitOne K (.ref A.c_InvalidPoint) (.ref A.c_InvalidOperation) = some false
  xj_InvalidPoint_ParseError : PySem.W.kitOne K (.ref A.c_InvalidPoint) (.ref A.c_ParseError) = some false
  xj_InvalidPoint_UnknownLetter : PySem.W.kitOne K (.ref A.c_InvalidPoint) (.ref A.c_UnknownLetter) = some false
  xj_InvalidPoint_UnknownAddress : PySem.W.kitOne K (.ref A.c_InvalidPoint) (.ref A.c_UnknownAddress) = some false
  xj_InvalidPoint_InvalidNumber : PySem.W.kitOne K (.ref A.c_InvalidPoint) (.ref A.c_InvalidNumber) = some false
  xj_InvalidPoint_NothingToUndo : PySem.W.kitOne K (.ref A.c_InvalidPoint) (.ref A.c_NothingToUndo) = some false
  xj_InvalidPoint_TooMany : PySem.W.kitOne K (.ref A.c_InvalidPoint) (.ref A.c_TooMany) = some false
  xj_InvalidPoint_Refused : PySem.W.kitOne K (.ref A.c_InvalidPoint) (.ref A.c_Refused) = some false
  xj_InvalidPoint_NoQuotient : PySem.W.kitOne K (.ref A.c_InvalidPoint) (.ref A.c_NoQuotient) = some false
  xj_InvalidPoint_LineError : PySem.W.kitOne K (.ref A.c_InvalidPoint) (.ref A.c_LineError) = some true
  xj_InvalidPoint_ValueError : PySem.W.kitOne K (.ref A.c_InvalidPoint) (.type "ValueError") = some true
  xj_InvalidPoint_KeyError : PySem.W.kitOne K (.ref A.c_InvalidPoint) (.type "KeyError") = some false
  xj_InvalidPoint_IndexError : PySem.W.kitOne K (.ref A.c_InvalidPoint) (.type "IndexError") = some false
  xj_InvalidPoint_LookupError : PySem.W.kitOne K (.ref A.c_InvalidPoint) (.type "LookupError") = some false
  xj_InvalidPoint_RuntimeError : PySem.W.kitOne K (.ref A.c_InvalidPoint) (.type "RuntimeError") = some false
  xj_InvalidPoint_OverflowError : PySem.W.kitOne K (.ref A.c_InvalidPoint) (.type "OverflowError") = some false
  xj_InvalidPoint_ZeroDivisionError : PySem.W.kitOne K (.ref A.c_InvalidPoint) (.type "ZeroDivisionError") = some false
  xj_InvalidPoint_ArithmeticError : PySem.W.kitOne K (.ref A.c_InvalidPoint) (.type "ArithmeticError") = some false
  xe_InvalidRule : ExcC K A.c_InvalidRule
  xj_InvalidRule_InvalidGrid : PySem.W.kitOne K (.ref A.c_InvalidRule) (.ref A.c_InvalidGrid) = some false
  xj_InvalidRule_InvalidPoint : PySem.W.kitOne K (.ref A.c_InvalidRule) (.ref A.c_InvalidPoint) = some false
  xj_InvalidRule_InvalidRule : PySem.W.kitOne K (.ref A.c_InvalidRule) (.ref A.c_InvalidRule) = some true
  xj_InvalidRule_InvalidScheme : PySem.W.kitOne K (.ref A.c_InvalidRule) (.ref A.c_InvalidScheme) = some false
  xj_InvalidRule_InvalidStand : PySem.W.kitOne K (.ref A.c_InvalidRule) (.ref A.c_InvalidStand) = some false
  xj_InvalidRule_InvalidPaper : PySem.W.kitOne K (.ref A.c_InvalidRule) (.ref A.c_InvalidPaper) = some false
  xj_InvalidRule_InvalidOperation : PySem.W.kitOne K (.ref A.c_InvalidRule) (.ref A.c_InvalidOperation) = some false
  xj_InvalidRule_ParseError : PySem.W.kitOne K (.ref A.c_InvalidRule) (.ref A.c_ParseError) = some false
  xj_InvalidRule_UnknownLetter : PySem.W.kitOne K (.ref A.c_InvalidRule) (.ref A.c_UnknownLetter) = some false
  xj_InvalidRule_UnknownAddress : PySem.W.kitOne K (.ref A.c_InvalidRule) (.ref A.c_UnknownAddress) = some false
  xj_InvalidRule_InvalidNumber : PySem.W.kitOne K (.ref A.c_InvalidRule) (.ref A.c_InvalidNumber) = some false
  xj_InvalidRule_NothingToUndo : PySem.W.kitOne K (.ref A.c_InvalidRule) (.ref A.c_NothingToUndo) = some false
  xj_InvalidRule_TooMany : PySem.W.kitOne K (.ref A.c_InvalidRule) (.ref A.c_TooMany) = some false
  xj_InvalidRule_Refused : PySem.W.kitOne K (.ref A.c_InvalidRule) (.ref A.c_Refused) = some false
  xj_InvalidRule_NoQuotient : PySem.W.kitOne K (.ref A.c_InvalidRule) (.ref A.c_NoQuotient) = some false
  xj_InvalidRule_LineError : PySem.W.kitOne K (.ref A.c_InvalidRule) (.ref A.c_LineError) = some true
  xj_InvalidRule_ValueError : PySem.W.kitOne K (.ref A.c_InvalidRule) (.type "ValueError") = some true
  xj_InvalidRule_KeyError : PySem.W.kitOne K (.ref A.c_InvalidRule) (.type "KeyError") = some false
  xj_InvalidRule_IndexError : PySem.W.kitOne K (.ref A.c_InvalidRule) (.type "IndexError") = some false
  xj_InvalidRule_LookupError : PySem.W.kitOne K (.ref A.c_InvalidRule) (.type "LookupError") = some false
  xj_InvalidRule_RuntimeError : PySem.W.kitOne K (.ref A.c_InvalidRule) (.type "RuntimeError") = some false
  xj_InvalidRule_OverflowError : PySem.W.kitOne K (.ref A.c_InvalidRule) (.type "OverflowError") = some false
  xj_InvalidRule_ZeroDivisionError : PySem.W.kitOne K (.ref A.c_InvalidRule) (.type "ZeroDivisionError") = some false
  xj_InvalidRule_ArithmeticError : PySem.W.kitOne K (.ref A.c_InvalidRule) (.type "ArithmeticError") = some false
  xe_InvalidScheme : ExcC K A.c_InvalidScheme
  xj_InvalidScheme_InvalidGrid : PySem.W.kitOne K (.ref A.c_InvalidScheme) (.ref A.c_InvalidGrid) = some false
  xj_InvalidScheme_InvalidPoint : PySem.W.kitOne K (.ref A.c_InvalidScheme) (.ref A.c_InvalidPoint) = some false
  xj_InvalidScheme_InvalidRule : PySem.W.kitOne K (.ref A.c_InvalidScheme) (.ref A.c_InvalidRule) = some false
  xj_InvalidScheme_InvalidScheme : PySem.W.kitOne K (.ref A.c_InvalidScheme) (.ref A.c_InvalidScheme) = some true
  xj_InvalidScheme_InvalidStand : PySem.W.kitOne K (.ref A.c_InvalidScheme) (.ref A.c_InvalidStand) = some false
  xj_InvalidScheme_InvalidPaper : PySem.W.kitOne K (.ref A.c_InvalidScheme) (.ref A.c_InvalidPaper) = some false
  xj_InvalidScheme_InvalidOperation : PySem.W.kitOne K (.ref A.c_InvalidScheme) (.ref A.c_InvalidOperation) = some false
  xj_InvalidScheme_ParseError : PySem.W.kitOne K (.ref A.c_InvalidScheme) (.ref A.c_ParseError) = some false
  xj_InvalidScheme_UnknownLetter : PySem.W.kitOne K (.ref A.c_InvalidScheme) (.ref A.c_UnknownLetter) = some false
  xj_InvalidScheme_UnknownAddress : PySem.W.kitOne K (.ref A.c_InvalidScheme) (.ref A.c_UnknownAddress) = some false
  xj_InvalidScheme_InvalidNumber : PySem.W.kitOne K (.ref A.c_InvalidScheme) (.ref A.c_InvalidNumber) = some false
  xj_InvalidScheme_NothingToUndo : PySem.W.kitOne K (.ref A.c_InvalidScheme) (.ref A.c_NothingToUndo) = some false
  xj_InvalidScheme_TooMany : PySem.W.kitOne K (.ref A.c_InvalidScheme) (.ref A.c_TooMany) = some false
  xj_InvalidScheme_Refused : PySem.W.kitOne K (.ref A.c_InvalidScheme) (.ref A.c_Refused) = some false
  xj_InvalidScheme_NoQuotient : PySem.W.kitOne K (.ref A.c_InvalidScheme) (.ref A.c_NoQuotient) = some false
  xj_InvalidScheme_LineError : PySem.W.kitOne K (.ref A.c_InvalidScheme) (.ref A.c_LineError) = some true
  xj_InvalidScheme_ValueError : PySem.W.kitOne K (.ref A.c_InvalidScheme) (.type "ValueError") = some true
  xj_InvalidScheme_KeyError : PySem.W.kitOne K (.ref A.c_InvalidScheme) (.type "KeyError") = some false
  xj_InvalidScheme_IndexError : PySem.W.kitOne K (.ref A.c_InvalidScheme) (.type "IndexError") = some false
  xj_InvalidScheme_LookupError : PySem.W.kitOne K (.ref A.c_InvalidScheme) (.type "LookupError") = some false
  xj_InvalidScheme_RuntimeError : PySem.W.kitOne K (.ref A.c_InvalidScheme) (.type "RuntimeError") = some false
  xj_InvalidScheme_OverflowError : PySem.W.kitOne K (.ref A.c_InvalidScheme) (.type "OverflowError") = some false
  xj_InvalidScheme_ZeroDivisionError : PySem.W.kitOne K (.ref A.c_InvalidScheme) (.type "ZeroDivisionError") = some false
  xj_InvalidScheme_ArithmeticError : PySem.W.kitOne K (.ref A.c_InvalidScheme) (.type "ArithmeticError") = some false
  xe_InvalidStand : ExcC K A.c_InvalidStand
  xj_InvalidStand_InvalidGrid : PySem.W.kitOne K (.ref A.c_InvalidStand) (.ref A.c_InvalidGrid) = some false
  xj_InvalidStand_InvalidPoint : PySem.W.kitOne K (.ref A.c_InvalidStand) (.ref A.c_InvalidPoint) = some false
  xj_InvalidStand_InvalidRule : PySem.W.kitOne K (.ref A.c_InvalidStand) (.ref A.c_InvalidRule) = some false
  xj_InvalidStand_InvalidScheme : PySem.W.kitOne K (.ref A.c_InvalidStand) (.ref A.c_InvalidScheme) = some false
  xj_InvalidStand_InvalidStand : PySem.W.kitOne K (.ref A.c_InvalidStand) (.ref A.c_InvalidStand) = some true
  xj_InvalidStand_InvalidPaper : PySem.W.kitOne K (.ref A.c_InvalidStand) (.ref A.c_InvalidPaper) = some false
  xj_InvalidStand_InvalidOperation : PySem.W.kitOne K (.ref A.c_InvalidStand) (.ref A.c_InvalidOperation) = some false
  xj_InvalidStand_ParseError : PySem.W.kitOne K (.ref A.c_InvalidStand) (.ref A.c_ParseError) = some false
  xj_InvalidStand_UnknownLetter : PySem.W.kitOne K (.ref A.c_InvalidStand) (.ref A.c_UnknownLetter) = some false
  xj_InvalidStand_UnknownAddress : PySem.W.kitOne K (.ref A.c_InvalidStand) (.ref A.c_UnknownAddress) = some false
  xj_InvalidStand_InvalidNumber : PySem.W.kitOne K (.ref A.c_InvalidStand) (.ref A.c_InvalidNumber) = some false
  xj_InvalidStand_NothingToUndo : PySem.W.kitOne K (.ref A.c_InvalidStand) (.ref A.c_NothingToUndo) = some false
  xj_InvalidStand_TooMany : PySem.W.kitOne K (.ref A.c_InvalidStand) (.ref A.c_TooMany) = some false
  xj_InvalidStand_Refused : PySem.W.kitOne K (.ref A.c_InvalidStand) (.ref A.c_Refused) = some false
  xj_InvalidStand_NoQuotient : PySem.W.kitOne K (.ref A.c_InvalidStand) (.ref A.c_NoQuotient) = some false
  xj_InvalidStand_LineError : PySem.W.kitOne K (.ref A.c_InvalidStand) (.ref A.c_LineError) = some true
  xj_InvalidStand_ValueError : PySem.W.kitOne K (.ref A.c_InvalidStand) (.type "ValueError") = some true
  xj_InvalidStand_KeyError : PySem.W.kitOne K (.ref A.c_InvalidStand) (.type "KeyError") = some false
  xj_InvalidStand_IndexError : PySem.W.kitOne K (.ref A.c_InvalidStand) (.type "IndexError") = some false
  xj_InvalidStand_LookupError : PySem.W.kitOne K (.ref A.c_InvalidStand) (.type "LookupError") = some false
  xj_InvalidStand_RuntimeError : PySem.W.kitOne K (.ref A.c_InvalidStand) (.type "RuntimeError") = some false
  xj_InvalidStand_OverflowError : PySem.W.kitOne K (.ref A.c_InvalidStand) (.type "OverflowError") = some false
  xj_InvalidStand_ZeroDivisionError : PySem.W.kitOne K (.ref A.c_InvalidStand) (.type "ZeroDivisionError") = some false
  xj_InvalidStand_ArithmeticError : PySem.W.kitOne K (.ref A.c_InvalidStand) (.type "ArithmeticError") = some false
  xe_InvalidPaper : ExcC K A.c_InvalidPaper
  xj_InvalidPaper_InvalidGrid : PySem.W.kitOne K (.ref A.c_InvalidPaper) (.ref A.c_InvalidGrid) = some false
  xj_InvalidPaper_InvalidPoint : PySem.W.kitOne K (.ref A.c_InvalidPaper) (.ref A.c_InvalidPoint) = some false
  xj_InvalidPaper_InvalidRule : PySem.W.kitOne K (.ref A.c_InvalidPaper) (.ref A.c_InvalidRule) = some false
  xj_InvalidPaper_InvalidScheme : PySem.W.kitOne K (.ref A.c_InvalidPaper) (.ref A.c_InvalidScheme) = some false
  xj_InvalidPaper_InvalidStand : PySem.W.kitOne K (.ref A.c_InvalidPaper) (.ref A.c_InvalidStand) = some false
  xj_InvalidPaper_InvalidPaper : PySem.W.kitOne K (.ref A.c_InvalidPaper) (.ref A.c_InvalidPaper) = some true
  xj_InvalidPaper_InvalidOperation : PySem.W.kitOne K (.ref A.c_InvalidPaper) (.ref A.c_InvalidOperation) = some false
  xj_InvalidPaper_ParseError : PySem.W.kitOne K (.ref A.c_InvalidPaper) (.ref A.c_ParseError) = some false
  xj_InvalidPaper_UnknownLetter : PySem.W.kitOne K (.ref A.c_InvalidPaper) (.ref A.c_UnknownLetter) = some false
  xj_InvalidPaper_UnknownAddress : PySem.W.kitOne K (.ref A.c_InvalidPaper) (.ref A.c_UnknownAddress) = some false
  xj_InvalidPaper_InvalidNumber : PySem.W.kitOne K (.ref A.c_InvalidPaper) (.ref A.c_InvalidNumber) = some false
  xj_InvalidPaper_NothingToUndo : PySem.W.kitOne K (.ref A.c_InvalidPaper) (.ref A.c_NothingToUndo) = some false
  xj_InvalidPaper_TooMany : PySem.W.kitOne K (.ref A.c_InvalidPaper) (.ref A.c_TooMany) = some false
  xj_InvalidPaper_Refused : PySem.W.kitOne K (.ref A.c_InvalidPaper) (.ref A.c_Refused) = some false
  xj_InvalidPaper_NoQuotient : PySem.W.kitOne K (.ref A.c_InvalidPaper) (.ref A.c_NoQuotient) = some false
  xj_InvalidPaper_LineError : PySem.W.kitOne K (.ref A.c_InvalidPaper) (.ref A.c_LineError) = some true
  xj_InvalidPaper_ValueError : PySem.W.kitOne K (.ref A.c_InvalidPaper) (.type "ValueError") = some true
  xj_InvalidPaper_KeyError : PySem.W.kitOne K (.ref A.c_InvalidPaper) (.type "KeyError") = some false
  xj_InvalidPaper_IndexError : PySem.W.kitOne K (.ref A.c_InvalidPaper) (.type "IndexError") = some false
  xj_InvalidPaper_LookupError : PySem.W.kitOne K (.ref A.c_InvalidPaper) (.type "LookupError") = some false
  xj_InvalidPaper_RuntimeError : PySem.W.kitOne K (.ref A.c_InvalidPaper) (.type "RuntimeError") = some false
  xj_InvalidPaper_OverflowError : PySem.W.kitOne K (.ref A.c_InvalidPaper) (.type "OverflowError") = some false
  xj_InvalidPaper_ZeroDivisionError : PySem.W.kitOne K (.ref A.c_InvalidPaper) (.type "ZeroDivisionError") = some false
  xj_InvalidPaper_ArithmeticError : PySem.W.kitOne K (.ref A.c_InvalidPaper) (.type "ArithmeticError") = some false
  xe_InvalidOperation : ExcC K A.c_InvalidOperation
  xj_InvalidOperation_InvalidGrid : PySem.W.kitOne K (.ref A.c_InvalidOperation) (.ref A.c_InvalidGrid) = some false
  xj_InvalidOperation_InvalidPoint : PySem.W.kitOne K (.ref A.c_InvalidOperation) (.ref A.c_InvalidPoint) = some false
  xj_InvalidOperation_InvalidRule : PySem.W.kitOne K (.ref A.c_InvalidOperation) (.ref A.c_InvalidRule) = some false
  xj_InvalidOperation_InvalidScheme : PySem.W.kitOne K (.ref A.c_InvalidOperation) (.ref A.c_InvalidScheme) = some false
  xj_InvalidOperation_InvalidStand : PySem.W.kitOne K (.ref A.c_InvalidOperation) (.ref A.c_InvalidStand) = some false
  xj_InvalidOperation_InvalidPaper : PySem.W.kitOne K (.ref A.c_InvalidOperation) (.ref A.c_InvalidPaper) = some false
  xj_InvalidOperation_InvalidOperation : PySem.W.kitOne K (.ref A.c_InvalidOperation) (.ref A.c_InvalidOperation) = some true
  xj_InvalidOperation_ParseError : PySem.W.kitOne K (.ref A.c_InvalidOperation) (.ref A.c_ParseError) = some false
  xj_InvalidOperation_UnknownLetter : PySem.W.kitOne K (.ref A.c_InvalidOperation) (.ref A.c_UnknownLetter) = some false
  xj_InvalidOperation_UnknownAddress : PySem.W.kitOne K (.ref A.c_InvalidOperation) (.ref A.c_UnknownAddress) = some false
  xj_InvalidOperation_InvalidNumber : PySem.W.kitOne K (.ref A.c_InvalidOperation) (.ref A.c_InvalidNumber) = some false
  xj_InvalidOperation_NothingToUndo : PySem.W.kitOne K (.ref A.c_InvalidOperation) (.ref A.c_NothingToUndo) = some false
  xj_InvalidOperation_TooMany : PySem.W.kitOne K (.ref A.c_InvalidOperation) (.ref A.c_TooMany) = some false
  xj_InvalidOperation_Refused : PySem.W.kitOne K (.ref A.c_InvalidOperation) (.ref A.c_Refused) = some false
  xj_InvalidOperation_NoQuotient : PySem.W.kitOne K (.ref A.c_InvalidOperation) (.ref A.c_NoQuotient) = some false
  xj_InvalidOperation_LineError : PySem.W.kitOne K (.ref A.c_InvalidOperation) (.ref A.c_LineError) = some true
  xj_InvalidOperation_ValueError : PySem.W.kitOne K (.ref A.c_InvalidOperation) (.type "ValueError") = some true
  xj_InvalidOperation_KeyError : PySem.W.kitOne K (.ref A.c_InvalidOperation) (.type "KeyError") = some false
  xj_InvalidOperation_IndexError : PySem.W.kitOne K (.ref A.c_InvalidOperation) (.type "IndexError") = some false
  xj_InvalidOperation_LookupError : PySem.W.kitOne K (.ref A.c_InvalidOperation) (.type "LookupError") = some false
  xj_InvalidOperation_RuntimeError : PySem.W.kitOne K (.ref A.c_InvalidOperation) (.type "RuntimeError") = some false
  xj_InvalidOperation_OverflowError : PySem.W.kitOne K (.ref A.c_InvalidOperation) (.type "OverflowError") = some false
  xj_InvalidOperation_ZeroDivisionError : PySem.W.kitOne K (.ref A.c_InvalidOperation) (.type "ZeroDivisionError") = some false
  xj_InvalidOperation_ArithmeticError : PySem.W.kitOne K (.ref A.c_InvalidOperation) (.type "ArithmeticError") = some false
  xe_ParseError : ExcC K A.c_ParseError
  xj_ParseError_InvalidGrid : PySem.W.kitOne K (.ref A.c_ParseError) (.ref A.c_InvalidGrid) = some false
  xj_ParseError_InvalidPoint : PySem.W.kitOne K (.ref A.c_ParseError) (.ref A.c_InvalidPoint) = some false
  xj_ParseError_InvalidRule : PySem.W.kitOne K (.ref A.c_ParseError) (.ref A.c_InvalidRule) = some false
  xj_ParseError_InvalidScheme : PySem.W.kitOne K (.ref A.c_ParseError) (.ref A.c_InvalidScheme) = some false
  xj_ParseError_InvalidStand : PySem.W.kitOne K (.ref A.c_ParseError) (.ref A.c_InvalidStand) = some false
  xj_ParseError_InvalidPaper : PySem.W.kitOne K (.ref A.c_ParseError) (.ref A.c_InvalidPaper) = some false
  xj_ParseError_InvalidOperation : PySem.W.kitOne K (.ref A.c_ParseError) (.ref A.c_InvalidOperation) = some false
  xj_ParseError_ParseError : PySem.W.kitOne K (.ref A.c_ParseError) (.ref A.c_ParseError) = some true
  xj_ParseError_UnknownLetter : PySem.W.kitOne K (.ref A.c_ParseError) (.ref A.c_UnknownLetter) = some false
  xj_ParseError_UnknownAddress : PySem.W.kitOne K (.ref A.c_ParseError) (.ref A.c_UnknownAddress) = some false
  xj_ParseError_InvalidNumber : PySem.W.kitOne K (.ref A.c_ParseError) (.ref A.c_InvalidNumber) = some false
  xj_ParseError_NothingToUndo : PySem.W.kitOne K (.ref A.c_ParseError) (.ref A.c_NothingToUndo) = some false
  xj_ParseError_TooMany : PySem.W.kitOne K (.ref A.c_ParseError) (.ref A.c_TooMany) = some false
  xj_ParseError_Refused : PySem.W.kitOne K (.ref A.c_ParseError) (.ref A.c_Refused) = some false
  xj_ParseError_NoQuotient : PySem.W.kitOne K (.ref A.c_ParseError) (.ref A.c_NoQuotient) = some false
  xj_ParseError_LineError : PySem.W.kitOne K (.ref A.c_ParseError) (.ref A.c_LineError) = some true
  xj_ParseError_ValueError : PySem.W.kitOne K (.ref A.c_ParseError) (.type "ValueError") = some true
  xj_ParseError_KeyError : PySem.W.kitOne K (.ref A.c_ParseError) (.type "KeyError") = some false
  xj_ParseError_IndexError : PySem.W.kitOne K (.ref A.c_ParseError) (.type "IndexError") = some false
  xj_ParseError_LookupError : PySem.W.kitOne K (.ref A.c_ParseError) (.type "LookupError") = some false
  xj_ParseError_RuntimeError : PySem.W.kitOne K (.ref A.c_ParseError) (.type "RuntimeError") = some false
  xj_ParseError_OverflowError : PySem.W.kitOne K (.ref A.c_ParseError) (.type "OverflowError") = some false
  xj_ParseError_ZeroDivisionError : PySem.W.kitOne K (.ref A.c_ParseError) (.type "ZeroDivisionError") = some false
  xj_ParseError_ArithmeticError : PySem.W.kitOne K (.ref A.c_ParseError) (.type "ArithmeticError") = some false
  xe_UnknownLetter : ExcC K A.c_UnknownLetter
  xj_UnknownLetter_InvalidGrid : PySem.W.kitOne K (.ref A.c_UnknownLetter) (.ref A.c_InvalidGrid) = some false
  xj_UnknownLetter_InvalidPoint : PySem.W.kitOne K (.ref A.c_UnknownLetter) (.ref A.c_InvalidPoint) = some false
  xj_UnknownLetter_InvalidRule : PySem.W.kitOne K (.ref A.c_UnknownLetter) (.ref A.c_InvalidRule) = some false
  xj_UnknownLetter_InvalidScheme : PySem.W.kitOne K (.ref A.c_UnknownLetter) (.ref A.c_InvalidScheme) = some false
  xj_UnknownLetter_InvalidStand : PySem.W.kitOne K (.ref A.c_UnknownLetter) (.ref A.c_InvalidStand) = some false
  xj_UnknownLetter_InvalidPaper : PySem.W.kitOne K (.ref A.c_UnknownLetter) (.ref A.c_InvalidPaper) = some false
  xj_UnknownLetter_InvalidOperation : PySem.W.kitOne K (.ref A.c_UnknownLetter) (.ref A.c_InvalidOperation) = some false
  xj_UnknownLetter_ParseError : PySem.W.kitOne K (.ref A.c_UnknownLetter) (.ref A.c_ParseError) = some false
  xj_UnknownLetter_UnknownLetter : PySem.W.kitOne K (.ref A.c_UnknownLetter) (.ref A.c_UnknownLetter) = some true
  xj_UnknownLetter_UnknownAddress : PySem.W.kitOne K (.ref A.c_UnknownLetter) (.ref A.c_UnknownAddress) = some false
  xj_UnknownLetter_InvalidNumber : PySem.W.kitOne K (.ref A.c_UnknownLetter) (.ref A.c_InvalidNumber) = some false
  xj_UnknownLetter_NothingToUndo : PySem.W.kitOne K (.ref A.c_UnknownLetter) (.ref A.c_NothingToUndo) = some false
  xj_UnknownLetter_TooMany : PySem.W.kitOne K (.ref A.c_UnknownLetter) (.ref A.c_TooMany) = some false
  xj_UnknownLetter_Refused : PySem.W.kitOne K (.ref A.c_UnknownLetter) (.ref A.c_Refused) = some false
  xj_UnknownLetter_NoQuotient : PySem.W.kitOne K (.ref A.c_UnknownLetter) (.ref A.c_NoQuotient) = some false
  xj_UnknownLetter_LineError : PySem.W.kitOne K (.ref A.c_UnknownLetter) (.ref A.c_LineError) = some false
  xj_UnknownLetter_ValueError : PySem.W.kitOne K (.ref A.c_UnknownLetter) (.type "ValueError") = some false
  xj_UnknownLetter_KeyError : PySem.W.kitOne K (.ref A.c_UnknownLetter) (.type "KeyError") = some true
  xj_UnknownLetter_IndexError : PySem.W.kitOne K (.ref A.c_UnknownLetter) (.type "IndexError") = some false
  xj_UnknownLetter_LookupError : PySem.W.kitOne K (.ref A.c_UnknownLetter) (.type "LookupError") = some true
  xj_UnknownLetter_RuntimeError : PySem.W.kitOne K (.ref A.c_UnknownLetter) (.type "RuntimeError") = some false
  xj_UnknownLetter_OverflowError : PySem.W.kitOne K (.ref A.c_UnknownLetter) (.type "OverflowError") = some false
  xj_UnknownLetter_ZeroDivisionError : PySem.W.kitOne K (.ref A.c_UnknownLetter) (.type "ZeroDivisionError") = some false
  xj_UnknownLetter_ArithmeticError : PySem.W.kitOne K (.ref A.c_UnknownLetter) (.type "ArithmeticError") = some false
  xe_UnknownAddress : ExcC K A.c_UnknownAddress
  xj_UnknownAddress_InvalidGrid : PySem.W.kitOne K (.ref A.c_UnknownAddress) (.ref A.c_InvalidGrid) = some false
  xj_UnknownAddress_InvalidPoint : PySem.W.kitOne K (.ref A.c_UnknownAddress) (.ref A.c_InvalidPoint) = some false
  xj_UnknownAddress_InvalidRule : PySem.W.kitOne K (.ref A.c_UnknownAddress) (.ref A.c_InvalidRule) = some false
  xj_UnknownAddress_InvalidScheme : PySem.W.kitOne K (.ref A.c_UnknownAddress) (.ref A.c_InvalidScheme) = some false
  xj_UnknownAddress_InvalidStand : PySem.W.kitOne K (.ref A.c_UnknownAddress) (.ref A.c_InvalidStand) = some false
  xj_UnknownAddress_InvalidPaper : PySem.W.kitOne K (.ref A.c_UnknownAddress) (.ref A.c_InvalidPaper) = some false
  xj_UnknownAddress_InvalidOperation : PySem.W.kitOne K (.ref A.c_UnknownAddress) (.ref A.c_InvalidOperation) = some false
  xj_UnknownAddress_ParseError : PySem.W.kitOne K (.ref A.c_UnknownAddress) (.ref A.c_ParseError) = some false
  xj_UnknownAddress_UnknownLetter : PySem.W.kitOne K (.ref A.c_UnknownAddress) (.ref A.c_UnknownLetter) = some false
  xj_UnknownAddress_UnknownAddress : PySem.W.kitOne K (.ref A.c_UnknownAddress) (.ref A.c_UnknownAddress) = some true
  xj_UnknownAddress_InvalidNumber : PySem.W.kitOne K (.ref A.c_UnknownAddress) (.ref A.c_InvalidNumber) = some false
  xj_UnknownAddress_NothingToUndo : PySem.W.kitOne K (.ref A.c_UnknownAddress) (.ref A.c_NothingToUndo) = some false
  xj_UnknownAddress_TooMany : PySem.W.kitOne K (.ref A.c_UnknownAddress) (.ref A.c_TooMany) = some false
  xj_UnknownAddress_Refused : PySem.W.kitOne K (.ref A.c_UnknownAddress) (.ref A.c_Refused) = some false
  xj_UnknownAddress_NoQuotient : PySem.W.kitOne K (.ref A.c_UnknownAddress) (.ref A.c_NoQuotient) = some false
  xj_UnknownAddress_LineError : PySem.W.kitOne K (.ref A.c_UnknownAddress) (.ref A.c_LineError) = some false
  xj_UnknownAddress_ValueError : PySem.W.kitOne K (.ref A.c_UnknownAddress) (.type "ValueError") = some false
  xj_UnknownAddress_KeyError : PySem.W.kitOne K (.ref A.c_UnknownAddress) (.type "KeyError") = some false
  xj_UnknownAddress_IndexError : PySem.W.kitOne K (.ref A.c_UnknownAddress) (.type "IndexError") = some false
  xj_UnknownAddress_LookupError : PySem.W.kitOne K (.ref A.c_UnknownAddress) (.type "LookupError") = some true
  xj_UnknownAddress_RuntimeError : PySem.W.kitOne K (.ref A.c_UnknownAddress) (.type "RuntimeError") = some false
  xj_UnknownAddress_OverflowError : PySem.W.kitOne K (.ref A.c_UnknownAddress) (.type "OverflowError") = some false
  xj_UnknownAddress_ZeroDivisionError : PySem.W.kitOne K (.ref A.c_UnknownAddress) (.type "ZeroDivisionError") = some false
  xj_UnknownAddress_ArithmeticError : PySem.W.kitOne K (.ref A.c_UnknownAddress) (.type "ArithmeticError") = some false
  xe_InvalidNumber : ExcC K A.c_InvalidNumber
  xj_InvalidNumber_InvalidGrid : PySem.W.kitOne K (.ref A.c_InvalidNumber) (.ref A.c_InvalidGrid) = some false
  xj_InvalidNumber_InvalidPoint : PySem.W.kitOne K (.ref A.c_InvalidNumber) (.ref A.c_InvalidPoint) = some false
  xj_InvalidNumber_InvalidRule : PySem.W.kitOne K (.ref A.c_InvalidNumber) (.ref A.c_InvalidRule) = some false
  xj_InvalidNumber_InvalidScheme : PySem.W.kitOne K (.ref A.c_InvalidNumber) (.ref A.c_InvalidScheme) = some false
  xj_InvalidNumber_InvalidStand : PySem.W.kitOne K (.ref A.c_InvalidNumber) (.ref A.c_InvalidStand) = some false
  xj_InvalidNumber_InvalidPaper : PySem.W.kitOne K (.ref A.c_InvalidNumber) (.ref A.c_InvalidPaper) = some false
  xj_InvalidNumber_InvalidOperation : PySem.W.kitOne K (.ref A.c_InvalidNumber) (.ref A.c_InvalidOperation) = some false
  xj_InvalidNumber_ParseError : PySem.W.kitOne K (.ref A.c_InvalidNumber) (.ref A.c_ParseError) = some false
  xj_InvalidNumber_UnknownLetter : PySem.W.kitOne K (.ref A.c_InvalidNumber) (.ref A.c_UnknownLetter) = some false
  xj_InvalidNumber_UnknownAddress : PySem.W.kitOne K (.ref A.c_InvalidNumber) (.ref A.c_UnknownAddress) = some false
  xj_InvalidNumber_InvalidNumber : PySem.W.kitOne K (.ref A.c_InvalidNumber) (.ref A.c_InvalidNumber) = some true
  xj_InvalidNumber_NothingToUndo : PySem.W.kitOne K (.ref A.c_InvalidNumber) (.ref A.c_NothingToUndo) = some false
  xj_InvalidNumber_TooMany : PySem.W.kitOne K (.ref A.c_InvalidNumber) (.ref A.c_TooMany) = some false
  xj_InvalidNumber_Refused : PySem.W.kitOne K (.ref A.c_InvalidNumber) (.ref A.c_Refused) = some false
  xj_InvalidNumber_NoQuotient : PySem.W.kitOne K (.ref A.c_InvalidNumber) (.ref A.c_NoQuotient) = some false
  xj_InvalidNumber_LineError : PySem.W.kitOne K (.ref A.c_InvalidNumber) (.ref A.c_LineError) = some false
  xj_InvalidNumber_ValueError : PySem.W.kitOne K (.ref A.c_InvalidNumber) (.type "ValueError") = some false
  xj_InvalidNumber_KeyError : PySem.W.kitOne K (.ref A.c_InvalidNumber) (.type "KeyError") = some false
  xj_InvalidNumber_IndexError : PySem.W.kitOne K (.ref A.c_InvalidNumber) (.type "IndexError") = some true
  xj_InvalidNumber_LookupError : PySem.W.kitOne K (.ref A.c_InvalidNumber) (.type "LookupError") = some true
  xj_InvalidNumber_RuntimeError : PySem.W.kitOne K (.ref A.c_InvalidNumber) (.type "RuntimeError") = some false
  xj_InvalidNumber_OverflowError : PySem.W.kitOne K (.ref A.c_InvalidNumber) (.type "OverflowError") = some false
  xj_InvalidNumber_ZeroDivisionError : PySem.W.kitOne K (.ref A.c_InvalidNumber) (.type "ZeroDivisionError") = some false
  xj_InvalidNumber_ArithmeticError : PySem.W.kitOne K (.ref A.c_InvalidNumber) (.type "ArithmeticError") = some false
  xe_NothingToUndo : ExcC K A.c_NothingToUndo
  xj_NothingToUndo_InvalidGrid : PySem.W.kitOne K (.ref A.c_NothingToUndo) (.ref A.c_InvalidGrid) = some false
  xj_NothingToUndo_InvalidPoint : PySem.W.kitOne K (.ref A.c_NothingToUndo) (.ref A.c_InvalidPoint) = some false
  xj_NothingToUndo_InvalidRule : PySem.W.kitOne K (.ref A.c_NothingToUndo) (.ref A.c_InvalidRule) = some false
  xj_NothingToUndo_InvalidScheme : PySem.W.kitOne K (.ref A.c_NothingToUndo) (.ref A.c_InvalidScheme) = some false
  xj_NothingToUndo_InvalidStand : PySem.W.kitOne K (.ref A.c_NothingToUndo) (.ref A.c_InvalidStand) = some false
  xj_NothingToUndo_InvalidPaper : PySem.W.kitOne K (.ref A.c_NothingToUndo) (.ref A.c_InvalidPaper) = some false
  xj_NothingToUndo_InvalidOperation : PySem.W.kitOne K (.ref A.c_NothingToUndo) (.ref A.c_InvalidOperation) = some false
  xj_NothingToUndo_ParseError : PySem.W.kitOne K (.ref A.c_NothingToUndo) (.ref A.c_ParseError) = some false
  xj_NothingToUndo_UnknownLetter : PySem.W.kitOne K (.ref A.c_NothingToUndo) (.ref A.c_UnknownLetter) = some false
  xj_NothingToUndo_UnknownAddress : PySem.W.kitOne K (.ref A.c_NothingToUndo) (.ref A.c_UnknownAddress) = some false
  xj_NothingToUndo_InvalidNumber : PySem.W.kitOne K (.ref A.c_NothingToUndo) (.ref A.c_InvalidNumber) = some false
  xj_NothingToUndo_NothingToUndo : PySem.W.kitOne K (.ref A.c_NothingToUndo) (.ref A.c_NothingToUndo) = some true
  xj_NothingToUndo_TooMany : PySem.W.kitOne K (.ref A.c_NothingToUndo) (.ref A.c_TooMany) = some false
  xj_NothingToUndo_Refused : PySem.W.kitOne K (.ref A.c_NothingToUndo) (.ref A.c_Refused) = some false
  xj_NothingToUndo_NoQuotient : PySem.W.kitOne K (.ref A.c_NothingToUndo) (.ref A.c_NoQuotient) = some false
  xj_NothingToUndo_LineError : PySem.W.kitOne K (.ref A.c_NothingToUndo) (.ref A.c_LineError) = some false
  xj_NothingToUndo_ValueError : PySem.W.kitOne K (.ref A.c_NothingToUndo) (.type "ValueError") = some false
  xj_NothingToUndo_KeyError : PySem.W.kitOne K (.ref A.c_NothingToUndo) (.type "KeyError") = some false
  xj_NothingToUndo_IndexError : PySem.W.kitOne K (.ref A.c_NothingToUndo) (.type "IndexError") = some false
  xj_NothingToUndo_LookupError : PySem.W.kitOne K (.ref A.c_NothingToUndo) (.type "LookupError") = some false
  xj_NothingToUndo_RuntimeError : PySem.W.kitOne K (.ref A.c_NothingToUndo) (.type "RuntimeError") = some true
  xj_NothingToUndo_OverflowError : PySem.W.kitOne K (.ref A.c_NothingToUndo) (.type "OverflowError") = some false
  xj_NothingToUndo_ZeroDivisionError : PySem.W.kitOne K (.ref A.c_NothingToUndo) (.type "ZeroDivisionError") = some false
  xj_NothingToUndo_ArithmeticError : PySem.W.kitOne K (.ref A.c_NothingToUndo) (.type "ArithmeticError") = some false
  xe_TooMany : ExcC K A.c_TooMany
  xj_TooMany_InvalidGrid : PySem.W.kitOne K (.ref A.c_TooMany) (.ref A.c_InvalidGrid) = some false
  xj_TooMany_InvalidPoint : PySem.W.kitOne K (.ref A.c_TooMany) (.ref A.c_InvalidPoint) = some false
  xj_TooMany_InvalidRule : PySem.W.kitOne K (.ref A.c_TooMany) (.ref A.c_InvalidRule) = some false
  xj_TooMany_InvalidScheme : PySem.W.kitOne K (.ref A.c_TooMany) (.ref A.c_InvalidScheme) = some false
  xj_TooMany_InvalidStand : PySem.W.kitOne K (.ref A.c_TooMany) (.ref A.c_InvalidStand) = some false
  xj_TooMany_InvalidPaper : PySem.W.kitOne K (.ref A.c_TooMany) (.ref A.c_InvalidPaper) = some false
  xj_TooMany_InvalidOperation : PySem.W.kitOne K (.ref A.c_TooMany) (.ref A.c_InvalidOperation) = some false
  xj_TooMany_ParseError : PySem.W.kitOne K (.ref A.c_TooMany) (.ref A.c_ParseError) = some false
  xj_TooMany_UnknownLetter : PySem.W.kitOne K (.ref A.c_TooMany) (.ref A.c_UnknownLetter) = some false
  xj_TooMany_UnknownAddress : PySem.W.kitOne K (.ref A.c_TooMany) (.ref A.c_UnknownAddress) = some false
  xj_TooMany_InvalidNumber : PySem.W.kitOne K (.ref A.c_TooMany) (.ref A.c_InvalidNumber) = some false
  xj_TooMany_NothingToUndo : PySem.W.kitOne K (.ref A.c_TooMany) (.ref A.c_NothingToUndo) = some false
  xj_TooMany_TooMany : PySem.W.kitOne K (.ref A.c_TooMany) (.ref A.c_TooMany) = some true
  xj_TooMany_Refused : PySem.W.kitOne K (.ref A.c_TooMany) (.ref A.c_Refused) = some false
  xj_TooMany_NoQuotient : PySem.W.kitOne K (.ref A.c_TooMany) (.ref A.c_NoQuotient) = some false
  xj_TooMany_LineError : PySem.W.kitOne K (.ref A.c_TooMany) (.ref A.c_LineError) = some false
  xj_TooMany_ValueError : PySem.W.kitOne K (.ref A.c_TooMany) (.type "ValueError") = some false
  xj_TooMany_KeyError : PySem.W.kitOne K (.ref A.c_TooMany) (.type "KeyError") = some false
  xj_TooMany_IndexError : PySem.W.kitOne K (.ref A.c_TooMany) (.type "IndexError") = some false
  xj_TooMany_LookupError : PySem.W.kitOne K (.ref A.c_TooMany) (.type "LookupError") = some false
  xj_TooMany_RuntimeError : PySem.W.kitOne K (.ref A.c_TooMany) (.type "RuntimeError") = some false
  xj_TooMany_OverflowError : PySem.W.kitOne K (.ref A.c_TooMany) (.type "OverflowError") = some true
  xj_TooMany_ZeroDivisionError : PySem.W.kitOne K (.ref A.c_TooMany) (.type "ZeroDivisionError") = some false
  xj_TooMany_ArithmeticError : PySem.W.kitOne K (.ref A.c_TooMany) (.type "ArithmeticError") = some true
  xe_Refused : ExcC K A.c_Refused
  xj_Refused_InvalidGrid : PySem.W.kitOne K (.ref A.c_Refused) (.ref A.c_InvalidGrid) = some false
  xj_Refused_InvalidPoint : PySem.W.kitOne K (.ref A.c_Refused) (.ref A.c_InvalidPoint) = some false
  xj_Refused_InvalidRule : PySem.W.kitOne K (.ref A.c_Refused) (.ref A.c_InvalidRule) = some false
  xj_Refused_InvalidScheme : PySem.W.kitOne K (.ref A.c_Refused) (.ref A.c_InvalidScheme) = some false
  xj_Refused_InvalidStand : PySem.W.kitOne K (.ref A.c_Refused) (.ref A.c_InvalidStand) = some false
  xj_Refused_InvalidPaper : PySem.W.kitOne K (.ref A.c_Refused) (.ref A.c_InvalidPaper) = some false
  xj_Refused_InvalidOperation : PySem.W.kitOne K (.ref A.c_Refused) (.ref A.c_InvalidOperation) = some false
  xj_Refused_ParseError : PySem.W.kitOne K (.ref A.c_Refused) (.ref A.c_ParseError) = some false
  xj_Refused_UnknownLetter : PySem.W.kitOne K (.ref A.c_Refused) (.ref A.c_UnknownLetter) = some false
  xj_Refused_UnknownAddress : PySem.W.kitOne K (.ref A.c_Refused) (.ref A.c_UnknownAddress) = some false
  xj_Refused_InvalidNumber : PySem.W.kitOne K (.ref A.c_Refused) (.ref A.c_InvalidNumber) = some false
  xj_Refused_NothingToUndo : PySem.W.kitOne K (.ref A.c_Refused) (.ref A.c_NothingToUndo) = some false
  xj_Refused_TooMany : PySem.W.kitOne K (.ref A.c_Refused) (.ref A.c_TooMany) = some false
  xj_Refused_Refused : PySem.W.kitOne K (.ref A.c_Refused) (.ref A.c_Refused) = some true
  xj_Refused_NoQuotient : PySem.W.kitOne K (.ref A.c_Refused) (.ref A.c_NoQuotient) = some false
  xj_Refused_LineError : PySem.W.kitOne K (.ref A.c_Refused) (.ref A.c_LineError) = some false
  xj_Refused_ValueError : PySem.W.kitOne K (.ref A.c_Refused) (.type "ValueError") = some false
  xj_Refused_KeyError : PySem.W.kitOne K (.ref A.c_Refused) (.type "KeyError") = some false
  xj_Refused_IndexError : PySem.W.kitOne K (.ref A.c_Refused) (.type "IndexError") = some false
  xj_Refused_LookupError : PySem.W.kitOne K (.ref A.c_Refused) (.type "LookupError") = some false
  xj_Refused_RuntimeError : PySem.W.kitOne K (.ref A.c_Refused) (.type "RuntimeError") = some false
  xj_Refused_OverflowError : PySem.W.kitOne K (.ref A.c_Refused) (.type "OverflowError") = some false
  xj_Refused_ZeroDivisionError : PySem.W.kitOne K (.ref A.c_Refused) (.type "ZeroDivisionError") = some false
  xj_Refused_ArithmeticError : PySem.W.kitOne K (.ref A.c_Refused) (.type "ArithmeticError") = some true
  xe_NoQuotient : ExcC K A.c_NoQuotient
  xj_NoQuotient_InvalidGrid : PySem.W.kitOne K (.ref A.c_NoQuotient) (.ref A.c_InvalidGrid) = some false
  xj_NoQuotient_InvalidPoint : PySem.W.kitOne K (.ref A.c_NoQuotient) (.ref A.c_InvalidPoint) = some false
  xj_NoQuotient_InvalidRule : PySem.W.kitOne K (.ref A.c_NoQuotient) (.ref A.c_InvalidRule) = some false
  xj_NoQuotient_InvalidScheme : PySem.W.kitOne K (.ref A.c_NoQuotient) (.ref A.c_InvalidScheme) = some false
  xj_NoQuotient_InvalidStand : PySem.W.kitOne K (.ref A.c_NoQuotient) (.ref A.c_InvalidStand) = some false
  xj_NoQuotient_InvalidPaper : PySem.W.kitOne K (.ref A.c_NoQuotient) (.ref A.c_InvalidPaper) = some false
  xj_NoQuotient_InvalidOperation : PySem.W.kitOne K (.ref A.c_NoQuotient) (.ref A.c_InvalidOperation) = some false
  xj_NoQuotient_ParseError : PySem.W.kitOne K (.ref A.c_NoQuotient) (.ref A.c_ParseError) = some false
  xj_NoQuotient_UnknownLetter : PySem.W.kitOne K (.ref A.c_NoQuotient) (.ref A.c_UnknownLetter) = some false
  xj_NoQuotient_UnknownAddress : PySem.W.kitOne K (.ref A.c_NoQuotient) (.ref A.c_UnknownAddress) = some false
  xj_NoQuotient_InvalidNumber : PySem.W.kitOne K (.ref A.c_NoQuotient) (.ref A.c_InvalidNumber) = some false
  xj_NoQuotient_NothingToUndo : PySem.W.kitOne K (.ref A.c_NoQuotient) (.ref A.c_NothingToUndo) = some false
  xj_NoQuotient_TooMany : PySem.W.kitOne K (.ref A.c_NoQuotient) (.ref A.c_TooMany) = some false
  xj_NoQuotient_Refused : PySem.W.kitOne K (.ref A.c_NoQuotient) (.ref A.c_Refused) = some false
  xj_NoQuotient_NoQuotient : PySem.W.kitOne K (.ref A.c_NoQuotient) (.ref A.c_NoQuotient) = some true
  xj_NoQuotient_LineError : PySem.W.kitOne K (.ref A.c_NoQuotient) (.ref A.c_LineError) = some false
  xj_NoQuotient_ValueError : PySem.W.kitOne K (.ref A.c_NoQuotient) (.type "ValueError") = some false
  xj_NoQuotient_KeyError : PySem.W.kitOne K (.ref A.c_NoQuotient) (.type "KeyError") = some false
  xj_NoQuotient_IndexError : PySem.W.kitOne K (.ref A.c_NoQuotient) (.type "IndexError") = some false
  xj_NoQuotient_LookupError : PySem.W.kitOne K (.ref A.c_NoQuotient) (.type "LookupError") = some false
  xj_NoQuotient_RuntimeError : PySem.W.kitOne K (.ref A.c_NoQuotient) (.type "RuntimeError") = some false
  xj_NoQuotient_OverflowError : PySem.W.kitOne K (.ref A.c_NoQuotient) (.type "OverflowError") = some false
  xj_NoQuotient_ZeroDivisionError : PySem.W.kitOne K (.ref A.c_NoQuotient) (.type "ZeroDivisionError") = some true
  xj_NoQuotient_ArithmeticError : PySem.W.kitOne K (.ref A.c_NoQuotient) (.type "ArithmeticError") = some true
  xm_LineError_LineError : PySem.W.exmOne K (.ref A.c_LineError) (.ref A.c_LineError) = some true
  xm_LineError_UnknownAddress : PySem.W.exmOne K (.ref A.c_LineError) (.ref A.c_UnknownAddress) = some false
  xm_LineError_NoQuotient : PySem.W.exmOne K (.ref A.c_LineError) (.ref A.c_NoQuotient) = some false
  xm_InvalidGrid_LineError : PySem.W.exmOne K (.ref A.c_InvalidGrid) (.ref A.c_LineError) = some true
  xm_InvalidGrid_UnknownAddress : PySem.W.exmOne K (.ref A.c_InvalidGrid) (.ref A.c_UnknownAddress) = some false
  xm_InvalidGrid_NoQuotient : PySem.W.exmOne K (.ref A.c_InvalidGrid) (.ref A.c_NoQuotient) = some false
  xm_InvalidPoint_LineError : PySem.W.exmOne K (.ref A.c_InvalidPoint) (.ref A.c_LineError) = some true
  xm_InvalidPoint_UnknownAddress : PySem.W.exmOne K (.ref A.c_InvalidPoint) (.ref A.c_UnknownAddress) = some false
  xm_InvalidPoint_NoQuotient : PySem.W.exmOne K (.ref A.c_InvalidPoint) (.ref A.c_NoQuotient) = some false
  xm_InvalidRule_LineError : PySem.W.exmOne K (.ref A.c_InvalidRule) (.ref A.c_LineError) = some true
  xm_InvalidRule_UnknownAddress : PySem.W.exmOne K (.ref A.c_InvalidRule) (.ref A.c_UnknownAddress) = some false
  xm_InvalidRule_NoQuotient : PySem.W.exmOne K (.ref A.c_InvalidRule) (.ref A.c_NoQuotient) = some false
  xm_InvalidScheme_LineError : PySem.W.exmOne K (.ref A.c_InvalidScheme) (.ref A.c_LineError) = some true
  xm_InvalidScheme_UnknownAddress : PySem.W.exmOne K (.ref A.c_InvalidScheme) (.ref A.c_UnknownAddress) = some false
  xm_InvalidScheme_NoQuotient : PySem.W.exmOne K (.ref A.c_InvalidScheme) (.ref A.c_NoQuotient) = some false
  xm_InvalidStand_LineError : PySem.W.exmOne K (.ref A.c_InvalidStand) (.ref A.c_LineError) = some true
  xm_InvalidStand_UnknownAddress : PySem.W.exmOne K (.ref A.c_InvalidStand) (.ref A.c_UnknownAddress) = some false
  xm_InvalidStand_NoQuotient : PySem.W.exmOne K (.ref A.c_InvalidStand) (.ref A.c_NoQuotient) = some false
  xm_InvalidPaper_LineError : PySem.W.exmOne K (.ref A.c_InvalidPaper) (.ref A.c_LineError) = some true
  xm_InvalidPaper_UnknownAddress : PySem.W.exmOne K (.ref A.c_InvalidPaper) (.ref A.c_UnknownAddress) = some false
  xm_InvalidPaper_NoQuotient : PySem.W.exmOne K (.ref A.c_InvalidPaper) (.ref A.c_NoQuotient) = some false
  xm_InvalidOperation_LineError : PySem.W.exmOne K (.ref A.c_InvalidOperation) (.ref A.c_LineError) = some true
  xm_InvalidOperation_UnknownAddress : PySem.W.exmOne K (.ref A.c_InvalidOperation) (.ref A.c_UnknownAddress) = some false
  xm_InvalidOperation_NoQuotient : PySem.W.exmOne K (.ref A.c_InvalidOperation) (.ref A.c_NoQuotient) = some false
  xm_ParseError_LineError : PySem.W.exmOne K (.ref A.c_ParseError) (.ref A.c_LineError) = some true
  xm_ParseError_UnknownAddress : PySem.W.exmOne K (.ref A.c_ParseError) (.ref A.c_UnknownAddress) = some false
  xm_ParseError_NoQuotient : PySem.W.exmOne K (.ref A.c_ParseError) (.ref A.c_NoQuotient) = some false
  xm_UnknownLetter_LineError : PySem.W.exmOne K (.ref A.c_UnknownLetter) (.ref A.c_LineError) = some false
  xm_UnknownLetter_UnknownAddress : PySem.W.exmOne K (.ref A.c_UnknownLetter) (.ref A.c_UnknownAddress) = some false
  xm_UnknownLetter_NoQuotient : PySem.W.exmOne K (.ref A.c_UnknownLetter) (.ref A.c_NoQuotient) = some false
  xm_UnknownAddress_LineError : PySem.W.exmOne K (.ref A.c_UnknownAddress) (.ref A.c_LineError) = some false
  xm_UnknownAddress_UnknownAddress : PySem.W.exmOne K (.ref A.c_UnknownAddress) (.ref A.c_UnknownAddress) = some true
  xm_UnknownAddress_NoQuotient : PySem.W.exmOne K (.ref A.c_UnknownAddress) (.ref A.c_NoQuotient) = some false
  xm_InvalidNumber_LineError : PySem.W.exmOne K (.ref A.c_InvalidNumber) (.ref A.c_LineError) = some false
  xm_InvalidNumber_UnknownAddress : PySem.W.exmOne K (.ref A.c_InvalidNumber) (.ref A.c_UnknownAddress) = some false
  xm_InvalidNumber_NoQuotient : PySem.W.exmOne K (.ref A.c_InvalidNumber) (.ref A.c_NoQuotient) = some false
  xm_NothingToUndo_LineError : PySem.W.exmOne K (.ref A.c_NothingToUndo) (.ref A.c_LineError) = some false
  xm_NothingToUndo_UnknownAddress : PySem.W.exmOne K (.ref A.c_NothingToUndo) (.ref A.c_UnknownAddress) = some false
  xm_NothingToUndo_NoQuotient : PySem.W.exmOne K (.ref A.c_NothingToUndo) (.ref A.c_NoQuotient) = some false
  xm_TooMany_LineError : PySem.W.exmOne K (.ref A.c_TooMany) (.ref A.c_LineError) = some false
  xm_TooMany_UnknownAddress : PySem.W.exmOne K (.ref A.c_TooMany) (.ref A.c_UnknownAddress) = some false
  xm_TooMany_NoQuotient : PySem.W.exmOne K (.ref A.c_TooMany) (.ref A.c_NoQuotient) = some false
  xm_Refused_LineError : PySem.W.exmOne K (.ref A.c_Refused) (.ref A.c_LineError) = some false
  xm_Refused_UnknownAddress : PySem.W.exmOne K (.ref A.c_Refused) (.ref A.c_UnknownAddress) = some false
  xm_Refused_NoQuotient : PySem.W.exmOne K (.ref A.c_Refused) (.ref A.c_NoQuotient) = some false
  xm_NoQuotient_LineError : PySem.W.exmOne K (.ref A.c_NoQuotient) (.ref A.c_LineError) = some false
  xm_NoQuotient_UnknownAddress : PySem.W.exmOne K (.ref A.c_NoQuotient) (.ref A.c_UnknownAddress) = some false
  xm_NoQuotient_NoQuotient : PySem.W.exmOne K (.ref A.c_NoQuotient) (.ref A.c_NoQuotient) = some true
def GmF (A : Ad) : Nat → Addr
  | 0 => A.c_LineError
  | 1 => A.c_InvalidGrid
  | 2 => A.c_InvalidPoint
  | 3 => A.c_InvalidRule
  | 4 => A.c_InvalidScheme
  | 5 => A.c_InvalidStand
  | 6 => A.c_InvalidPaper
  | 7 => A.c_InvalidOperation
  | 8 => A.c_ParseError
  | 9 => A.c_UnknownLetter
  | 10 => A.c_UnknownAddress
  | 11 => A.c_InvalidNumber
  | 12 => A.c_NothingToUndo
  | 13 => A.c_TooMany
  | 14 => A.c_Refused
  | 15 => A.c_NoQuotient
  | _ => 0
def GmT (A : Ad) : List (Addr × Str) := []
def Gm (A : Ad) : Gam := ⟨GmF A, GmT A⟩
section
variable {K : PySem.W.Frag} {mg : Str → Option Value} {A : Ad} {Df : Fd}
end
end Law

set_option Elab.async false
set_option maxRecDepth 100000
set_option maxHeartbeats 4000000
set_option linter.all false
namespace Law
open PySem PySem.Spec PyProof.Rows L2 Md
section
variable {P : Program} {w : World} {K : PySem.W.Frag} {mg : Str → Option Value} {base : Heap} {A : Ad} {Df : Fd}
def m__law_dice : Fn := bodyD 2 2
  (seqS (asgS (ifD (testD (op2 ltD (varD 1) (callB lenD (consD (varD 0) nilD)))) (callB intA (consD (op2 ixD (varD 0) (varD 1)) nilD)) (op2 addD (op2 mulD (cD (.int 53)) (varD 1)) (cD (.int 11)))) (nameG 2))
  (seqS (asgS (op2 modD (callB maxD (consD (cD (.int 0)) (consD (op2 subD (callB absD (consD (varD 2) nilD)) (op2 powD (cD (.int 10)) (cD (.int 16)))) nilD))) (op2 mulD (op2 powD (cD (.int 10)) (cD (.int 60))) (op2 powD (cD (.int 10)) (cD (.int 60))))) (nameG 3))
  (retS (lstC (consD (varD 3) (consD (op2 addD (op2 addD (op2 addD (op2 mulD (op2 modD (callB absD (consD (varD 2) nilD)) (cD (.int 1152921504606846883))) (cD (.int 43))) (op2 mulD (cD (.int 709)) (varD 1))) (op2 mulD (cD (.int 17)) (callB intA (consD (op2 ltD (varD 2) (cD (.int 0))) nilD)))) (cD (.int 5))) (consD (cD (.int 0)) nilD)))))))
theorem ok__law_dice (T : Txt K mg A Df) (nd : base.NoDigits) : FnOk P w K mg base (L2.CX P w) 1 A.a__law_dice Df.d__law_dice ["_law_script", "_law_spot"] (spD K (Gm A) m__law_dice) := by
  refine okD T.F__law_dice sc__law_dice rfl fun cdv Ar outer s H E hr => ?_
  exact ⟨_, (ds_cons (ds_set (i := 2) sc__law_dice.nd rfl (.inl rfl) (de_if (dt_cmp op_ltA og_cmp ⟨pv 1, gd_var⟩ (de_callB call_lenAA cg_len (by rfl) T.z_len (by decide +kernel) (da_cons ⟨pv 0, gd_var⟩ da_nil)) (nomark _)) (de_callTy call_intA cg_intA (by rfl) T.z_int (by decide +kernel) (da_cons (de_ix hr ⟨pv 0, gd_var⟩ ⟨pv 1, gd_var⟩) da_nil)) (de_op op_addA og_add (de_op op_mulAA og_mul de_int ⟨pv 1, gd_var⟩) de_int)))
    (ds_cons (ds_set (i := 3) sc__law_dice.nd rfl (.inl rfl) (de_op op_mod og_mod (de_callB (call_max2 (by rfl)) cg_max (by rfl) T.z_max (by decide +kernel) (da_cons de_int (da_cons (de_op op_sub og_sub (de_callB call_abs cg_abs (by rfl) T.z_abs (by decide +kernel) (da_cons ⟨pv 2, gd_var⟩ da_nil)) (de_op Gl.op_powA og_pow de_int de_int)) da_nil))) (de_op op_mulAA og_mul (de_op Gl.op_powA og_pow de_int de_int) (de_op Gl.op_powA og_pow de_int de_int))))
    (ds_one (ds_ret (de_lstC (da_cons ⟨pv 3, gd_var⟩ (da_cons (de_op op_addA og_add (de_op op_addA og_add (de_op op_addA og_add (de_op op_mulAA og_mul (de_op op_mod og_mod (de_callB call_abs cg_abs (by rfl) T.z_abs (by decide +kernel) (da_cons ⟨pv 2, gd_var⟩ da_nil)) de_int) de_int) (de_op op_mulAA og_mul de_int ⟨pv 1, gd_var⟩)) (de_op op_mulAA og_mul de_int (de_callTy call_intA cg_intA (by rfl) T.z_int (by decide +kernel) (da_cons (de_cmp op_ltA og_cmp ⟨pv 2, gd_var⟩ de_int (nomark _)) da_nil)))) de_int) (da_cons de_int da_nil))))))))⟩

def m__law_roll : Fn := bodyD 2 3
  (seqS (ifS (testD (op2 gtD (op2 ixD (varD 0) (cD (.int 0))) (cD (.int 0))))
  (seqS (asgS (op2 modD (callB intA (consD (op2 ixD (varD 0) (cD (.int 0))) nilD)) (varD 1)) (nameG 2))
  (seqS (setItS (varD 0) (cD (.int 0)) (op2 divD (op2 ixD (varD 0) (cD (.int 0))) (varD 1)))
  (retS (varD 2))))
  nilS)
  (seqS (setItS (varD 0) (cD (.int 2)) (op2 addD (op2 ixD (varD 0) (cD (.int 2))) (cD (.int 1))))
  (seqS (asgS (op2 modD (callB intA (consD (op2 addD (op2 ixD (varD 0) (cD (.int 1))) (op2 mulD (cD (.int 15485863)) (op2 ixD (varD 0) (cD (.int 2))))) nilD)) (cD (.int 2305843009213693693))) (nameG 3))
  (seqS (asgS (op2 addD (op2 mulD (op2 modD (callB intA (consD (op2 addD (op2 mulD (varD 3) (varD 3)) (op2 mulD (cD (.int 89)) (op2 ixD (varD 0) (cD (.int 2))))) nilD)) (cD (.int 1152921504606846869))) (cD (.int 9699667))) (varD 3)) (nameG 4))
  (retS (op2 modD (callB intA (consD (op2 divD (varD 4) (cD (.int 65536))) nilD)) (varD 1)))))))
theorem ok__law_roll (T : Txt K mg A Df) (nd : base.NoDigits) : FnOk P w K mg base (L2.CX P w) 1 A.a__law_roll Df.d__law_roll ["_law_dice_here", "_law_total"] (spD K (Gm A) m__law_roll) := by
  refine okD T.F__law_roll sc__law_roll rfl fun cdv Ar outer s H E hr => ?_
  exact ⟨_, (ds_cons (ds_if (dt_cmp op_gtA og_cmp (de_ix hr ⟨pv 0, gd_var⟩ de_int) de_int (nomark _))
    (ds_cons (ds_set (i := 2) sc__law_roll.nd rfl (.inl rfl) (de_op op_mod og_mod (de_callTy call_intA cg_intA (by rfl) T.z_int (by decide +kernel) (da_cons (de_ix hr ⟨pv 0, gd_var⟩ de_int) da_nil)) ⟨pv 1, gd_var⟩))
    (ds_cons (ds_setIt ⟨pv 0, gd_var⟩ de_int (de_op Gl.op_fdivA og_div (de_ix hr ⟨pv 0, gd_var⟩ de_int) ⟨pv 1, gd_var⟩))
    (ds_one (ds_ret ⟨pv 2, gd_var⟩))))
    ds_nil)
    (ds_cons (ds_setIt ⟨pv 0, gd_var⟩ de_int (de_op op_addA og_add (de_ix hr ⟨pv 0, gd_var⟩ de_int) de_int))
    (ds_cons (ds_set (i := 3) sc__law_roll.nd rfl (.inl rfl) (de_op op_mod og_mod (de_callTy call_intA cg_intA (by rfl) T.z_int (by decide +kernel) (da_cons (de_op op_addA og_add (de_ix hr ⟨pv 0, gd_var⟩ de_int) (de_op op_mulAA og_mul de_int (de_ix hr ⟨pv 0, gd_var⟩ de_int))) da_nil)) de_int))
    (ds_cons (ds_set (i := 4) sc__law_roll.nd rfl (.inl rfl) (de_op op_addA og_add (de_op op_mulAA og_mul (de_op op_mod og_mod (de_callTy call_intA cg_intA (by rfl) T.z_int (by decide +kernel) (da_cons (de_op op_addA og_add (de_op op_mulAA og_mul ⟨pv 3, gd_var⟩ ⟨pv 3, gd_var⟩) (de_op op_mulAA og_mul de_int (de_ix hr ⟨pv 0, gd_var⟩ de_int))) da_nil)) de_int) de_int) ⟨pv 3, gd_var⟩))
    (ds_one (ds_ret (de_op op_mod og_mod (de_callTy call_intA cg_intA (by rfl) T.z_int (by decide +kernel) (da_cons (de_op Gl.op_fdivA og_div ⟨pv 4, gd_var⟩ de_int) da_nil)) ⟨pv 1, gd_var⟩)))))))⟩

def m__law_pick : Fn := bodyD 2 0
  (retS (op2 ixD (varD 1) (callD m__law_roll (consD (varD 0) (consD (callB lenD (consD (varD 1) nilD)) nilD)))))
theorem ok__law_pick (T : Txt K mg A Df) (nd : base.NoDigits) : FnOk P w K mg base (L2.CX P w) 2 A.a__law_pick Df.d__law_pick ["_law_dice_here", "_law_items"] (spD K (Gm A) m__law_pick) := by
  have G__law_roll := ok__law_roll (P := P) (w := w) (base := base) T nd
  refine okD T.F__law_pick sc__law_pick rfl fun cdv Ar outer s H E hr => ?_
  exact ⟨_, (ds_one (ds_ret (de_ix hr ⟨pv 1, gd_var⟩ (de_call G__law_roll (takes_of rfl rfl rfl rfl) (hr.mono (by decide)) (by rfl) T.g__law_roll T.F__law_roll.kp T.b__law_roll (da_cons ⟨pv 0, gd_var⟩ (da_cons (de_callB call_lenAA cg_len (by rfl) T.z_len (by decide +kernel) (da_cons ⟨pv 1, gd_var⟩ da_nil)) da_nil))))))⟩

theorem ok_NoQuotient___init__ (T : Txt K mg A Df) (nd : base.NoDigits) : FnOk P w K mg base (L2.CX P w) 1 A.a_NoQuotient___init__ Df.d_NoQuotient___init__ ["self", "divisor"] (Ex.spInit K "divisor") := Ex.okInit T.F_NoQuotient___init__ sc_NoQuotient___init__ rfl (Or.inl rfl) (Or.inl rfl) (by decide) (by decide) (by decide) (by decide) (fun _ => rfl)

theorem ok_UnknownAddress___init__ (T : Txt K mg A Df) (nd : base.NoDigits) : FnOk P w K mg base (L2.CX P w) 1 A.a_UnknownAddress___init__ Df.d_UnknownAddress___init__ ["self", "lost"] (Ex.spInit K "lost") := Ex.okInit T.F_UnknownAddress___init__ sc_UnknownAddress___init__ rfl (Or.inl rfl) (Or.inl rfl) (by decide) (by decide) (by decide) (by decide) (fun _ => rfl)

def ti_InvalidGrid : Nat → Option Bool
  | 0 => some false
  | 1 => some true
  | 2 => some false
  | 3 => some false
  | 4 => some false
  | 5 => some false
  | 6 => some false
  | 7 => some false
  | 8 => some false
  | 9 => some false
  | 10 => some false
  | 11 => some false
  | 12 => some false
  | 13 => some false
  | 14 => some false
  | 15 => some false
  | _ => none
theorem ti_ok_InvalidGrid (T : Txt K mg A Df) (c : Nat) (b : Bool) (h : ti_InvalidGrid c = some b) : ExcC K (Gm A c) ∧ PySem.W.kitOne K (.ref (Gm A c)) (.ref (Gm A 1)) = some b := by
  unfold ti_InvalidGrid at h; split at h <;> cases h <;> first | exact ⟨T.xe_LineError, T.xj_LineError_InvalidGrid⟩ | exact ⟨T.xe_InvalidGrid, T.xj_InvalidGrid_InvalidGrid⟩ | exact ⟨T.xe_InvalidPoint, T.xj_InvalidPoint_InvalidGrid⟩ | exact ⟨T.xe_InvalidRule, T.xj_InvalidRule_InvalidGrid⟩ | exact ⟨T.xe_InvalidScheme, T.xj_InvalidScheme_InvalidGrid⟩ | exact ⟨T.xe_InvalidStand, T.xj_InvalidStand_InvalidGrid⟩ | exact ⟨T.xe_InvalidPaper, T.xj_InvalidPaper_InvalidGrid⟩ | exact ⟨T.xe_InvalidOperation, T.xj_InvalidOperation_InvalidGrid⟩ | exact ⟨T.xe_ParseError, T.xj_ParseError_InvalidGrid⟩ | exact ⟨T.xe_UnknownLetter, T.xj_UnknownLetter_InvalidGrid⟩ | exact ⟨T.xe_UnknownAddress, T.xj_UnknownAddress_InvalidGrid⟩ | exact ⟨T.xe_InvalidNumber, T.xj_InvalidNumber_InvalidGrid⟩ | exact ⟨T.xe_NothingToUndo, T.xj_NothingToUndo_InvalidGrid⟩ | exact ⟨T.xe_TooMany, T.xj_TooMany_InvalidGrid⟩ | exact ⟨T.xe_Refused, T.xj_Refused_InvalidGrid⟩ | exact ⟨T.xe_NoQuotient, T.xj_NoQuotient_InvalidGrid⟩
def ti_InvalidPoint : Nat → Option Bool
  | 0 => some false
  | 1 => some false
  | 2 => some true
  | 3 => some false
  | 4 => some false
  | 5 => some false
  | 6 => some false
  | 7 => some false
  | 8 => some false
  | 9 => some false
  | 10 => some false
  | 11 => some false
  | 12 => some false
  | 13 => some false
  | 14 => some false
  | 15 => some false
  | _ => none
theorem ti_ok_InvalidPoint (T : Txt K mg A Df) (c : Nat) (b : Bool) (h : ti_InvalidPoint c = some b) : ExcC K (Gm A c) ∧ PySem.W.kitOne K (.ref (Gm A c)) (.ref (Gm A 2)) = some b := by
  unfold ti_InvalidPoint at h; split at h <;> cases h <;> first | exact ⟨T.xe_LineError, T.xj_LineError_InvalidPoint⟩ | exact ⟨T.xe_InvalidGrid, T.xj_InvalidGrid_InvalidPoint⟩ | exact ⟨T.xe_InvalidPoint, T.xj_InvalidPoint_InvalidPoint⟩ | exact ⟨T.xe_InvalidRule, T.xj_InvalidRule_InvalidPoint⟩ | exact ⟨T.xe_InvalidScheme, T.xj_InvalidScheme_InvalidPoint⟩ | exact ⟨T.xe_InvalidStand, T.xj_InvalidStand_InvalidPoint⟩ | exact ⟨T.xe_InvalidPaper, T.xj_InvalidPaper_InvalidPoint⟩ | exact ⟨T.xe_InvalidOperation, T.xj_InvalidOperation_InvalidPoint⟩ | exact ⟨T.xe_ParseError, T.xj_ParseError_InvalidPoint⟩ | exact ⟨T.xe_UnknownLetter, T.xj_UnknownLetter_InvalidPoint⟩ | exact ⟨T.xe_UnknownAddress, T.xj_UnknownAddress_InvalidPoint⟩ | exact ⟨T.xe_InvalidNumber, T.xj_InvalidNumber_InvalidPoint⟩ | exact ⟨T.xe_NothingToUndo, T.xj_NothingToUndo_InvalidPoint⟩ | exact ⟨T.xe_TooMany, T.xj_TooMany_InvalidPoint⟩ | exact ⟨T.xe_Refused, T.xj_Refused_InvalidPoint⟩ | exact ⟨T.xe_NoQuotient, T.xj_NoQuotient_InvalidPoint⟩
def ti_InvalidRule : Nat → Option Bool
  | 0 => some false
  | 1 => some false
  | 2 => some false
  | 3 => some true
  | 4 => some false
  | 5 => some false
  | 6 => some false
  | 7 => some false
  | 8 => some false
  | 9 => some false
  | 10 => some false
  | 11 => some false
  | 12 => some false
  | 13 => some false
  | 14 => some false
  | 15 => some false
  | _ => none
theorem ti_ok_InvalidRule (T : Txt K mg A Df) (c : Nat) (b : Bool) (h : ti_InvalidRule c = some b) : ExcC K (Gm A c) ∧ PySem.W.kitOne K (.ref (Gm A c)) (.ref (Gm A 3)) = some b := by
  unfold ti_InvalidRule at h; split at h <;> cases h <;> first | exact ⟨T.xe_LineError, T.xj_LineError_InvalidRule⟩ | exact ⟨T.xe_InvalidGrid, T.xj_InvalidGrid_InvalidRule⟩ | exact ⟨T.xe_InvalidPoint, T.xj_InvalidPoint_InvalidRule⟩ | exact ⟨T.xe_InvalidRule, T.xj_InvalidRule_InvalidRule⟩ | exact ⟨T.xe_InvalidScheme, T.xj_InvalidScheme_InvalidRule⟩ | exact ⟨T.xe_InvalidStand, T.xj_InvalidStand_InvalidRule⟩ | exact ⟨T.xe_InvalidPaper, T.xj_InvalidPaper_InvalidRule⟩ | exact ⟨T.xe_InvalidOperation, T.xj_InvalidOperation_InvalidRule⟩ | exact ⟨T.xe_ParseError, T.xj_ParseError_InvalidRule⟩ | exact ⟨T.xe_UnknownLetter, T.xj_UnknownLetter_InvalidRule⟩ | exact ⟨T.xe_UnknownAddress, T.xj_UnknownAddress_InvalidRule⟩ | exact ⟨T.xe_InvalidNumber, T.xj_InvalidNumber_InvalidRule⟩ | exact ⟨T.xe_NothingToUndo, T.xj_NothingToUndo_InvalidRule⟩ | exact ⟨T.xe_TooMany, T.xj_TooMany_InvalidRule⟩ | exact ⟨T.xe_Refused, T.xj_Refused_InvalidRule⟩ | exact ⟨T.xe_NoQuotient, T.xj_NoQuotient_InvalidRule⟩
def ti_InvalidScheme : Nat → Option Bool
  | 0 => some false
  | 1 => some false
  | 2 => some false
  | 3 => some false
  | 4 => some true
  | 5 => some false
  | 6 => some false
  | 7 => some false
  | 8 => some false
  | 9 => some false
  | 10 => some false
  | 11 => some false
  | 12 => some false
  | 13 => some false
  | 14 => some false
  | 15 => some false
  | _ => none
theorem ti_ok_InvalidScheme (T : Txt K mg A Df) (c : Nat) (b : Bool) (h : ti_InvalidScheme c = some b) : ExcC K (Gm A c) ∧ PySem.W.kitOne K (.ref (Gm A c)) (.ref (Gm A 4)) = some b := by
  unfold ti_InvalidScheme at h; split at h <;> cases h <;> first | exact ⟨T.xe_LineError, T.xj_LineError_InvalidScheme⟩ | exact ⟨T.xe_InvalidGrid, T.xj_InvalidGrid_InvalidScheme⟩ | exact ⟨T.xe_InvalidPoint, T.xj_InvalidPoint_InvalidScheme⟩ | exact ⟨T.xe_InvalidRule, T.xj_InvalidRule_InvalidScheme⟩ | exact ⟨T.xe_InvalidScheme, T.xj_InvalidScheme_InvalidScheme⟩ | exact ⟨T.xe_InvalidStand, T.xj_InvalidStand_InvalidScheme⟩ | exact ⟨T.xe_InvalidPaper, T.xj_InvalidPaper_InvalidScheme⟩ | exact ⟨T.xe_InvalidOperation, T.xj_InvalidOperation_InvalidScheme⟩ | exact ⟨T.xe_ParseError, T.xj_ParseError_InvalidScheme⟩ | exact ⟨T.xe_UnknownLetter, T.xj_UnknownLetter_InvalidScheme⟩ | exact ⟨T.xe_UnknownAddress, T.xj_UnknownAddress_InvalidScheme⟩ | exact ⟨T.xe_InvalidNumber, T.xj_InvalidNumber_InvalidScheme⟩ | exact ⟨T.xe_NothingToUndo, T.xj_NothingToUndo_InvalidScheme⟩ | exact ⟨T.xe_TooMany, T.xj_TooMany_InvalidScheme⟩ | exact ⟨T.xe_Refused, T.xj_Refused_InvalidScheme⟩ | exact ⟨T.xe_NoQuotient, T.xj_NoQuotient_InvalidScheme⟩
def ti_InvalidStand : Nat → Option Bool
  | 0 => some false
  | 1 => some false
  | 2 => some false
  | 3 => some false
  | 4 => some false
  | 5 => some true
  | 6 => some false
  | 7 => some false
  | 8 => some false
  | 9 => some false
  | 10 => some false
  | 11 => some false
  | 12 => some false
  | 13 => some false
  | 14 => some false
  | 15 => some false
  | _ => none
theorem ti_ok_InvalidStand (T : Txt K mg A Df) (c : Nat) (b : Bool) (h : ti_InvalidStand c = some b) : ExcC K (Gm A c) ∧ PySem.W.kitOne K (.ref (Gm A c)) (.ref (Gm A 5)) = some b := by
  unfold ti_InvalidStand at h; split at h <;> cases h <;> first | exact ⟨T.xe_LineError, T.xj_LineError_InvalidStand⟩ | exact ⟨T.xe_InvalidGrid, T.xj_InvalidGrid_InvalidStand⟩ | exact ⟨T.xe_InvalidPoint, T.xj_InvalidPoint_InvalidStand⟩ | exact ⟨T.xe_InvalidRule, T.xj_InvalidRule_InvalidStand⟩ | exact ⟨T.xe_InvalidScheme, T.xj_InvalidScheme_InvalidStand⟩ | exact ⟨T.xe_InvalidStand, T.xj_InvalidStand_InvalidStand⟩ | exact ⟨T.xe_InvalidPaper, T.xj_InvalidPaper_InvalidStand⟩ | exact ⟨T.xe_InvalidOperation, T.xj_InvalidOperation_InvalidStand⟩ | exact ⟨T.xe_ParseError, T.xj_ParseError_InvalidStand⟩ | exact ⟨T.xe_UnknownLetter, T.xj_UnknownLetter_InvalidStand⟩ | exact ⟨T.xe_UnknownAddress, T.xj_UnknownAddress_InvalidStand⟩ | exact ⟨T.xe_InvalidNumber, T.xj_InvalidNumber_InvalidStand⟩ | exact ⟨T.xe_NothingToUndo, T.xj_NothingToUndo_InvalidStand⟩ | exact ⟨T.xe_TooMany, T.xj_TooMany_InvalidStand⟩ | exact ⟨T.xe_Refused, T.xj_Refused_InvalidStand⟩ | exact ⟨T.xe_NoQuotient, T.xj_NoQuotient_InvalidStand⟩
def ti_InvalidPaper : Nat → Option Bool
  | 0 => some false
  | 1 => some false
  | 2 => some false
  | 3 => some false
  | 4 => some false
  | 5 => some false
  | 6 => some true
  | 7 => some false
  | 8 => some false
  | 9 => some false
  | 10 => some false
  | 11 => some false
  | 12 => some false
  | 13 => some false
  | 14 => some false
  | 15 => some false
  | _ => none
theorem ti_ok_InvalidPaper (T : Txt K mg A Df) (c : Nat) (b : Bool) (h : ti_InvalidPaper c = some b) : ExcC K (Gm A c) ∧ PySem.W.kitOne K (.ref (Gm A c)) (.ref (Gm A 6)) = some b := by
  unfold ti_InvalidPaper at h; split at h <;> cases h <;> first | exact ⟨T.xe_LineError, T.xj_LineError_InvalidPaper⟩ | exact ⟨T.xe_InvalidGrid, T.xj_InvalidGrid_InvalidPaper⟩ | exact ⟨T.xe_InvalidPoint, T.xj_InvalidPoint_InvalidPaper⟩ | exact ⟨T.xe_InvalidRule, T.xj_InvalidRule_InvalidPaper⟩ | exact ⟨T.xe_InvalidScheme, T.xj_InvalidScheme_InvalidPaper⟩ | exact ⟨T.xe_InvalidStand, T.xj_InvalidStand_InvalidPaper⟩ | exact ⟨T.xe_InvalidPaper, T.xj_InvalidPaper_InvalidPaper⟩ | exact ⟨T.xe_InvalidOperation, T.xj_InvalidOperation_InvalidPaper⟩ | exact ⟨T.xe_ParseError, T.xj_ParseError_InvalidPaper⟩ | exact ⟨T.xe_UnknownLetter, T.xj_UnknownLetter_InvalidPaper⟩ | exact ⟨T.xe_UnknownAddress, T.xj_UnknownAddress_InvalidPaper⟩ | exact ⟨T.xe_InvalidNumber, T.xj_InvalidNumber_InvalidPaper⟩ | exact ⟨T.xe_NothingToUndo, T.xj_NothingToUndo_InvalidPaper⟩ | exact ⟨T.xe_TooMany, T.xj_TooMany_InvalidPaper⟩ | exact ⟨T.xe_Refused, T.xj_Refused_InvalidPaper⟩ | exact ⟨T.xe_NoQuotient, T.xj_NoQuotient_InvalidPaper⟩
def ti_InvalidOperation : Nat → Option Bool
  | 0 => some false
  | 1 => some false
  | 2 => some false
  | 3 => some false
  | 4 => some false
  | 5 => some false
  | 6 => some false
  | 7 => some true
  | 8 => some false
  | 9 => some false
  | 10 => some false
  | 11 => some false
  | 12 => some false
  | 13 => some false
  | 14 => some false
  | 15 => some false
  | _ => none
theorem ti_ok_InvalidOperation (T : Txt K mg A Df) (c : Nat) (b : Bool) (h : ti_InvalidOperation c = some b) : ExcC K (Gm A c) ∧ PySem.W.kitOne K (.ref (Gm A c)) (.ref (Gm A 7)) = some b := by
  unfold ti_InvalidOperation at h; split at h <;> cases h <;> first | exact ⟨T.xe_LineError, T.xj_LineError_InvalidOperation⟩ | exact ⟨T.xe_InvalidGrid, T.xj_InvalidGrid_InvalidOperation⟩ | exact ⟨T.xe_InvalidPoint, T.xj_InvalidPoint_InvalidOperation⟩ | exact ⟨T.xe_InvalidRule, T.xj_InvalidRule_InvalidOperation⟩ | exact ⟨T.xe_InvalidScheme, T.xj_InvalidScheme_InvalidOperation⟩ | exact ⟨T.xe_InvalidStand, T.xj_InvalidStand_InvalidOperation⟩ | exact ⟨T.xe_InvalidPaper, T.xj_InvalidPaper_InvalidOperation⟩ | exact ⟨T.xe_InvalidOperation, T.xj_InvalidOperation_InvalidOperation⟩ | exact ⟨T.xe_ParseError, T.xj_ParseError_InvalidOperation⟩ | exact ⟨T.xe_UnknownLetter, T.xj_UnknownLetter_InvalidOperation⟩ | exact ⟨T.xe_UnknownAddress, T.xj_UnknownAddress_InvalidOperation⟩ | exact ⟨T.xe_InvalidNumber, T.xj_InvalidNumber_InvalidOperation⟩ | exact ⟨T.xe_NothingToUndo, T.xj_NothingToUndo_InvalidOperation⟩ | exact ⟨T.xe_TooMany, T.xj_TooMany_InvalidOperation⟩ | exact ⟨T.xe_Refused, T.xj_Refused_InvalidOperation⟩ | exact ⟨T.xe_NoQuotient, T.xj_NoQuotient_InvalidOperation⟩
def ti_ParseError : Nat → Option Bool
  | 0 => some false
  | 1 => some false
  | 2 => some false
  | 3 => some false
  | 4 => some false
  | 5 => some false
  | 6 => some false
  | 7 => some false
  | 8 => some true
  | 9 => some false
  | 10 => some false
  | 11 => some false
  | 12 => some false
  | 13 => some false
  | 14 => some false
  | 15 => some false
  | _ => none
theorem ti_ok_ParseError (T : Txt K mg A Df) (c : Nat) (b : Bool) (h : ti_ParseError c = some b) : ExcC K (Gm A c) ∧ PySem.W.kitOne K (.ref (Gm A c)) (.ref (Gm A 8)) = some b := by
  unfold ti_ParseError at h; split at h <;> cases h <;> first | exact ⟨T.xe_LineError, T.xj_LineError_ParseError⟩ | exact ⟨T.xe_InvalidGrid, T.xj_InvalidGrid_ParseError⟩ | exact ⟨T.xe_InvalidPoint, T.xj_InvalidPoint_ParseError⟩ | exact ⟨T.xe_InvalidRule, T.xj_InvalidRule_ParseError⟩ | exact ⟨T.xe_InvalidScheme, T.xj_InvalidScheme_ParseError⟩ | exact ⟨T.xe_InvalidStand, T.xj_InvalidStand_ParseError⟩ | exact ⟨T.xe_InvalidPaper, T.xj_InvalidPaper_ParseError⟩ | exact ⟨T.xe_InvalidOperation, T.xj_InvalidOperation_ParseError⟩ | exact ⟨T.xe_ParseError, T.xj_ParseError_ParseError⟩ | exact ⟨T.xe_UnknownLetter, T.xj_UnknownLetter_ParseError⟩ | exact ⟨T.xe_UnknownAddress, T.xj_UnknownAddress_ParseError⟩ | exact ⟨T.xe_InvalidNumber, T.xj_InvalidNumber_ParseError⟩ | exact ⟨T.xe_NothingToUndo, T.xj_NothingToUndo_ParseError⟩ | exact ⟨T.xe_TooMany, T.xj_TooMany_ParseError⟩ | exact ⟨T.xe_Refused, T.xj_Refused_ParseError⟩ | exact ⟨T.xe_NoQuotient, T.xj_NoQuotient_ParseError⟩
def ti_UnknownLetter : Nat → Option Bool
  | 0 => some false
  | 1 => some false
  | 2 => some false
  | 3 => some false
  | 4 => some false
  | 5 => some false
  | 6 => some false
  | 7 => some false
  | 8 => some false
  | 9 => some true
  | 10 => some false
  | 11 => some false
  | 12 => some false
  | 13 => some false
  | 14 => some false
  | 15 => some false
  | _ => none
theorem ti_ok_UnknownLetter (T : Txt K mg A Df) (c : Nat) (b : Bool) (h : ti_UnknownLetter c = some b) : ExcC K (Gm A c) ∧ PySem.W.kitOne K (.ref (Gm A c)) (.ref (Gm A 9)) = some b := by
  unfold ti_UnknownLetter at h; split at h <;> cases h <;> first | exact ⟨T.xe_LineError, T.xj_LineError_UnknownLetter⟩ | exact ⟨T.xe_InvalidGrid, T.xj_InvalidGrid_UnknownLetter⟩ | exact ⟨T.xe_InvalidPoint, T.xj_InvalidPoint_UnknownLetter⟩ | exact ⟨T.xe_InvalidRule, T.xj_InvalidRule_UnknownLetter⟩ | exact ⟨T.xe_InvalidScheme, T.xj_InvalidScheme_UnknownLetter⟩ | exact ⟨T.xe_InvalidStand, T.xj_InvalidStand_UnknownLetter⟩ | exact ⟨T.xe_InvalidPaper, T.xj_InvalidPaper_UnknownLetter⟩ | exact ⟨T.xe_InvalidOperation, T.xj_InvalidOperation_UnknownLetter⟩ | exact ⟨T.xe_ParseError, T.xj_ParseError_UnknownLetter⟩ | exact ⟨T.xe_UnknownLetter, T.xj_UnknownLetter_UnknownLetter⟩ | exact ⟨T.xe_UnknownAddress, T.xj_UnknownAddress_UnknownLetter⟩ | exact ⟨T.xe_InvalidNumber, T.xj_InvalidNumber_UnknownLetter⟩ | exact ⟨T.xe_NothingToUndo, T.xj_NothingToUndo_UnknownLetter⟩ | exact ⟨T.xe_TooMany, T.xj_TooMany_UnknownLetter⟩ | exact ⟨T.xe_Refused, T.xj_Refused_UnknownLetter⟩ | exact ⟨T.xe_NoQuotient, T.xj_NoQuotient_UnknownLetter⟩
def ti_UnknownAddress : Nat → Option Bool
  | 0 => some false
  | 1 => some false
  | 2 => some false
  | 3 => some false
  | 4 => some false
  | 5 => some false
  | 6 => some false
  | 7 => some false
  | 8 => some false
  | 9 => some false
  | 10 => some true
  | 11 => some false
  | 12 => some false
  | 13 => some false
  | 14 => some false
  | 15 => some false
  | _ => none
theorem ti_ok_UnknownAddress (T : Txt K mg A Df) (c : Nat) (b : Bool) (h : ti_UnknownAddress c = some b) : ExcC K (Gm A c) ∧ PySem.W.kitOne K (.ref (Gm A c)) (.ref (Gm A 10)) = some b := by
  unfold ti_UnknownAddress at h; split at h <;> cases h <;> first | exact ⟨T.xe_LineError, T.xj_LineError_UnknownAddress⟩ | exact ⟨T.xe_InvalidGrid, T.xj_InvalidGrid_UnknownAddress⟩ | exact ⟨T.xe_InvalidPoint, T.xj_InvalidPoint_UnknownAddress⟩ | exact ⟨T.xe_InvalidRule, T.xj_InvalidRule_UnknownAddress⟩ | exact ⟨T.xe_InvalidScheme, T.xj_InvalidScheme_UnknownAddress⟩ | exact ⟨T.xe_InvalidStand, T.xj_InvalidStand_UnknownAddress⟩ | exact ⟨T.xe_InvalidPaper, T.xj_InvalidPaper_UnknownAddress⟩ | exact ⟨T.xe_InvalidOperation, T.xj_InvalidOperation_UnknownAddress⟩ | exact ⟨T.xe_ParseError, T.xj_ParseError_UnknownAddress⟩ | exact ⟨T.xe_UnknownLetter, T.xj_UnknownLetter_UnknownAddress⟩ | exact ⟨T.xe_UnknownAddress, T.xj_UnknownAddress_UnknownAddress⟩ | exact ⟨T.xe_InvalidNumber, T.xj_InvalidNumber_UnknownAddress⟩ | exact ⟨T.xe_NothingToUndo, T.xj_NothingToUndo_UnknownAddress⟩ | exact ⟨T.xe_TooMany, T.xj_TooMany_UnknownAddress⟩ | exact ⟨T.xe_Refused, T.xj_Refused_UnknownAddress⟩ | exact ⟨T.xe_NoQuotient, T.xj_NoQuotient_UnknownAddress⟩
def ti_InvalidNumber : Nat → Option Bool
  | 0 => some false
  | 1 => some false
  | 2 => some false
  | 3 => some false
  | 4 => some false
  | 5 => some false
  | 6 => some false
  | 7 => some false
  | 8 => some false
  | 9 => some false
  | 10 => some false
  | 11 => some true
  | 12 => some false
  | 13 => some false
  | 14 => some false
  | 15 => some false
  | _ => none
theorem ti_ok_InvalidNumber (T : Txt K mg A Df) (c : Nat) (b : Bool) (h : ti_InvalidNumber c = some b) : ExcC K (Gm A c) ∧ PySem.W.kitOne K (.ref (Gm A c)) (.ref (Gm A 11)) = some b := by
  unfold ti_InvalidNumber at h; split at h <;> cases h <;> first | exact ⟨T.xe_LineError, T.xj_LineError_InvalidNumber⟩ | exact ⟨T.xe_InvalidGrid, T.xj_InvalidGrid_InvalidNumber⟩ | exact ⟨T.xe_InvalidPoint, T.xj_InvalidPoint_InvalidNumber⟩ | exact ⟨T.xe_InvalidRule, T.xj_InvalidRule_InvalidNumber⟩ | exact ⟨T.xe_InvalidScheme, T.xj_InvalidScheme_InvalidNumber⟩ | exact ⟨T.xe_InvalidStand, T.xj_InvalidStand_InvalidNumber⟩ | exact ⟨T.xe_InvalidPaper, T.xj_InvalidPaper_InvalidNumber⟩ | exact ⟨T.xe_InvalidOperation, T.xj_InvalidOperation_InvalidNumber⟩ | exact ⟨T.xe_ParseError, T.xj_ParseError_InvalidNumber⟩ | exact ⟨T.xe_UnknownLetter, T.xj_UnknownLetter_InvalidNumber⟩ | exact ⟨T.xe_UnknownAddress, T.xj_UnknownAddress_InvalidNumber⟩ | exact ⟨T.xe_InvalidNumber, T.xj_InvalidNumber_InvalidNumber⟩ | exact ⟨T.xe_NothingToUndo, T.xj_NothingToUndo_InvalidNumber⟩ | exact ⟨T.xe_TooMany, T.xj_TooMany_InvalidNumber⟩ | exact ⟨T.xe_Refused, T.xj_Refused_InvalidNumber⟩ | exact ⟨T.xe_NoQuotient, T.xj_NoQuotient_InvalidNumber⟩
def ti_NothingToUndo : Nat → Option Bool
  | 0 => some false
  | 1 => some false
  | 2 => some false
  | 3 => some false
  | 4 => some false
  | 5 => some false
  | 6 => some false
  | 7 => some false
  | 8 => some false
  | 9 => some false
  | 10 => some false
  | 11 => some false
  | 12 => some true
  | 13 => some false
  | 14 => some false
  | 15 => some false
  | _ => none
theorem ti_ok_NothingToUndo (T : Txt K mg A Df) (c : Nat) (b : Bool) (h : ti_NothingToUndo c = some b) : ExcC K (Gm A c) ∧ PySem.W.kitOne K (.ref (Gm A c)) (.ref (Gm A 12)) = some b := by
  unfold ti_NothingToUndo at h; split at h <;> cases h <;> first | exact ⟨T.xe_LineError, T.xj_LineError_NothingToUndo⟩ | exact ⟨T.xe_InvalidGrid, T.xj_InvalidGrid_NothingToUndo⟩ | exact ⟨T.xe_InvalidPoint, T.xj_InvalidPoint_NothingToUndo⟩ | exact ⟨T.xe_InvalidRule, T.xj_InvalidRule_NothingToUndo⟩ | exact ⟨T.xe_InvalidScheme, T.xj_InvalidScheme_NothingToUndo⟩ | exact ⟨T.xe_InvalidStand, T.xj_InvalidStand_NothingToUndo⟩ | exact ⟨T.xe_InvalidPaper, T.xj_InvalidPaper_NothingToUndo⟩ | exact ⟨T.xe_InvalidOperation, T.xj_InvalidOperation_NothingToUndo⟩ | exact ⟨T.xe_ParseError, T.xj_ParseError_NothingToUndo⟩ | exact ⟨T.xe_UnknownLetter, T.xj_UnknownLetter_NothingToUndo⟩ | exact ⟨T.xe_UnknownAddress, T.xj_UnknownAddress_NothingToUndo⟩ | exact ⟨T.xe_InvalidNumber, T.xj_InvalidNumber_NothingToUndo⟩ | exact ⟨T.xe_NothingToUndo, T.xj_NothingToUndo_NothingToUndo⟩ | exact ⟨T.xe_TooMany, T.xj_TooMany_NothingToUndo⟩ | exact ⟨T.xe_Refused, T.xj_Refused_NothingToUndo⟩ | exact ⟨T.xe_NoQuotient, T.xj_NoQuotient_NothingToUndo⟩
def ti_TooMany : Nat → Option Bool
  | 0 => some false
  | 1 => some false
  | 2 => some false
  | 3 => some false
  | 4 => some false
  | 5 => some false
  | 6 => some false
  | 7 => some false
  | 8 => some false
  | 9 => some false
  | 10 => some false
  | 11 => some false
  | 12 => some false
  | 13 => some true
  | 14 => some false
  | 15 => some false
  | _ => none
theorem ti_ok_TooMany (T : Txt K mg A Df) (c : Nat) (b : Bool) (h : ti_TooMany c = some b) : ExcC K (Gm A c) ∧ PySem.W.kitOne K (.ref (Gm A c)) (.ref (Gm A 13)) = some b := by
  unfold ti_TooMany at h; split at h <;> cases h <;> first | exact ⟨T.xe_LineError, T.xj_LineError_TooMany⟩ | exact ⟨T.xe_InvalidGrid, T.xj_InvalidGrid_TooMany⟩ | exact ⟨T.xe_InvalidPoint, T.xj_InvalidPoint_TooMany⟩ | exact ⟨T.xe_InvalidRule, T.xj_InvalidRule_TooMany⟩ | exact ⟨T.xe_InvalidScheme, T.xj_InvalidScheme_TooMany⟩ | exact ⟨T.xe_InvalidStand, T.xj_InvalidStand_TooMany⟩ | exact ⟨T.xe_InvalidPaper, T.xj_InvalidPaper_TooMany⟩ | exact ⟨T.xe_InvalidOperation, T.xj_InvalidOperation_TooMany⟩ | exact ⟨T.xe_ParseError, T.xj_ParseError_TooMany⟩ | exact ⟨T.xe_UnknownLetter, T.xj_UnknownLetter_TooMany⟩ | exact ⟨T.xe_UnknownAddress, T.xj_UnknownAddress_TooMany⟩ | exact ⟨T.xe_InvalidNumber, T.xj_InvalidNumber_TooMany⟩ | exact ⟨T.xe_NothingToUndo, T.xj_NothingToUndo_TooMany⟩ | exact ⟨T.xe_TooMany, T.xj_TooMany_TooMany⟩ | exact ⟨T.xe_Refused, T.xj_Refused_TooMany⟩ | exact ⟨T.xe_NoQuotient, T.xj_NoQuotient_TooMany⟩
def ti_Refused : Nat → Option Bool
  | 0 => some false
  | 1 => some false
  | 2 => some false
  | 3 => some false
  | 4 => some false
  | 5 => some false
  | 6 => some false
  | 7 => some false
  | 8 => some false
  | 9 => some false
  | 10 => some false
  | 11 => some false
  | 12 => some false
  | 13 => some false
  | 14 => some true
  | 15 => some false
  | _ => none
theorem ti_ok_Refused (T : Txt K mg A Df) (c : Nat) (b : Bool) (h : ti_Refused c = some b) : ExcC K (Gm A c) ∧ PySem.W.kitOne K (.ref (Gm A c)) (.ref (Gm A 14)) = some b := by
  unfold ti_Refused at h; split at h <;> cases h <;> first | exact ⟨T.xe_LineError, T.xj_LineError_Refused⟩ | exact ⟨T.xe_InvalidGrid, T.xj_InvalidGrid_Refused⟩ | exact ⟨T.xe_InvalidPoint, T.xj_InvalidPoint_Refused⟩ | exact ⟨T.xe_InvalidRule, T.xj_InvalidRule_Refused⟩ | exact ⟨T.xe_InvalidScheme, T.xj_InvalidScheme_Refused⟩ | exact ⟨T.xe_InvalidStand, T.xj_InvalidStand_Refused⟩ | exact ⟨T.xe_InvalidPaper, T.xj_InvalidPaper_Refused⟩ | exact ⟨T.xe_InvalidOperation, T.xj_InvalidOperation_Refused⟩ | exact ⟨T.xe_ParseError, T.xj_ParseError_Refused⟩ | exact ⟨T.xe_UnknownLetter, T.xj_UnknownLetter_Refused⟩ | exact ⟨T.xe_UnknownAddress, T.xj_UnknownAddress_Refused⟩ | exact ⟨T.xe_InvalidNumber, T.xj_InvalidNumber_Refused⟩ | exact ⟨T.xe_NothingToUndo, T.xj_NothingToUndo_Refused⟩ | exact ⟨T.xe_TooMany, T.xj_TooMany_Refused⟩ | exact ⟨T.xe_Refused, T.xj_Refused_Refused⟩ | exact ⟨T.xe_NoQuotient, T.xj_NoQuotient_Refused⟩
def ti_NoQuotient : Nat → Option Bool
  | 0 => some false
  | 1 => some false
  | 2 => some false
  | 3 => some false
  | 4 => some false
  | 5 => some false
  | 6 => some false
  | 7 => some false
  | 8 => some false
  | 9 => some false
  | 10 => some false
  | 11 => some false
  | 12 => some false
  | 13 => some false
  | 14 => some false
  | 15 => some true
  | _ => none
theorem ti_ok_NoQuotient (T : Txt K mg A Df) (c : Nat) (b : Bool) (h : ti_NoQuotient c = some b) : ExcC K (Gm A c) ∧ PySem.W.kitOne K (.ref (Gm A c)) (.ref (Gm A 15)) = some b := by
  unfold ti_NoQuotient at h; split at h <;> cases h <;> first | exact ⟨T.xe_LineError, T.xj_LineError_NoQuotient⟩ | exact ⟨T.xe_InvalidGrid, T.xj_InvalidGrid_NoQuotient⟩ | exact ⟨T.xe_InvalidPoint, T.xj_InvalidPoint_NoQuotient⟩ | exact ⟨T.xe_InvalidRule, T.xj_InvalidRule_NoQuotient⟩ | exact ⟨T.xe_InvalidScheme, T.xj_InvalidScheme_NoQuotient⟩ | exact ⟨T.xe_InvalidStand, T.xj_InvalidStand_NoQuotient⟩ | exact ⟨T.xe_InvalidPaper, T.xj_InvalidPaper_NoQuotient⟩ | exact ⟨T.xe_InvalidOperation, T.xj_InvalidOperation_NoQuotient⟩ | exact ⟨T.xe_ParseError, T.xj_ParseError_NoQuotient⟩ | exact ⟨T.xe_UnknownLetter, T.xj_UnknownLetter_NoQuotient⟩ | exact ⟨T.xe_UnknownAddress, T.xj_UnknownAddress_NoQuotient⟩ | exact ⟨T.xe_InvalidNumber, T.xj_InvalidNumber_NoQuotient⟩ | exact ⟨T.xe_NothingToUndo, T.xj_NothingToUndo_NoQuotient⟩ | exact ⟨T.xe_TooMany, T.xj_TooMany_NoQuotient⟩ | exact ⟨T.xe_Refused, T.xj_Refused_NoQuotient⟩ | exact ⟨T.xe_NoQuotient, T.xj_NoQuotient_NoQuotient⟩
def m__law_own : Fn := bodyD 1 1
  (seqS (asgS (op2 addD (op2 mulS (cD (.str "g")) (callB intA (consD (isiX ti_InvalidGrid (varD 0)) nilD))) (op2 mulS (cD (.str "p")) (callB intA (consD (isiX ti_InvalidPoint (varD 0)) nilD)))) (nameG 1))
  (seqS (asgS (op2 addD (op2 addD (varD 1) (op2 mulS (cD (.str "r")) (callB intA (consD (isiX ti_InvalidRule (varD 0)) nilD)))) (op2 mulS (cD (.str "s")) (callB intA (consD (isiX ti_InvalidScheme (varD 0)) nilD)))) (nameG 1))
  (seqS (asgS (op2 addD (op2 addD (varD 1) (op2 mulS (cD (.str "d")) (callB intA (consD (isiX ti_InvalidStand (varD 0)) nilD)))) (op2 mulS (cD (.str "q")) (callB intA (consD (isiX ti_InvalidPaper (varD 0)) nilD)))) (nameG 1))
  (seqS (asgS (op2 addD (op2 addD (varD 1) (op2 mulS (cD (.str "o")) (callB intA (consD (isiX ti_InvalidOperation (varD 0)) nilD)))) (op2 mulS (cD (.str "x")) (callB intA (consD (isiX ti_ParseError (varD 0)) nilD)))) (nameG 1))
  (seqS (asgS (op2 addD (op2 addD (varD 1) (op2 mulS (cD (.str "U")) (callB intA (consD (isiX ti_UnknownLetter (varD 0)) nilD)))) (op2 mulS (cD (.str "A")) (callB intA (consD (isiX ti_UnknownAddress (varD 0)) nilD)))) (nameG 1))
  (seqS (asgS (op2 addD (op2 addD (varD 1) (op2 mulS (cD (.str "N")) (callB intA (consD (isiX ti_InvalidNumber (varD 0)) nilD)))) (op2 mulS (cD (.str "Z")) (callB intA (consD (isiX ti_NothingToUndo (varD 0)) nilD)))) (nameG 1))
  (seqS (asgS (op2 addD (op2 addD (varD 1) (op2 mulS (cD (.str "M")) (callB intA (consD (isiX ti_TooMany (varD 0)) nilD)))) (op2 mulS (cD (.str "R")) (callB intA (consD (isiX ti_Refused (varD 0)) nilD)))) (nameG 1))
  (retS (op2 addD (varD 1) (op2 mulS (cD (.str "Q")) (callB intA (consD (isiX ti_NoQuotient (varD 0)) nilD))))))))))))
theorem ok__law_own (T : Txt K mg A Df) (nd : base.NoDigits) : FnOk P w K mg base (L2.CX P w) 1 A.a__law_own Df.d__law_own ["_law_error"] (spD K (Gm A) m__law_own) := by
  refine okD T.F__law_own sc__law_own rfl fun cdv Ar outer s H E hr => ?_
  exact ⟨_, (ds_cons (ds_set (i := 1) sc__law_own.nd rfl (.inl rfl) (de_op op_addA og_add (de_op op_mulS og_mulS de_str (de_callTy call_intA cg_intA (by rfl) T.z_int (by decide +kernel) (da_cons (de_isiXC (k := 1) (ti_ok_InvalidGrid T) (by rfl) T.z_isinstance (by rfl) T.g_InvalidGrid ⟨pv 0, gd_var⟩) da_nil))) (de_op op_mulS og_mulS de_str (de_callTy call_intA cg_intA (by rfl) T.z_int (by decide +kernel) (da_cons (de_isiXC (k := 2) (ti_ok_InvalidPoint T) (by rfl) T.z_isinstance (by rfl) T.g_InvalidPoint ⟨pv 0, gd_var⟩) da_nil)))))
    (ds_cons (ds_set (i := 1) sc__law_own.nd rfl (.inl rfl) (de_op op_addA og_add (de_op op_addA og_add ⟨pv 1, gd_var⟩ (de_op op_mulS og_mulS de_str (de_callTy call_intA cg_intA (by rfl) T.z_int (by decide +kernel) (da_cons (de_isiXC (k := 3) (ti_ok_InvalidRule T) (by rfl) T.z_isinstance (by rfl) T.g_InvalidRule ⟨pv 0, gd_var⟩) da_nil)))) (de_op op_mulS og_mulS de_str (de_callTy call_intA cg_intA (by rfl) T.z_int (by decide +kernel) (da_cons (de_isiXC (k := 4) (ti_ok_InvalidScheme T) (by rfl) T.z_isinstance (by rfl) T.g_InvalidScheme ⟨pv 0, gd_var⟩) da_nil)))))
    (ds_cons (ds_set (i := 1) sc__law_own.nd rfl (.inl rfl) (de_op op_addA og_add (de_op op_addA og_add ⟨pv 1, gd_var⟩ (de_op op_mulS og_mulS de_str (de_callTy call_intA cg_intA (by rfl) T.z_int (by decide +kernel) (da_cons (de_isiXC (k := 5) (ti_ok_InvalidStand T) (by rfl) T.z_isinstance (by rfl) T.g_InvalidStand ⟨pv 0, gd_var⟩) da_nil)))) (de_op op_mulS og_mulS de_str (de_callTy call_intA cg_intA (by rfl) T.z_int (by decide +kernel) (da_cons (de_isiXC (k := 6) (ti_ok_InvalidPaper T) (by rfl) T.z_isinstance (by rfl) T.g_InvalidPaper ⟨pv 0, gd_var⟩) da_nil)))))
    (ds_cons (ds_set (i := 1) sc__law_own.nd rfl (.inl rfl) (de_op op_addA og_add (de_op op_addA og_add ⟨pv 1, gd_var⟩ (de_op op_mulS og_mulS de_str (de_callTy call_intA cg_intA (by rfl) T.z_int (by decide +kernel) (da_cons (de_isiXC (k := 7) (ti_ok_InvalidOperation T) (by rfl) T.z_isinstance (by rfl) T.g_InvalidOperation ⟨pv 0, gd_var⟩) da_nil)))) (de_op op_mulS og_mulS de_str (de_callTy call_intA cg_intA (by rfl) T.z_int (by decide +kernel) (da_cons (de_isiXC (k := 8) (ti_ok_ParseError T) (by rfl) T.z_isinstance (by rfl) T.g_ParseError ⟨pv 0, gd_var⟩) da_nil)))))
    (ds_cons (ds_set (i := 1) sc__law_own.nd rfl (.inl rfl) (de_op op_addA og_add (de_op op_addA og_add ⟨pv 1, gd_var⟩ (de_op op_mulS og_mulS de_str (de_callTy call_intA cg_intA (by rfl) T.z_int (by decide +kernel) (da_cons (de_isiXC (k := 9) (ti_ok_UnknownLetter T) (by rfl) T.z_isinstance (by rfl) T.g_UnknownLetter ⟨pv 0, gd_var⟩) da_nil)))) (de_op op_mulS og_mulS de_str (de_callTy call_intA cg_intA (by rfl) T.z_int (by decide +kernel) (da_cons (de_isiXC (k := 10) (ti_ok_UnknownAddress T) (by rfl) T.z_isinstance (by rfl) T.g_UnknownAddress ⟨pv 0, gd_var⟩) da_nil)))))
    (ds_cons (ds_set (i := 1) sc__law_own.nd rfl (.inl rfl) (de_op op_addA og_add (de_op op_addA og_add ⟨pv 1, gd_var⟩ (de_op op_mulS og_mulS de_str (de_callTy call_intA cg_intA (by rfl) T.z_int (by decide +kernel) (da_cons (de_isiXC (k := 11) (ti_ok_InvalidNumber T) (by rfl) T.z_isinstance (by rfl) T.g_InvalidNumber ⟨pv 0, gd_var⟩) da_nil)))) (de_op op_mulS og_mulS de_str (de_callTy call_intA cg_intA (by rfl) T.z_int (by decide +kernel) (da_cons (de_isiXC (k := 12) (ti_ok_NothingToUndo T) (by rfl) T.z_isinstance (by rfl) T.g_NothingToUndo ⟨pv 0, gd_var⟩) da_nil)))))
    (ds_cons (ds_set (i := 1) sc__law_own.nd rfl (.inl rfl) (de_op op_addA og_add (de_op op_addA og_add ⟨pv 1, gd_var⟩ (de_op op_mulS og_mulS de_str (de_callTy call_intA cg_intA (by rfl) T.z_int (by decide +kernel) (da_cons (de_isiXC (k := 13) (ti_ok_TooMany T) (by rfl) T.z_isinstance (by rfl) T.g_TooMany ⟨pv 0, gd_var⟩) da_nil)))) (de_op op_mulS og_mulS de_str (de_callTy call_intA cg_intA (by rfl) T.z_int (by decide +kernel) (da_cons (de_isiXC (k := 14) (ti_ok_Refused T) (by rfl) T.z_isinstance (by rfl) T.g_Refused ⟨pv 0, gd_var⟩) da_nil)))))
    (ds_one (ds_ret (de_op op_addA og_add ⟨pv 1, gd_var⟩ (de_op op_mulS og_mulS de_str (de_callTy call_intA cg_intA (by rfl) T.z_int (by decide +kernel) (da_cons (de_isiXC (k := 15) (ti_ok_NoQuotient T) (by rfl) T.z_isinstance (by rfl) T.g_NoQuotient ⟨pv 0, gd_var⟩) da_nil)))))))))))))⟩
def mS__law_own : Fn := body0 1 1
  (seqS (asgS (op2 addD (op2 mulS (cD (.str "g")) (callB intA (consD (isiX ti_InvalidGrid (varD 0)) nilD))) (op2 mulS (cD (.str "p")) (callB intA (consD (isiX ti_InvalidPoint (varD 0)) nilD)))) (nameG 1))
  (seqS (asgS (op2 addD (op2 addD (varD 1) (op2 mulS (cD (.str "r")) (callB intA (consD (isiX ti_InvalidRule (varD 0)) nilD)))) (op2 mulS (cD (.str "s")) (callB intA (consD (isiX ti_InvalidScheme (varD 0)) nilD)))) (nameG 1))
  (seqS (asgS (op2 addD (op2 addD (varD 1) (op2 mulS (cD (.str "d")) (callB intA (consD (isiX ti_InvalidStand (varD 0)) nilD)))) (op2 mulS (cD (.str "q")) (callB intA (consD (isiX ti_InvalidPaper (varD 0)) nilD)))) (nameG 1))
  (seqS (asgS (op2 addD (op2 addD (varD 1) (op2 mulS (cD (.str "o")) (callB intA (consD (isiX ti_InvalidOperation (varD 0)) nilD)))) (op2 mulS (cD (.str "x")) (callB intA (consD (isiX ti_ParseError (varD 0)) nilD)))) (nameG 1))
  (seqS (asgS (op2 addD (op2 addD (varD 1) (op2 mulS (cD (.str "U")) (callB intA (consD (isiX ti_UnknownLetter (varD 0)) nilD)))) (op2 mulS (cD (.str "A")) (callB intA (consD (isiX ti_UnknownAddress (varD 0)) nilD)))) (nameG 1))
  (seqS (asgS (op2 addD (op2 addD (varD 1) (op2 mulS (cD (.str "N")) (callB intA (consD (isiX ti_InvalidNumber (varD 0)) nilD)))) (op2 mulS (cD (.str "Z")) (callB intA (consD (isiX ti_NothingToUndo (varD 0)) nilD)))) (nameG 1))
  (seqS (asgS (op2 addD (op2 addD (varD 1) (op2 mulS (cD (.str "M")) (callB intA (consD (isiX ti_TooMany (varD 0)) nilD)))) (op2 mulS (cD (.str "R")) (callB intA (consD (isiX ti_Refused (varD 0)) nilD)))) (nameG 1))
  (retS (op2 addD (varD 1) (op2 mulS (cD (.str "Q")) (callB intA (consD (isiX ti_NoQuotient (varD 0)) nilD))))))))))))
theorem nbS__law_own (xs : List D) (s : Sto) : mS__law_own xs s = nb (mS__law_own xs s) := body0_nb xs s
theorem okS__law_own (T : Txt K mg A Df) : FnS P w K mg base 1 A.a__law_own Df.d__law_own ["_law_error"] (spD K (Gm A) mS__law_own) := by
  refine okDS T.F__law_own sc__law_own rfl fun cdv Ar outer s H E => ?_
  exact ⟨_, (ds_cons (ds_set (i := 1) sc__law_own.nd rfl (.inl rfl) (de_op op_addA og_add (de_op op_mulS og_mulS de_str (de_callTy call_intA cg_intA (by rfl) T.z_int (by decide +kernel) (da_cons (de_isiXC (k := 1) (ti_ok_InvalidGrid T) (by rfl) T.z_isinstance (by rfl) T.g_InvalidGrid ⟨pv 0, gd_var⟩) da_nil))) (de_op op_mulS og_mulS de_str (de_callTy call_intA cg_intA (by rfl) T.z_int (by decide +kernel) (da_cons (de_isiXC (k := 2) (ti_ok_InvalidPoint T) (by rfl) T.z_isinstance (by rfl) T.g_InvalidPoint ⟨pv 0, gd_var⟩) da_nil)))))
    (ds_cons (ds_set (i := 1) sc__law_own.nd rfl (.inl rfl) (de_op op_addA og_add (de_op op_addA og_add ⟨pv 1, gd_var⟩ (de_op op_mulS og_mulS de_str (de_callTy call_intA cg_intA (by rfl) T.z_int (by decide +kernel) (da_cons (de_isiXC (k := 3) (ti_ok_InvalidRule T) (by rfl) T.z_isinstance (by rfl) T.g_InvalidRule ⟨pv 0, gd_var⟩) da_nil)))) (de_op op_mulS og_mulS de_str (de_callTy call_intA cg_intA (by rfl) T.z_int (by decide +kernel) (da_cons (de_isiXC (k := 4) (ti_ok_InvalidScheme T) (by rfl) T.z_isinstance (by rfl) T.g_InvalidScheme ⟨pv 0, gd_var⟩) da_nil)))))
    (ds_cons (ds_set (i := 1) sc__law_own.nd rfl (.inl rfl) (de_op op_addA og_add (de_op op_addA og_add ⟨pv 1, gd_var⟩ (de_op op_mulS og_mulS de_str (de_callTy call_intA cg_intA (by rfl) T.z_int (by decide +kernel) (da_cons (de_isiXC (k := 5) (ti_ok_InvalidStand T) (by rfl) T.z_isinstance (by rfl) T.g_InvalidStand ⟨pv 0, gd_var⟩) da_nil)))) (de_op op_mulS og_mulS de_str (de_callTy call_intA cg_intA (by rfl) T.z_int (by decide +kernel) (da_cons (de_isiXC (k := 6) (ti_ok_InvalidPaper T) (by rfl) T.z_isinstance (by rfl) T.g_InvalidPaper ⟨pv 0, gd_var⟩) da_nil)))))
    (ds_cons (ds_set (i := 1) sc__law_own.nd rfl (.inl rfl) (de_op op_addA og_add (de_op op_addA og_add ⟨pv 1, gd_var⟩ (de_op op_mulS og_mulS de_str (de_callTy call_intA cg_intA (by rfl) T.z_int (by decide +kernel) (da_cons (de_isiXC (k := 7) (ti_ok_InvalidOperation T) (by rfl) T.z_isinstance (by rfl) T.g_InvalidOperation ⟨pv 0, gd_var⟩) da_nil)))) (de_op op_mulS og_mulS de_str (de_callTy call_intA cg_intA (by rfl) T.z_int (by decide +kernel) (da_cons (de_isiXC (k := 8) (ti_ok_ParseError T) (by rfl) T.z_isinstance (by rfl) T.g_ParseError ⟨pv 0, gd_var⟩) da_nil)))))
    (ds_cons (ds_set (i := 1) sc__law_own.nd rfl (.inl rfl) (de_op op_addA og_add (de_op op_addA og_add ⟨pv 1, gd_var⟩ (de_op op_mulS og_mulS de_str (de_callTy call_intA cg_intA (by rfl) T.z_int (by decide +kernel) (da_cons (de_isiXC (k := 9) (ti_ok_UnknownLetter T) (by rfl) T.z_isinstance (by rfl) T.g_UnknownLetter ⟨pv 0, gd_var⟩) da_nil)))) (de_op op_mulS og_mulS de_str (de_callTy call_intA cg_intA (by rfl) T.z_int (by decide +kernel) (da_cons (de_isiXC (k := 10) (ti_ok_UnknownAddress T) (by rfl) T.z_isinstance (by rfl) T.g_UnknownAddress ⟨pv 0, gd_var⟩) da_nil)))))
    (ds_cons (ds_set (i := 1) sc__law_own.nd rfl (.inl rfl) (de_op op_addA og_add (de_op op_addA og_add ⟨pv 1, gd_var⟩ (de_op op_mulS og_mulS de_str (de_callTy call_intA cg_intA (by rfl) T.z_int (by decide +kernel) (da_cons (de_isiXC (k := 11) (ti_ok_InvalidNumber T) (by rfl) T.z_isinstance (by rfl) T.g_InvalidNumber ⟨pv 0, gd_var⟩) da_nil)))) (de_op op_mulS og_mulS de_str (de_callTy call_intA cg_intA (by rfl) T.z_int (by decide +kernel) (da_cons (de_isiXC (k := 12) (ti_ok_NothingToUndo T) (by rfl) T.z_isinstance (by rfl) T.g_NothingToUndo ⟨pv 0, gd_var⟩) da_nil)))))
    (ds_cons (ds_set (i := 1) sc__law_own.nd rfl (.inl rfl) (de_op op_addA og_add (de_op op_addA og_add ⟨pv 1, gd_var⟩ (de_op op_mulS og_mulS de_str (de_callTy call_intA cg_intA (by rfl) T.z_int (by decide +kernel) (da_cons (de_isiXC (k := 13) (ti_ok_TooMany T) (by rfl) T.z_isinstance (by rfl) T.g_TooMany ⟨pv 0, gd_var⟩) da_nil)))) (de_op op_mulS og_mulS de_str (de_callTy call_intA cg_intA (by rfl) T.z_int (by decide +kernel) (da_cons (de_isiXC (k := 14) (ti_ok_Refused T) (by rfl) T.z_isinstance (by rfl) T.g_Refused ⟨pv 0, gd_var⟩) da_nil)))))
    (ds_one (ds_ret (de_op op_addA og_add ⟨pv 1, gd_var⟩ (de_op op_mulS og_mulS de_str (de_callTy call_intA cg_intA (by rfl) T.z_int (by decide +kernel) (da_cons (de_isiXC (k := 15) (ti_ok_NoQuotient T) (by rfl) T.z_isinstance (by rfl) T.g_NoQuotient ⟨pv 0, gd_var⟩) da_nil)))))))))))))⟩

def tk__law_caught_LineError : Nat → Option Bool
  | 3 => some true
  | 9 => some false
  | 10 => some false
  | 11 => some false
  | 12 => some false
  | 13 => some false
  | 14 => some false
  | 15 => some false
  | _ => none
def tk__law_caught_NoQuotient : Nat → Option Bool
  | 0 => some false
  | 1 => some false
  | 2 => some false
  | 3 => some false
  | 4 => some false
  | 5 => some false
  | 6 => some false
  | 7 => some false
  | 8 => some false
  | 9 => some false
  | 10 => some false
  | 11 => some false
  | 12 => some false
  | 13 => some false
  | 14 => some false
  | 15 => some true
  | _ => none
def tk__law_caught_UnknownAddress : Nat → Option Bool
  | 0 => some false
  | 1 => some false
  | 2 => some false
  | 3 => some false
  | 4 => some false
  | 5 => some false
  | 6 => some false
  | 7 => some false
  | 8 => some false
  | 9 => some false
  | 10 => some true
  | 11 => some false
  | 12 => some false
  | 13 => some false
  | 14 => some false
  | 15 => some false
  | _ => none
def cl__law_caught : List Clr := [⟨tk__law_caught_LineError, (runOwn 3 (ownW "base " mS__law_own))⟩, ⟨tk__law_caught_NoQuotient, (retRepV "quotient " "divisor")⟩, ⟨tk__law_caught_UnknownAddress, (retRepV "lost " "lost")⟩]
def m__law_caught : Fn := body0 2 1
  (tryR cl__law_caught (seqS (ifS (testD (op2 eqD (varD 1) (cD (.int 0))))
  (errS 3)
  nilS)
  (seqS (ifS (testD (op2 eqD (varD 1) (cD (.int 1))))
  (errV 15 "divisor" (varD 0))
  nilS)
  (errV 10 "lost" (varD 0)))))
theorem nb__law_caught (xs : List D) (s : Sto) : m__law_caught xs s = nb (m__law_caught xs s) := body0_nb xs s
theorem ok__law_caught (T : Txt K mg A Df) (nd : base.NoDigits) : Gl.FnG P w K mg base CX0 3 A.a__law_caught Df.d__law_caught ["_law_value", "_law_way"] (spD K (Gm A) m__law_caught) := by
  have S__law_own := okS__law_own (P := P) (w := w) (base := base) T
  have X_NoQuotient___init__ := ok_NoQuotient___init__ (P := P) (w := w) (base := base) T nd
  have X_UnknownAddress___init__ := ok_UnknownAddress___init__ (P := P) (w := w) (base := base) T nd
  refine okD0 T.F__law_caught sc__law_caught rfl fun cdv Ar outer s H E hG hr => ?_
  exact ⟨_, (ds_one (ds_try rfl rfl takes0 (fun W pn xe tk => (ds_cons (ds_if (dt_cmp (op_eqA hr) og_eq ⟨pv 1, gd_var⟩ de_int (nomark _))
    (ds_one (ds_raise0 (Γ := Gm A) (c := 3) rfl tk T.xa_InvalidRule T.g_InvalidRule (by rfl)))
    ds_nil)
    (ds_cons (ds_if (dt_cmp (op_eqA hr) og_eq ⟨pv 1, gd_var⟩ de_int (nomark _))
    (ds_one (ds_raise1 (Γ := Gm A) (c := 15) rfl tk T.xb_NoQuotient X_NoQuotient___init__ (hr.mono (by decide)) T.b_NoQuotient___init__ T.g_NoQuotient (by rfl) ⟨pv 0, gd_var⟩))
    ds_nil)
    (ds_one (ds_raise1 (Γ := Gm A) (c := 10) rfl tk T.xb_UnknownAddress X_UnknownAddress___init__ (hr.mono (by decide)) T.b_UnknownAddress___init__ T.g_UnknownAddress (by rfl) ⟨pv 0, gd_var⟩))))) (Ex.HOk3.own_ (i := 2) sc__law_caught.nd rfl rfl ⟨(by rfl), (by decide), Or.inl T.g_LineError⟩ rfl (fun _ _ _ _ => pss_one (ps_ret (pe_op (op_addA rfl) pe_str (pe_callSo S__law_own (L2H.roomH_of (hr.mono (by decide))).mark (by rfl) T.g__law_own T.F__law_own.kp T.b__law_own (pa_cons (pv 2) pa_nil))))) (Ex.HOk3.as_ (i := 2) sc__law_caught.nd rfl rfl ⟨(by rfl), (by decide), Or.inl T.g_NoQuotient⟩ (fun _ _ _ _ _ hz hf => pss_one (ps_ret (pe_op (op_addA rfl) pe_str (pe_callB (call_reprVU hr.units hG nd) (by rfl) T.z_repr (by decide +kernel) (pa_cons (pe_xf T.xb_NoQuotient.xf T.xb_NoQuotient.no hz hf (pv 2)) pa_nil))))) (Ex.HOk3.as_ (i := 2) sc__law_caught.nd rfl rfl ⟨(by rfl), (by decide), Or.inl T.g_UnknownAddress⟩ (fun _ _ _ _ _ hz hf => pss_one (ps_ret (pe_op (op_addA rfl) pe_str (pe_callB (call_reprVU hr.units hG nd) (by rfl) T.z_repr (by decide +kernel) (pa_cons (pe_xf T.xb_UnknownAddress.xf T.xb_UnknownAddress.no hz hf (pv 2)) pa_nil))))) Ex.HOk3.nil))) (ClOk.cons (by intro c b h; have h : tk__law_caught_LineError c = some b := h; unfold tk__law_caught_LineError at h; split at h <;> cases h <;> first | exact T.xm_LineError_LineError | exact T.xm_InvalidGrid_LineError | exact T.xm_InvalidPoint_LineError | exact T.xm_InvalidRule_LineError | exact T.xm_InvalidScheme_LineError | exact T.xm_InvalidStand_LineError | exact T.xm_InvalidPaper_LineError | exact T.xm_InvalidOperation_LineError | exact T.xm_ParseError_LineError | exact T.xm_UnknownLetter_LineError | exact T.xm_UnknownAddress_LineError | exact T.xm_InvalidNumber_LineError | exact T.xm_NothingToUndo_LineError | exact T.xm_TooMany_LineError | exact T.xm_Refused_LineError | exact T.xm_NoQuotient_LineError) (by intro c p a dd E σ H G F ι s hi hz hr he hp; have hz : tk__law_caught_LineError c = some true := hz; unfold tk__law_caught_LineError at hz; split at hz <;> first | (cases hz; done) | exact cl_own (gd_own nbS__law_own) (own_eq nbS__law_own) (hi _ rfl) hr he hp) (ClOk.cons (by intro c b h; have h : tk__law_caught_NoQuotient c = some b := h; unfold tk__law_caught_NoQuotient at h; split at h <;> cases h <;> first | exact T.xm_LineError_NoQuotient | exact T.xm_InvalidGrid_NoQuotient | exact T.xm_InvalidPoint_NoQuotient | exact T.xm_InvalidRule_NoQuotient | exact T.xm_InvalidScheme_NoQuotient | exact T.xm_InvalidStand_NoQuotient | exact T.xm_InvalidPaper_NoQuotient | exact T.xm_InvalidOperation_NoQuotient | exact T.xm_ParseError_NoQuotient | exact T.xm_UnknownLetter_NoQuotient | exact T.xm_UnknownAddress_NoQuotient | exact T.xm_InvalidNumber_NoQuotient | exact T.xm_NothingToUndo_NoQuotient | exact T.xm_TooMany_NoQuotient | exact T.xm_Refused_NoQuotient | exact T.xm_NoQuotient_NoQuotient) (by intro c p a dd E σ H G F ι s hi hz hr he hp; have hz : tk__law_caught_NoQuotient c = some true := hz; unfold tk__law_caught_NoQuotient at hz; split at hz <;> first | (cases hz; done) | exact cl_reprV (hi _ rfl) hr he hp) (ClOk.cons (by intro c b h; have h : tk__law_caught_UnknownAddress c = some b := h; unfold tk__law_caught_UnknownAddress at h; split at h <;> cases h <;> first | exact T.xm_LineError_UnknownAddress | exact T.xm_InvalidGrid_UnknownAddress | exact T.xm_InvalidPoint_UnknownAddress | exact T.xm_InvalidRule_UnknownAddress | exact T.xm_InvalidScheme_UnknownAddress | exact T.xm_InvalidStand_UnknownAddress | exact T.xm_InvalidPaper_UnknownAddress | exact T.xm_InvalidOperation_UnknownAddress | exact T.xm_ParseError_UnknownAddress | exact T.xm_UnknownLetter_UnknownAddress | exact T.xm_UnknownAddress_UnknownAddress | exact T.xm_InvalidNumber_UnknownAddress | exact T.xm_NothingToUndo_UnknownAddress | exact T.xm_TooMany_UnknownAddress | exact T.xm_Refused_UnknownAddress | exact T.xm_NoQuotient_UnknownAddress) (by intro c p a dd E σ H G F ι s hi hz hr he hp; have hz : tk__law_caught_UnknownAddress c = some true := hz; unfold tk__law_caught_UnknownAddress at hz; split at hz <;> first | (cases hz; done) | exact cl_reprV (hi _ rfl) hr he hp) ClOk.nil))) (by intro z hz i hi; simp only [List.mem_cons, List.not_mem_nil, or_false] at hz; rcases hz with rfl | rfl | rfl <;> first | (cases hi; done) | (cases hi; exact Nat.le_of_ble_eq_true rfl))))⟩

def m__law_due_messages : Fn := bodyD 0 1
  (retS (op2 addD (lcD (itD (tupD (consD (cD (.str "g")) (consD (cD (.str "p")) (consD (cD (.str "r")) (consD (cD (.str "s")) (consD (cD (.str "d")) (consD (cD (.str "q")) (consD (cD (.str "o")) nilD))))))))) (nameG 0) yesD (op2 addD (varD 0) (cD (.str " line value "))) [0]) (lstD (consD (cD (.str " line value ")) nilD))))
theorem ok__law_due_messages (T : Txt K mg A Df) (nd : base.NoDigits) : FnOk P w K mg base (L2.CX P w) 1 A.a__law_due_messages Df.d__law_due_messages [] (spD K (Gm A) m__law_due_messages) := by
  refine okD T.F__law_due_messages sc__law_due_messages rfl fun cdv Ar outer s H E hr => ?_
  exact ⟨_, (ds_one (ds_ret (de_op op_addA og_add (de_lc (own := [("_law_letter", 0)]) (by rfl) sc__law_due_messages.nd (di_any (de_tup (da_cons de_str (da_cons de_str (da_cons de_str (da_cons de_str (da_cons de_str (da_cons de_str (da_cons de_str da_nil))))))))) (blkOk_by (own := [("_law_letter", 0)]) (N := ["_law_letter"]) (sc := defScope s__law_due_messages) (by decide +kernel)) (fun _ _ _ _ _ => (dg_name (i := 0) sc__law_due_messages.nd rfl (.inl rfl))) (fun _ _ _ _ _ => dts_nil) (fun _ _ _ _ _ => (de_op op_addA og_add ⟨pv 0, gd_var⟩ de_str))) (de_lst (da_cons de_str da_nil)))))⟩

theorem ok_InvalidNumber___init__ (T : Txt K mg A Df) (nd : base.NoDigits) : FnOk P w K mg base (L2.CX P w) 1 A.a_InvalidNumber___init__ Df.d_InvalidNumber___init__ ["self", "value"] (Ex.spInit K "value") := Ex.okInit T.F_InvalidNumber___init__ sc_InvalidNumber___init__ rfl (Or.inl rfl) (Or.inl rfl) (by decide) (by decide) (by decide) (by decide) (fun _ => rfl)

theorem ok_NothingToUndo___init__ (T : Txt K mg A Df) (nd : base.NoDigits) : FnOk P w K mg base (L2.CX P w) 1 A.a_NothingToUndo___init__ Df.d_NothingToUndo___init__ ["self", "many"] (Ex.spInit K "many") := Ex.okInit T.F_NothingToUndo___init__ sc_NothingToUndo___init__ rfl (Or.inl rfl) (Or.inl rfl) (by decide) (by decide) (by decide) (by decide) (fun _ => rfl)

theorem ok_ParseError___init__ (T : Txt K mg A Df) (nd : base.NoDigits) : FnOk P w K mg base (L2.CX P w) 1 A.a_ParseError___init__ Df.d_ParseError___init__ ["self", "number"] (Ex.spInit K "number") := Ex.okInit T.F_ParseError___init__ sc_ParseError___init__ rfl (Or.inl rfl) (Or.inl rfl) (by decide) (by decide) (by decide) (by decide) (fun _ => rfl)

theorem ok_Refused___init__ (T : Txt K mg A Df) (nd : base.NoDigits) : FnOk P w K mg base (L2.CX P w) 1 A.a_Refused___init__ Df.d_Refused___init__ ["self", "pledge"] (Ex.spInit K "pledge") := Ex.okInit T.F_Refused___init__ sc_Refused___init__ rfl (Or.inl rfl) (Or.inl rfl) (by decide) (by decide) (by decide) (by decide) (fun _ => rfl)

theorem ok_TooMany___init__ (T : Txt K mg A Df) (nd : base.NoDigits) : FnOk P w K mg base (L2.CX P w) 1 A.a_TooMany___init__ Df.d_TooMany___init__ ["self", "limit"] (Ex.spInit K "limit") := Ex.okInit T.F_TooMany___init__ sc_TooMany___init__ rfl (Or.inl rfl) (Or.inl rfl) (by decide) (by decide) (by decide) (by decide) (fun _ => rfl)

theorem ok_UnknownLetter___init__ (T : Txt K mg A Df) (nd : base.NoDigits) : FnOk P w K mg base (L2.CX P w) 1 A.a_UnknownLetter___init__ Df.d_UnknownLetter___init__ ["self", "word"] (Ex.spInit K "word") := Ex.okInit T.F_UnknownLetter___init__ sc_UnknownLetter___init__ rfl (Or.inl rfl) (Or.inl rfl) (by decide) (by decide) (by decide) (by decide) (fun _ => rfl)

def ti_LineError : Nat → Option Bool
  | 0 => some true
  | 1 => some true
  | 2 => some true
  | 3 => some true
  | 4 => some true
  | 5 => some true
  | 6 => some true
  | 7 => some true
  | 8 => some true
  | 9 => some false
  | 10 => some false
  | 11 => some false
  | 12 => some false
  | 13 => some false
  | 14 => some false
  | 15 => some false
  | _ => none
theorem ti_ok_LineError (T : Txt K mg A Df) (c : Nat) (b : Bool) (h : ti_LineError c = some b) : ExcC K (Gm A c) ∧ PySem.W.kitOne K (.ref (Gm A c)) (.ref (Gm A 0)) = some b := by
  unfold ti_LineError at h; split at h <;> cases h <;> first | exact ⟨T.xe_LineError, T.xj_LineError_LineError⟩ | exact ⟨T.xe_InvalidGrid, T.xj_InvalidGrid_LineError⟩ | exact ⟨T.xe_InvalidPoint, T.xj_InvalidPoint_LineError⟩ | exact ⟨T.xe_InvalidRule, T.xj_InvalidRule_LineError⟩ | exact ⟨T.xe_InvalidScheme, T.xj_InvalidScheme_LineError⟩ | exact ⟨T.xe_InvalidStand, T.xj_InvalidStand_LineError⟩ | exact ⟨T.xe_InvalidPaper, T.xj_InvalidPaper_LineError⟩ | exact ⟨T.xe_InvalidOperation, T.xj_InvalidOperation_LineError⟩ | exact ⟨T.xe_ParseError, T.xj_ParseError_LineError⟩ | exact ⟨T.xe_UnknownLetter, T.xj_UnknownLetter_LineError⟩ | exact ⟨T.xe_UnknownAddress, T.xj_UnknownAddress_LineError⟩ | exact ⟨T.xe_InvalidNumber, T.xj_InvalidNumber_LineError⟩ | exact ⟨T.xe_NothingToUndo, T.xj_NothingToUndo_LineError⟩ | exact ⟨T.xe_TooMany, T.xj_TooMany_LineError⟩ | exact ⟨T.xe_Refused, T.xj_Refused_LineError⟩ | exact ⟨T.xe_NoQuotient, T.xj_NoQuotient_LineError⟩
def ti_ValueError : Nat → Option Bool
  | 0 => some true
  | 1 => some true
  | 2 => some true
  | 3 => some true
  | 4 => some true
  | 5 => some true
  | 6 => some true
  | 7 => some true
  | 8 => some true
  | 9 => some false
  | 10 => some false
  | 11 => some false
  | 12 => some false
  | 13 => some false
  | 14 => some false
  | 15 => some false
  | _ => none
theorem ti_ok_ValueError (T : Txt K mg A Df) (c : Nat) (b : Bool) (h : ti_ValueError c = some b) : ExcC K (Gm A c) ∧ PySem.W.kitOne K (.ref (Gm A c)) (.type "ValueError") = some b := by
  unfold ti_ValueError at h; split at h <;> cases h <;> first | exact ⟨T.xe_LineError, T.xj_LineError_ValueError⟩ | exact ⟨T.xe_InvalidGrid, T.xj_InvalidGrid_ValueError⟩ | exact ⟨T.xe_InvalidPoint, T.xj_InvalidPoint_ValueError⟩ | exact ⟨T.xe_InvalidRule, T.xj_InvalidRule_ValueError⟩ | exact ⟨T.xe_InvalidScheme, T.xj_InvalidScheme_ValueError⟩ | exact ⟨T.xe_InvalidStand, T.xj_InvalidStand_ValueError⟩ | exact ⟨T.xe_InvalidPaper, T.xj_InvalidPaper_ValueError⟩ | exact ⟨T.xe_InvalidOperation, T.xj_InvalidOperation_ValueError⟩ | exact ⟨T.xe_ParseError, T.xj_ParseError_ValueError⟩ | exact ⟨T.xe_UnknownLetter, T.xj_UnknownLetter_ValueError⟩ | exact ⟨T.xe_UnknownAddress, T.xj_UnknownAddress_ValueError⟩ | exact ⟨T.xe_InvalidNumber, T.xj_InvalidNumber_ValueError⟩ | exact ⟨T.xe_NothingToUndo, T.xj_NothingToUndo_ValueError⟩ | exact ⟨T.xe_TooMany, T.xj_TooMany_ValueError⟩ | exact ⟨T.xe_Refused, T.xj_Refused_ValueError⟩ | exact ⟨T.xe_NoQuotient, T.xj_NoQuotient_ValueError⟩
def ti_KeyError : Nat → Option Bool
  | 0 => some false
  | 1 => some false
  | 2 => some false
  | 3 => some false
  | 4 => some false
  | 5 => some false
  | 6 => some false
  | 7 => some false
  | 8 => some false
  | 9 => some true
  | 10 => some false
  | 11 => some false
  | 12 => some false
  | 13 => some false
  | 14 => some false
  | 15 => some false
  | _ => none
theorem ti_ok_KeyError (T : Txt K mg A Df) (c : Nat) (b : Bool) (h : ti_KeyError c = some b) : ExcC K (Gm A c) ∧ PySem.W.kitOne K (.ref (Gm A c)) (.type "KeyError") = some b := by
  unfold ti_KeyError at h; split at h <;> cases h <;> first | exact ⟨T.xe_LineError, T.xj_LineError_KeyError⟩ | exact ⟨T.xe_InvalidGrid, T.xj_InvalidGrid_KeyError⟩ | exact ⟨T.xe_InvalidPoint, T.xj_InvalidPoint_KeyError⟩ | exact ⟨T.xe_InvalidRule, T.xj_InvalidRule_KeyError⟩ | exact ⟨T.xe_InvalidScheme, T.xj_InvalidScheme_KeyError⟩ | exact ⟨T.xe_InvalidStand, T.xj_InvalidStand_KeyError⟩ | exact ⟨T.xe_InvalidPaper, T.xj_InvalidPaper_KeyError⟩ | exact ⟨T.xe_InvalidOperation, T.xj_InvalidOperation_KeyError⟩ | exact ⟨T.xe_ParseError, T.xj_ParseError_KeyError⟩ | exact ⟨T.xe_UnknownLetter, T.xj_UnknownLetter_KeyError⟩ | exact ⟨T.xe_UnknownAddress, T.xj_UnknownAddress_KeyError⟩ | exact ⟨T.xe_InvalidNumber, T.xj_InvalidNumber_KeyError⟩ | exact ⟨T.xe_NothingToUndo, T.xj_NothingToUndo_KeyError⟩ | exact ⟨T.xe_TooMany, T.xj_TooMany_KeyError⟩ | exact ⟨T.xe_Refused, T.xj_Refused_KeyError⟩ | exact ⟨T.xe_NoQuotient, T.xj_NoQuotient_KeyError⟩
def ti_IndexError : Nat → Option Bool
  | 0 => some false
  | 1 => some false
  | 2 => some false
  | 3 => some false
  | 4 => some false
  | 5 => some false
  | 6 => some false
  | 7 => some false
  | 8 => some false
  | 9 => some false
  | 10 => some false
  | 11 => some true
  | 12 => some false
  | 13 => some false
  | 14 => some false
  | 15 => some false
  | _ => none
theorem ti_ok_IndexError (T : Txt K mg A Df) (c : Nat) (b : Bool) (h : ti_IndexError c = some b) : ExcC K (Gm A c) ∧ PySem.W.kitOne K (.ref (Gm A c)) (.type "IndexError") = some b := by
  unfold ti_IndexError at h; split at h <;> cases h <;> first | exact ⟨T.xe_LineError, T.xj_LineError_IndexError⟩ | exact ⟨T.xe_InvalidGrid, T.xj_InvalidGrid_IndexError⟩ | exact ⟨T.xe_InvalidPoint, T.xj_InvalidPoint_IndexError⟩ | exact ⟨T.xe_InvalidRule, T.xj_InvalidRule_IndexError⟩ | exact ⟨T.xe_InvalidScheme, T.xj_InvalidScheme_IndexError⟩ | exact ⟨T.xe_InvalidStand, T.xj_InvalidStand_IndexError⟩ | exact ⟨T.xe_InvalidPaper, T.xj_InvalidPaper_IndexError⟩ | exact ⟨T.xe_InvalidOperation, T.xj_InvalidOperation_IndexError⟩ | exact ⟨T.xe_ParseError, T.xj_ParseError_IndexError⟩ | exact ⟨T.xe_UnknownLetter, T.xj_UnknownLetter_IndexError⟩ | exact ⟨T.xe_UnknownAddress, T.xj_UnknownAddress_IndexError⟩ | exact ⟨T.xe_InvalidNumber, T.xj_InvalidNumber_IndexError⟩ | exact ⟨T.xe_NothingToUndo, T.xj_NothingToUndo_IndexError⟩ | exact ⟨T.xe_TooMany, T.xj_TooMany_IndexError⟩ | exact ⟨T.xe_Refused, T.xj_Refused_IndexError⟩ | exact ⟨T.xe_NoQuotient, T.xj_NoQuotient_IndexError⟩
def ti_LookupError : Nat → Option Bool
  | 0 => some false
  | 1 => some false
  | 2 => some false
  | 3 => some false
  | 4 => some false
  | 5 => some false
  | 6 => some false
  | 7 => some false
  | 8 => some false
  | 9 => some true
  | 10 => some true
  | 11 => some true
  | 12 => some false
  | 13 => some false
  | 14 => some false
  | 15 => some false
  | _ => none
theorem ti_ok_LookupError (T : Txt K mg A Df) (c : Nat) (b : Bool) (h : ti_LookupError c = some b) : ExcC K (Gm A c) ∧ PySem.W.kitOne K (.ref (Gm A c)) (.type "LookupError") = some b := by
  unfold ti_LookupError at h; split at h <;> cases h <;> first | exact ⟨T.xe_LineError, T.xj_LineError_LookupError⟩ | exact ⟨T.xe_InvalidGrid, T.xj_InvalidGrid_LookupError⟩ | exact ⟨T.xe_InvalidPoint, T.xj_InvalidPoint_LookupError⟩ | exact ⟨T.xe_InvalidRule, T.xj_InvalidRule_LookupError⟩ | exact ⟨T.xe_InvalidScheme, T.xj_InvalidScheme_LookupError⟩ | exact ⟨T.xe_InvalidStand, T.xj_InvalidStand_LookupError⟩ | exact ⟨T.xe_InvalidPaper, T.xj_InvalidPaper_LookupError⟩ | exact ⟨T.xe_InvalidOperation, T.xj_InvalidOperation_LookupError⟩ | exact ⟨T.xe_ParseError, T.xj_ParseError_LookupError⟩ | exact ⟨T.xe_UnknownLetter, T.xj_UnknownLetter_LookupError⟩ | exact ⟨T.xe_UnknownAddress, T.xj_UnknownAddress_LookupError⟩ | exact ⟨T.xe_InvalidNumber, T.xj_InvalidNumber_LookupError⟩ | exact ⟨T.xe_NothingToUndo, T.xj_NothingToUndo_LookupError⟩ | exact ⟨T.xe_TooMany, T.xj_TooMany_LookupError⟩ | exact ⟨T.xe_Refused, T.xj_Refused_LookupError⟩ | exact ⟨T.xe_NoQuotient, T.xj_NoQuotient_LookupError⟩
def ti_RuntimeError : Nat → Option Bool
  | 0 => some false
  | 1 => some false
  | 2 => some false
  | 3 => some false
  | 4 => some false
  | 5 => some false
  | 6 => some false
  | 7 => some false
  | 8 => some false
  | 9 => some false
  | 10 => some false
  | 11 => some false
  | 12 => some true
  | 13 => some false
  | 14 => some false
  | 15 => some false
  | _ => none
theorem ti_ok_RuntimeError (T : Txt K mg A Df) (c : Nat) (b : Bool) (h : ti_RuntimeError c = some b) : ExcC K (Gm A c) ∧ PySem.W.kitOne K (.ref (Gm A c)) (.type "RuntimeError") = some b := by
  unfold ti_RuntimeError at h; split at h <;> cases h <;> first | exact ⟨T.xe_LineError, T.xj_LineError_RuntimeError⟩ | exact ⟨T.xe_InvalidGrid, T.xj_InvalidGrid_RuntimeError⟩ | exact ⟨T.xe_InvalidPoint, T.xj_InvalidPoint_RuntimeError⟩ | exact ⟨T.xe_InvalidRule, T.xj_InvalidRule_RuntimeError⟩ | exact ⟨T.xe_InvalidScheme, T.xj_InvalidScheme_RuntimeError⟩ | exact ⟨T.xe_InvalidStand, T.xj_InvalidStand_RuntimeError⟩ | exact ⟨T.xe_InvalidPaper, T.xj_InvalidPaper_RuntimeError⟩ | exact ⟨T.xe_InvalidOperation, T.xj_InvalidOperation_RuntimeError⟩ | exact ⟨T.xe_ParseError, T.xj_ParseError_RuntimeError⟩ | exact ⟨T.xe_UnknownLetter, T.xj_UnknownLetter_RuntimeError⟩ | exact ⟨T.xe_UnknownAddress, T.xj_UnknownAddress_RuntimeError⟩ | exact ⟨T.xe_InvalidNumber, T.xj_InvalidNumber_RuntimeError⟩ | exact ⟨T.xe_NothingToUndo, T.xj_NothingToUndo_RuntimeError⟩ | exact ⟨T.xe_TooMany, T.xj_TooMany_RuntimeError⟩ | exact ⟨T.xe_Refused, T.xj_Refused_RuntimeError⟩ | exact ⟨T.xe_NoQuotient, T.xj_NoQuotient_RuntimeError⟩
def ti_OverflowError : Nat → Option Bool
  | 0 => some false
  | 1 => some false
  | 2 => some false
  | 3 => some false
  | 4 => some false
  | 5 => some false
  | 6 => some false
  | 7 => some false
  | 8 => some false
  | 9 => some false
  | 10 => some false
  | 11 => some false
  | 12 => some false
  | 13 => some true
  | 14 => some false
  | 15 => some false
  | _ => none
theorem ti_ok_OverflowError (T : Txt K mg A Df) (c : Nat) (b : Bool) (h : ti_OverflowError c = some b) : ExcC K (Gm A c) ∧ PySem.W.kitOne K (.ref (Gm A c)) (.type "OverflowError") = some b := by
  unfold ti_OverflowError at h; split at h <;> cases h <;> first | exact ⟨T.xe_LineError, T.xj_LineError_OverflowError⟩ | exact ⟨T.xe_InvalidGrid, T.xj_InvalidGrid_OverflowError⟩ | exact ⟨T.xe_InvalidPoint, T.xj_InvalidPoint_OverflowError⟩ | exact ⟨T.xe_InvalidRule, T.xj_InvalidRule_OverflowError⟩ | exact ⟨T.xe_InvalidScheme, T.xj_InvalidScheme_OverflowError⟩ | exact ⟨T.xe_InvalidStand, T.xj_InvalidStand_OverflowError⟩ | exact ⟨T.xe_InvalidPaper, T.xj_InvalidPaper_OverflowError⟩ | exact ⟨T.xe_InvalidOperation, T.xj_InvalidOperation_OverflowError⟩ | exact ⟨T.xe_ParseError, T.xj_ParseError_OverflowError⟩ | exact ⟨T.xe_UnknownLetter, T.xj_UnknownLetter_OverflowError⟩ | exact ⟨T.xe_UnknownAddress, T.xj_UnknownAddress_OverflowError⟩ | exact ⟨T.xe_InvalidNumber, T.xj_InvalidNumber_OverflowError⟩ | exact ⟨T.xe_NothingToUndo, T.xj_NothingToUndo_OverflowError⟩ | exact ⟨T.xe_TooMany, T.xj_TooMany_OverflowError⟩ | exact ⟨T.xe_Refused, T.xj_Refused_OverflowError⟩ | exact ⟨T.xe_NoQuotient, T.xj_NoQuotient_OverflowError⟩
def ti_ZeroDivisionError : Nat → Option Bool
  | 0 => some false
  | 1 => some false
  | 2 => some false
  | 3 => some false
  | 4 => some false
  | 5 => some false
  | 6 => some false
  | 7 => some false
  | 8 => some false
  | 9 => some false
  | 10 => some false
  | 11 => some false
  | 12 => some false
  | 13 => some false
  | 14 => some false
  | 15 => some true
  | _ => none
theorem ti_ok_ZeroDivisionError (T : Txt K mg A Df) (c : Nat) (b : Bool) (h : ti_ZeroDivisionError c = some b) : ExcC K (Gm A c) ∧ PySem.W.kitOne K (.ref (Gm A c)) (.type "ZeroDivisionError") = some b := by
  unfold ti_ZeroDivisionError at h; split at h <;> cases h <;> first | exact ⟨T.xe_LineError, T.xj_LineError_ZeroDivisionError⟩ | exact ⟨T.xe_InvalidGrid, T.xj_InvalidGrid_ZeroDivisionError⟩ | exact ⟨T.xe_InvalidPoint, T.xj_InvalidPoint_ZeroDivisionError⟩ | exact ⟨T.xe_InvalidRule, T.xj_InvalidRule_ZeroDivisionError⟩ | exact ⟨T.xe_InvalidScheme, T.xj_InvalidScheme_ZeroDivisionError⟩ | exact ⟨T.xe_InvalidStand, T.xj_InvalidStand_ZeroDivisionError⟩ | exact ⟨T.xe_InvalidPaper, T.xj_InvalidPaper_ZeroDivisionError⟩ | exact ⟨T.xe_InvalidOperation, T.xj_InvalidOperation_ZeroDivisionError⟩ | exact ⟨T.xe_ParseError, T.xj_ParseError_ZeroDivisionError⟩ | exact ⟨T.xe_UnknownLetter, T.xj_UnknownLetter_ZeroDivisionError⟩ | exact ⟨T.xe_UnknownAddress, T.xj_UnknownAddress_ZeroDivisionError⟩ | exact ⟨T.xe_InvalidNumber, T.xj_InvalidNumber_ZeroDivisionError⟩ | exact ⟨T.xe_NothingToUndo, T.xj_NothingToUndo_ZeroDivisionError⟩ | exact ⟨T.xe_TooMany, T.xj_TooMany_ZeroDivisionError⟩ | exact ⟨T.xe_Refused, T.xj_Refused_ZeroDivisionError⟩ | exact ⟨T.xe_NoQuotient, T.xj_NoQuotient_ZeroDivisionError⟩
def ti_ArithmeticError : Nat → Option Bool
  | 0 => some false
  | 1 => some false
  | 2 => some false
  | 3 => some false
  | 4 => some false
  | 5 => some false
  | 6 => some false
  | 7 => some false
  | 8 => some false
  | 9 => some false
  | 10 => some false
  | 11 => some false
  | 12 => some false
  | 13 => some true
  | 14 => some true
  | 15 => some true
  | _ => none
theorem ti_ok_ArithmeticError (T : Txt K mg A Df) (c : Nat) (b : Bool) (h : ti_ArithmeticError c = some b) : ExcC K (Gm A c) ∧ PySem.W.kitOne K (.ref (Gm A c)) (.type "ArithmeticError") = some b := by
  unfold ti_ArithmeticError at h; split at h <;> cases h <;> first | exact ⟨T.xe_LineError, T.xj_LineError_ArithmeticError⟩ | exact ⟨T.xe_InvalidGrid, T.xj_InvalidGrid_ArithmeticError⟩ | exact ⟨T.xe_InvalidPoint, T.xj_InvalidPoint_ArithmeticError⟩ | exact ⟨T.xe_InvalidRule, T.xj_InvalidRule_ArithmeticError⟩ | exact ⟨T.xe_InvalidScheme, T.xj_InvalidScheme_ArithmeticError⟩ | exact ⟨T.xe_InvalidStand, T.xj_InvalidStand_ArithmeticError⟩ | exact ⟨T.xe_InvalidPaper, T.xj_InvalidPaper_ArithmeticError⟩ | exact ⟨T.xe_InvalidOperation, T.xj_InvalidOperation_ArithmeticError⟩ | exact ⟨T.xe_ParseError, T.xj_ParseError_ArithmeticError⟩ | exact ⟨T.xe_UnknownLetter, T.xj_UnknownLetter_ArithmeticError⟩ | exact ⟨T.xe_UnknownAddress, T.xj_UnknownAddress_ArithmeticError⟩ | exact ⟨T.xe_InvalidNumber, T.xj_InvalidNumber_ArithmeticError⟩ | exact ⟨T.xe_NothingToUndo, T.xj_NothingToUndo_ArithmeticError⟩ | exact ⟨T.xe_TooMany, T.xj_TooMany_ArithmeticError⟩ | exact ⟨T.xe_Refused, T.xj_Refused_ArithmeticError⟩ | exact ⟨T.xe_NoQuotient, T.xj_NoQuotient_ArithmeticError⟩
def m__law_all : Fn := bodyD 1 1
  (seqS (asgS (op2 addD (op2 addD (callD m__law_own (consD (varD 0) nilD)) (cD (.str " "))) (op2 mulS (cD (.str "line ")) (callB intA (consD (isiX ti_LineError (varD 0)) nilD)))) (nameG 1))
  (seqS (asgS (op2 addD (op2 addD (varD 1) (op2 mulS (cD (.str "value ")) (callB intA (consD (isiX ti_ValueError (varD 0)) nilD)))) (op2 mulS (cD (.str "key ")) (callB intA (consD (isiX ti_KeyError (varD 0)) nilD)))) (nameG 1))
  (seqS (asgS (op2 addD (op2 addD (varD 1) (op2 mulS (cD (.str "index ")) (callB intA (consD (isiX ti_IndexError (varD 0)) nilD)))) (op2 mulS (cD (.str "lookup ")) (callB intA (consD (isiX ti_LookupError (varD 0)) nilD)))) (nameG 1))
  (seqS (asgS (op2 addD (varD 1) (op2 mulS (cD (.str "runtime ")) (callB intA (consD (isiX ti_RuntimeError (varD 0)) nilD)))) (nameG 1))
  (seqS (asgS (op2 addD (varD 1) (op2 mulS (cD (.str "overflow ")) (callB intA (consD (isiX ti_OverflowError (varD 0)) nilD)))) (nameG 1))
  (seqS (asgS (op2 addD (varD 1) (op2 mulS (cD (.str "zero ")) (callB intA (consD (isiX ti_ZeroDivisionError (varD 0)) nilD)))) (nameG 1))
  (retS (op2 addD (varD 1) (op2 mulS (cD (.str "arithmetic ")) (callB intA (consD (isiX ti_ArithmeticError (varD 0)) nilD)))))))))))
theorem ok__law_all (T : Txt K mg A Df) (nd : base.NoDigits) : FnOk P w K mg base (L2.CX P w) 2 A.a__law_all Df.d__law_all ["_law_error"] (spD K (Gm A) m__law_all) := by
  have G__law_own := ok__law_own (P := P) (w := w) (base := base) T nd
  refine okD T.F__law_all sc__law_all rfl fun cdv Ar outer s H E hr => ?_
  exact ⟨_, (ds_cons (ds_set (i := 1) sc__law_all.nd rfl (.inl rfl) (de_op op_addA og_add (de_op op_addA og_add (de_call G__law_own (takes_of rfl rfl rfl rfl) (hr.mono (by decide)) (by rfl) T.g__law_own T.F__law_own.kp T.b__law_own (da_cons ⟨pv 0, gd_var⟩ da_nil)) de_str) (de_op op_mulS og_mulS de_str (de_callTy call_intA cg_intA (by rfl) T.z_int (by decide +kernel) (da_cons (de_isiXC (k := 0) (ti_ok_LineError T) (by rfl) T.z_isinstance (by rfl) T.g_LineError ⟨pv 0, gd_var⟩) da_nil)))))
    (ds_cons (ds_set (i := 1) sc__law_all.nd rfl (.inl rfl) (de_op op_addA og_add (de_op op_addA og_add ⟨pv 1, gd_var⟩ (de_op op_mulS og_mulS de_str (de_callTy call_intA cg_intA (by rfl) T.z_int (by decide +kernel) (da_cons (de_isiXT (T := "ValueError") (ti_ok_ValueError T) (by rfl) T.z_isinstance (by rfl) T.z_ValueError (by decide +kernel) ⟨pv 0, gd_var⟩) da_nil)))) (de_op op_mulS og_mulS de_str (de_callTy call_intA cg_intA (by rfl) T.z_int (by decide +kernel) (da_cons (de_isiXT (T := "KeyError") (ti_ok_KeyError T) (by rfl) T.z_isinstance (by rfl) T.z_KeyError (by decide +kernel) ⟨pv 0, gd_var⟩) da_nil)))))
    (ds_cons (ds_set (i := 1) sc__law_all.nd rfl (.inl rfl) (de_op op_addA og_add (de_op op_addA og_add ⟨pv 1, gd_var⟩ (de_op op_mulS og_mulS de_str (de_callTy call_intA cg_intA (by rfl) T.z_int (by decide +kernel) (da_cons (de_isiXT (T := "IndexError") (ti_ok_IndexError T) (by rfl) T.z_isinstance (by rfl) T.z_IndexError (by decide +kernel) ⟨pv 0, gd_var⟩) da_nil)))) (de_op op_mulS og_mulS de_str (de_callTy call_intA cg_intA (by rfl) T.z_int (by decide +kernel) (da_cons (de_isiXT (T := "LookupError") (ti_ok_LookupError T) (by rfl) T.z_isinstance (by rfl) T.z_LookupError (by decide +kernel) ⟨pv 0, gd_var⟩) da_nil)))))
    (ds_cons (ds_set (i := 1) sc__law_all.nd rfl (.inl rfl) (de_op op_addA og_add ⟨pv 1, gd_var⟩ (de_op op_mulS og_mulS de_str (de_callTy call_intA cg_intA (by rfl) T.z_int (by decide +kernel) (da_cons (de_isiXT (T := "RuntimeError") (ti_ok_RuntimeError T) (by rfl) T.z_isinstance (by rfl) T.z_RuntimeError (by decide +kernel) ⟨pv 0, gd_var⟩) da_nil)))))
    (ds_cons (ds_set (i := 1) sc__law_all.nd rfl (.inl rfl) (de_op op_addA og_add ⟨pv 1, gd_var⟩ (de_op op_mulS og_mulS de_str (de_callTy call_intA cg_intA (by rfl) T.z_int (by decide +kernel) (da_cons (de_isiXT (T := "OverflowError") (ti_ok_OverflowError T) (by rfl) T.z_isinstance (by rfl) T.z_OverflowError (by decide +kernel) ⟨pv 0, gd_var⟩) da_nil)))))
    (ds_cons (ds_set (i := 1) sc__law_all.nd rfl (.inl rfl) (de_op op_addA og_add ⟨pv 1, gd_var⟩ (de_op op_mulS og_mulS de_str (de_callTy call_intA cg_intA (by rfl) T.z_int (by decide +kernel) (da_cons (de_isiXT (T := "ZeroDivisionError") (ti_ok_ZeroDivisionError T) (by rfl) T.z_isinstance (by rfl) T.z_ZeroDivisionError (by decide +kernel) ⟨pv 0, gd_var⟩) da_nil)))))
    (ds_one (ds_ret (de_op op_addA og_add ⟨pv 1, gd_var⟩ (de_op op_mulS og_mulS de_str (de_callTy call_intA cg_intA (by rfl) T.z_int (by decide +kernel) (da_cons (de_isiXT (T := "ArithmeticError") (ti_ok_ArithmeticError T) (by rfl) T.z_isinstance (by rfl) T.z_ArithmeticError (by decide +kernel) ⟨pv 0, gd_var⟩) da_nil))))))))))))⟩

def m__law_kept : Fn := bodyD 2 9
  (seqS (par3S 2 3 4 (consD (mk1 8 "number" (varD 1)) (consD (mk1 9 "word" (varD 0)) (consD (mk1 10 "lost" (varD 0)) nilD))))
  (seqS (par3S 5 6 7 (consD (mk1 11 "value" (varD 0)) (consD (mk1 12 "many" (varD 0)) (consD (mk1 13 "limit" (varD 0)) nilD))))
  (seqS (parS 8 9 (consD (mk1 14 "pledge" (varD 0)) (consD (mk1 15 "divisor" (varD 0)) nilD)))
  (seqS (asgS (lstD (consD (tupD (consD (callD m__law_all (consD (varD 2) nilD)) (consD (fxD [8] "number" (varD 2)) nilD))) (consD (tupD (consD (callD m__law_all (consD (varD 3) nilD)) (consD (fxD [9] "word" (varD 3)) nilD))) (consD (tupD (consD (callD m__law_all (consD (varD 4) nilD)) (consD (fxD [10] "lost" (varD 4)) nilD))) nilD)))) (nameG 10))
  (seqS (asgS (op2 addD (varD 10) (lstD (consD (tupD (consD (callD m__law_all (consD (varD 5) nilD)) (consD (fxD [11] "value" (varD 5)) nilD))) (consD (tupD (consD (callD m__law_all (consD (varD 6) nilD)) (consD (fxD [12] "many" (varD 6)) nilD))) (consD (tupD (consD (callD m__law_all (consD (varD 7) nilD)) (consD (fxD [13] "limit" (varD 7)) nilD))) nilD))))) (nameG 10))
  (retS (op2 addD (varD 10) (lstD (consD (tupD (consD (callD m__law_all (consD (varD 8) nilD)) (consD (fxD [14] "pledge" (varD 8)) nilD))) (consD (tupD (consD (callD m__law_all (consD (varD 9) nilD)) (consD (fxD [15] "divisor" (varD 9)) nilD))) nilD))))))))))
theorem ok__law_kept (T : Txt K mg A Df) (nd : base.NoDigits) : FnOk P w K mg base (L2.CX P w) 3 A.a__law_kept Df.d__law_kept ["_law_value", "_law_index"] (spD K (Gm A) m__law_kept) := by
  have G__law_all := ok__law_all (P := P) (w := w) (base := base) T nd
  have X_InvalidNumber___init__ := ok_InvalidNumber___init__ (P := P) (w := w) (base := base) T nd
  have X_NoQuotient___init__ := ok_NoQuotient___init__ (P := P) (w := w) (base := base) T nd
  have X_NothingToUndo___init__ := ok_NothingToUndo___init__ (P := P) (w := w) (base := base) T nd
  have X_ParseError___init__ := ok_ParseError___init__ (P := P) (w := w) (base := base) T nd
  have X_Refused___init__ := ok_Refused___init__ (P := P) (w := w) (base := base) T nd
  have X_TooMany___init__ := ok_TooMany___init__ (P := P) (w := w) (base := base) T nd
  have X_UnknownAddress___init__ := ok_UnknownAddress___init__ (P := P) (w := w) (base := base) T nd
  have X_UnknownLetter___init__ := ok_UnknownLetter___init__ (P := P) (w := w) (base := base) T nd
  refine okD T.F__law_kept sc__law_kept rfl fun cdv Ar outer s H E hr => ?_
  exact ⟨_, (ds_cons (ds_par3 (i := 2) (j := 3) (l := 4) (by rfl) sc__law_kept.nd rfl rfl rfl (by decide) (by decide) (by decide) rfl rfl rfl (da_cons (de_mk1 (c := 8) T.xb_ParseError X_ParseError___init__ (hr.mono (by decide)) T.b_ParseError___init__ T.g_ParseError (by rfl) ⟨pv 1, gd_var⟩) (da_cons (de_mk1 (c := 9) T.xb_UnknownLetter X_UnknownLetter___init__ (hr.mono (by decide)) T.b_UnknownLetter___init__ T.g_UnknownLetter (by rfl) ⟨pv 0, gd_var⟩) (da_cons (de_mk1 (c := 10) T.xb_UnknownAddress X_UnknownAddress___init__ (hr.mono (by decide)) T.b_UnknownAddress___init__ T.g_UnknownAddress (by rfl) ⟨pv 0, gd_var⟩) da_nil))) (by rfl))
    (ds_cons (ds_par3 (i := 5) (j := 6) (l := 7) (by rfl) sc__law_kept.nd rfl rfl rfl (by decide) (by decide) (by decide) rfl rfl rfl (da_cons (de_mk1 (c := 11) T.xb_InvalidNumber X_InvalidNumber___init__ (hr.mono (by decide)) T.b_InvalidNumber___init__ T.g_InvalidNumber (by rfl) ⟨pv 0, gd_var⟩) (da_cons (de_mk1 (c := 12) T.xb_NothingToUndo X_NothingToUndo___init__ (hr.mono (by decide)) T.b_NothingToUndo___init__ T.g_NothingToUndo (by rfl) ⟨pv 0, gd_var⟩) (da_cons (de_mk1 (c := 13) T.xb_TooMany X_TooMany___init__ (hr.mono (by decide)) T.b_TooMany___init__ T.g_TooMany (by rfl) ⟨pv 0, gd_var⟩) da_nil))) (by rfl))
    (ds_cons (ds_par (i := 8) (j := 9) (by rfl) sc__law_kept.nd rfl rfl (by decide) rfl rfl (da_cons (de_mk1 (c := 14) T.xb_Refused X_Refused___init__ (hr.mono (by decide)) T.b_Refused___init__ T.g_Refused (by rfl) ⟨pv 0, gd_var⟩) (da_cons (de_mk1 (c := 15) T.xb_NoQuotient X_NoQuotient___init__ (hr.mono (by decide)) T.b_NoQuotient___init__ T.g_NoQuotient (by rfl) ⟨pv 0, gd_var⟩) da_nil)) (by rfl))
    (ds_cons (ds_set (i := 10) sc__law_kept.nd rfl (.inl rfl) (de_lst (da_cons (de_tup (da_cons (de_call G__law_all (takes_of rfl rfl rfl rfl) (hr.mono (by decide)) (by rfl) T.g__law_all T.F__law_all.kp T.b__law_all (da_cons ⟨pv 2, gd_var⟩ da_nil)) (da_cons (de_fx (cs := [8]) (fun c hc => by simp only [List.mem_cons, List.not_mem_nil, or_false] at hc; rcases hc with rfl <;> first | exact ⟨T.xb_ParseError.xf, T.xb_ParseError.no⟩) ⟨pv 2, gd_var⟩) da_nil))) (da_cons (de_tup (da_cons (de_call G__law_all (takes_of rfl rfl rfl rfl) (hr.mono (by decide)) (by rfl) T.g__law_all T.F__law_all.kp T.b__law_all (da_cons ⟨pv 3, gd_var⟩ da_nil)) (da_cons (de_fx (cs := [9]) (fun c hc => by simp only [List.mem_cons, List.not_mem_nil, or_false] at hc; rcases hc with rfl <;> first | exact ⟨T.xb_UnknownLetter.xf, T.xb_UnknownLetter.no⟩) ⟨pv 3, gd_var⟩) da_nil))) (da_cons (de_tup (da_cons (de_call G__law_all (takes_of rfl rfl rfl rfl) (hr.mono (by decide)) (by rfl) T.g__law_all T.F__law_all.kp T.b__law_all (da_cons ⟨pv 4, gd_var⟩ da_nil)) (da_cons (de_fx (cs := [10]) (fun c hc => by simp only [List.mem_cons, List.not_mem_nil, or_false] at hc; rcases hc with rfl <;> first | exact ⟨T.xb_UnknownAddress.xf, T.xb_UnknownAddress.no⟩) ⟨pv 4, gd_var⟩) da_nil))) da_nil)))))
    (ds_cons (ds_set (i := 10) sc__law_kept.nd rfl (.inl rfl) (de_op op_addA og_add ⟨pv 10, gd_var⟩ (de_lst (da_cons (de_tup (da_cons (de_call G__law_all (takes_of rfl rfl rfl rfl) (hr.mono (by decide)) (by rfl) T.g__law_all T.F__law_all.kp T.b__law_all (da_cons ⟨pv 5, gd_var⟩ da_nil)) (da_cons (de_fx (cs := [11]) (fun c hc => by simp only [List.mem_cons, List.not_mem_nil, or_false] at hc; rcases hc with rfl <;> first | exact ⟨T.xb_InvalidNumber.xf, T.xb_InvalidNumber.no⟩) ⟨pv 5, gd_var⟩) da_nil))) (da_cons (de_tup (da_cons (de_call G__law_all (takes_of rfl rfl rfl rfl) (hr.mono (by decide)) (by rfl) T.g__law_all T.F__law_all.kp T.b__law_all (da_cons ⟨pv 6, gd_var⟩ da_nil)) (da_cons (de_fx (cs := [12]) (fun c hc => by simp only [List.mem_cons, List.not_mem_nil, or_false] at hc; rcases hc with rfl <;> first | exact ⟨T.xb_NothingToUndo.xf, T.xb_NothingToUndo.no⟩) ⟨pv 6, gd_var⟩) da_nil))) (da_cons (de_tup (da_cons (de_call G__law_all (takes_of rfl rfl rfl rfl) (hr.mono (by decide)) (by rfl) T.g__law_all T.F__law_all.kp T.b__law_all (da_cons ⟨pv 7, gd_var⟩ da_nil)) (da_cons (de_fx (cs := [13]) (fun c hc => by simp only [List.mem_cons, List.not_mem_nil, or_false] at hc; rcases hc with rfl <;> first | exact ⟨T.xb_TooMany.xf, T.xb_TooMany.no⟩) ⟨pv 7, gd_var⟩) da_nil))) da_nil))))))
    (ds_one (ds_ret (de_op op_addA og_add ⟨pv 10, gd_var⟩ (de_lst (da_cons (de_tup (da_cons (de_call G__law_all (takes_of rfl rfl rfl rfl) (hr.mono (by decide)) (by rfl) T.g__law_all T.F__law_all.kp T.b__law_all (da_cons ⟨pv 8, gd_var⟩ da_nil)) (da_cons (de_fx (cs := [14]) (fun c hc => by simp only [List.mem_cons, List.not_mem_nil, or_false] at hc; rcases hc with rfl <;> first | exact ⟨T.xb_Refused.xf, T.xb_Refused.no⟩) ⟨pv 8, gd_var⟩) da_nil))) (da_cons (de_tup (da_cons (de_call G__law_all (takes_of rfl rfl rfl rfl) (hr.mono (by decide)) (by rfl) T.g__law_all T.F__law_all.kp T.b__law_all (da_cons ⟨pv 9, gd_var⟩ da_nil)) (da_cons (de_fx (cs := [15]) (fun c hc => by simp only [List.mem_cons, List.not_mem_nil, or_false] at hc; rcases hc with rfl <;> first | exact ⟨T.xb_NoQuotient.xf, T.xb_NoQuotient.no⟩) ⟨pv 9, gd_var⟩) da_nil))) da_nil)))))))))))⟩

def m__law_messages : Fn := bodyD 0 1
  (seqS (asgS (lstD (consD (callD m__law_all (consD (mk0 1) nilD)) (consD (callD m__law_all (consD (mk0 2) nilD)) (consD (callD m__law_all (consD (mk0 3) nilD)) nilD)))) (nameG 0))
  (seqS (asgS (op2 addD (varD 0) (lstD (consD (callD m__law_all (consD (mk0 4) nilD)) (consD (callD m__law_all (consD (mk0 5) nilD)) (consD (callD m__law_all (consD (mk0 6) nilD)) nilD))))) (nameG 0))
  (retS (op2 addD (varD 0) (lstD (consD (callD m__law_all (consD (mk0 7) nilD)) (consD (callD m__law_all (consD (mk0 0) nilD)) nilD)))))))
theorem ok__law_messages (T : Txt K mg A Df) (nd : base.NoDigits) : FnOk P w K mg base (L2.CX P w) 3 A.a__law_messages Df.d__law_messages [] (spD K (Gm A) m__law_messages) := by
  have G__law_all := ok__law_all (P := P) (w := w) (base := base) T nd
  refine okD T.F__law_messages sc__law_messages rfl fun cdv Ar outer s H E hr => ?_
  exact ⟨_, (ds_cons (ds_set (i := 0) sc__law_messages.nd rfl (.inl rfl) (de_lst (da_cons (de_call G__law_all (takes_of rfl rfl rfl rfl) (hr.mono (by decide)) (by rfl) T.g__law_all T.F__law_all.kp T.b__law_all (da_cons (de_mk0 (c := 1) T.xa_InvalidGrid T.g_InvalidGrid (by rfl)) da_nil)) (da_cons (de_call G__law_all (takes_of rfl rfl rfl rfl) (hr.mono (by decide)) (by rfl) T.g__law_all T.F__law_all.kp T.b__law_all (da_cons (de_mk0 (c := 2) T.xa_InvalidPoint T.g_InvalidPoint (by rfl)) da_nil)) (da_cons (de_call G__law_all (takes_of rfl rfl rfl rfl) (hr.mono (by decide)) (by rfl) T.g__law_all T.F__law_all.kp T.b__law_all (da_cons (de_mk0 (c := 3) T.xa_InvalidRule T.g_InvalidRule (by rfl)) da_nil)) da_nil)))))
    (ds_cons (ds_set (i := 0) sc__law_messages.nd rfl (.inl rfl) (de_op op_addA og_add ⟨pv 0, gd_var⟩ (de_lst (da_cons (de_call G__law_all (takes_of rfl rfl rfl rfl) (hr.mono (by decide)) (by rfl) T.g__law_all T.F__law_all.kp T.b__law_all (da_cons (de_mk0 (c := 4) T.xa_InvalidScheme T.g_InvalidScheme (by rfl)) da_nil)) (da_cons (de_call G__law_all (takes_of rfl rfl rfl rfl) (hr.mono (by decide)) (by rfl) T.g__law_all T.F__law_all.kp T.b__law_all (da_cons (de_mk0 (c := 5) T.xa_InvalidStand T.g_InvalidStand (by rfl)) da_nil)) (da_cons (de_call G__law_all (takes_of rfl rfl rfl rfl) (hr.mono (by decide)) (by rfl) T.g__law_all T.F__law_all.kp T.b__law_all (da_cons (de_mk0 (c := 6) T.xa_InvalidPaper T.g_InvalidPaper (by rfl)) da_nil)) da_nil))))))
    (ds_one (ds_ret (de_op op_addA og_add ⟨pv 0, gd_var⟩ (de_lst (da_cons (de_call G__law_all (takes_of rfl rfl rfl rfl) (hr.mono (by decide)) (by rfl) T.g__law_all T.F__law_all.kp T.b__law_all (da_cons (de_mk0 (c := 7) T.xa_InvalidOperation T.g_InvalidOperation (by rfl)) da_nil)) (da_cons (de_call G__law_all (takes_of rfl rfl rfl rfl) (hr.mono (by decide)) (by rfl) T.g__law_all T.F__law_all.kp T.b__law_all (da_cons (de_mk0 (c := 0) T.xa_LineError T.g_LineError (by rfl)) da_nil)) da_nil))))))))⟩

def m__law_right : Fn := body0 2 3
  (seqS (ifS (testD (op2 neD (callD m__law_messages nilD) (callD m__law_due_messages nilD)))
  (retS (cD (.bl false)))
  nilS)
  (seqS (asgS (lstD (consD (tupD (consD (cD (.str "x line value ")) (consD (varD 1) nilD))) (consD (tupD (consD (cD (.str "U key lookup ")) (consD (varD 0) nilD))) (consD (tupD (consD (cD (.str "A lookup ")) (consD (varD 0) nilD))) (consD (tupD (consD (cD (.str "N index lookup ")) (consD (varD 0) nilD))) nilD))))) (nameG 2))
  (seqS (asgS (op2 addD (varD 2) (lstD (consD (tupD (consD (cD (.str "Z runtime ")) (consD (varD 0) nilD))) (consD (tupD (consD (cD (.str "M overflow arithmetic ")) (consD (varD 0) nilD))) (consD (tupD (consD (cD (.str "R arithmetic ")) (consD (varD 0) nilD))) nilD))))) (nameG 2))
  (seqS (asgS (op2 addD (varD 2) (lstD (consD (tupD (consD (cD (.str "Q zero arithmetic ")) (consD (varD 0) nilD))) nilD))) (nameG 2))
  (seqS (ifS (testD (op2 neD (callB reprV (consD (callD m__law_kept (consD (varD 0) (consD (varD 1) nilD))) nilD)) (callB reprV (consD (varD 2) nilD))))
  (retS (cD (.bl false)))
  nilS)
  (seqS (asgS (lcD (rng1D (consD (cD (.int 3)) nilD)) (nameG 4) yesD (callD m__law_caught (consD (varD 0) (consD (varD 4) nilD))) [4]) (nameG 3))
  (retS (op2 eqD (varD 3) (lstD (consD (cD (.str "base r")) (consD (op2 addD (cD (.str "quotient ")) (callB reprV (consD (varD 0) nilD))) (consD (op2 addD (cD (.str "lost ")) (callB reprV (consD (varD 0) nilD))) nilD))))))))))))
theorem nb__law_right (xs : List D) (s : Sto) : m__law_right xs s = nb (m__law_right xs s) := body0_nb xs s
theorem ok__law_right (T : Txt K mg A Df) (nd : base.NoDigits) : Gl.FnG P w K mg base CX0 4 A.a__law_right Df.d__law_right ["_law_value", "_law_index"] (spD K (Gm A) m__law_right) := by
  have G__law_caught := ok__law_caught (P := P) (w := w) (base := base) T nd
  have G__law_due_messages := ok__law_due_messages (P := P) (w := w) (base := base) T nd
  have G__law_kept := ok__law_kept (P := P) (w := w) (base := base) T nd
  have G__law_messages := ok__law_messages (P := P) (w := w) (base := base) T nd
  refine okD0 T.F__law_right sc__law_right rfl fun cdv Ar outer s H E hG hr => ?_
  exact ⟨_, (ds_cons (ds_if (dt_cmp (op_neA hr) og_ne (de_call0 G__law_messages takes0 (hr.mono (by decide)) (by rfl) T.g__law_messages T.F__law_messages.kp T.b__law_messages) (de_call0 G__law_due_messages takes0 (hr.mono (by decide)) (by rfl) T.g__law_due_messages T.F__law_due_messages.kp T.b__law_due_messages) (nomark _))
    (ds_one (ds_ret de_bl))
    ds_nil)
    (ds_cons (ds_set (i := 2) sc__law_right.nd rfl (.inl rfl) (de_lst (da_cons (de_tup (da_cons de_str (da_cons ⟨pv 1, gd_var⟩ da_nil))) (da_cons (de_tup (da_cons de_str (da_cons ⟨pv 0, gd_var⟩ da_nil))) (da_cons (de_tup (da_cons de_str (da_cons ⟨pv 0, gd_var⟩ da_nil))) (da_cons (de_tup (da_cons de_str (da_cons ⟨pv 0, gd_var⟩ da_nil))) da_nil))))))
    (ds_cons (ds_set (i := 2) sc__law_right.nd rfl (.inl rfl) (de_op op_addA og_add ⟨pv 2, gd_var⟩ (de_lst (da_cons (de_tup (da_cons de_str (da_cons ⟨pv 0, gd_var⟩ da_nil))) (da_cons (de_tup (da_cons de_str (da_cons ⟨pv 0, gd_var⟩ da_nil))) (da_cons (de_tup (da_cons de_str (da_cons ⟨pv 0, gd_var⟩ da_nil))) da_nil))))))
    (ds_cons (ds_set (i := 2) sc__law_right.nd rfl (.inl rfl) (de_op op_addA og_add ⟨pv 2, gd_var⟩ (de_lst (da_cons (de_tup (da_cons de_str (da_cons ⟨pv 0, gd_var⟩ da_nil))) da_nil))))
    (ds_cons (ds_if (dt_cmp (op_neA hr) og_ne (de_callB (call_reprV hr hG nd) cg_reprV (by rfl) T.z_repr (by decide +kernel) (da_cons (de_call G__law_kept takes0 (hr.mono (by decide)) (by rfl) T.g__law_kept T.F__law_kept.kp T.b__law_kept (da_cons ⟨pv 0, gd_var⟩ (da_cons ⟨pv 1, gd_var⟩ da_nil))) da_nil)) (de_callB (call_reprV hr hG nd) cg_reprV (by rfl) T.z_repr (by decide +kernel) (da_cons ⟨pv 2, gd_var⟩ da_nil)) (nomark _))
    (ds_one (ds_ret de_bl))
    ds_nil)
    (ds_cons (ds_setLc (i := 3) (own := [("_law_way", 4)]) (by rfl) sc__law_right.nd rfl rfl (sw_true rfl rfl rfl (by decide +kernel)) (di_range1 (by rfl) T.z_range (da_cons de_int da_nil)) (blkOk_by (own := [("_law_way", 4)]) (N := ["_law_value", "_law_index", "_law_due", "_law_told", "_law_way"]) (sc := defScope s__law_right) (by decide +kernel)) (fun _ _ _ _ _ => (dg_name (i := 4) sc__law_right.nd rfl (.inl rfl))) (fun _ _ _ _ _ => dts_nil) (fun _ _ _ _ _ => (de_callG G__law_caught nb__law_caught hG (hr.mono (by decide)) (by rfl) T.g__law_caught T.F__law_caught.kp T.b__law_caught (da_cons ⟨pv 0, gd_var⟩ (da_cons ⟨pv 4, gd_var⟩ da_nil)))))
    (ds_one (ds_ret (de_cmp (op_eqA hr) og_eq ⟨pv 3, gd_var⟩ (de_lst (da_cons de_str (da_cons (de_op op_addA og_add de_str (de_callB (call_reprV hr hG nd) cg_reprV (by rfl) T.z_repr (by decide +kernel) (da_cons ⟨pv 0, gd_var⟩ da_nil))) (da_cons (de_op op_addA og_add de_str (de_callB (call_reprV hr hG nd) cg_reprV (by rfl) T.z_repr (by decide +kernel) (da_cons ⟨pv 0, gd_var⟩ da_nil))) da_nil)))) (nomark _))))))))))⟩

def m_law : Fn := body0 1 5
  (seqS (forS (rng1D (consD (callB maxD (consD (cD (.int 1)) (consD (callB minD (consD (cD (.int 4)) (consD (callB lenD (consD (varD 0) nilD)) nilD))) nilD))) nilD)) (nameG 1)
  (seqS (asgS (callD m__law_dice (consD (varD 0) (consD (varD 1) nilD))) (nameG 2))
  (seqS (asgS (lstC (consD (cD .non) (consD (cD (.bl true)) (consD (cD (.int 0)) (consD (cD (.str "7")) (consD (cD (.str "")) (consD (tupD (consD (cD (.int 7)) (consD (cD (.int 0)) nilD))) (consD (lstD (consD (cD (.int 7)) nilD)) (consD (dictD (dcons (cD (.int 7)) (cD (.int 7)) dnil)) (consD (tupD (consD (tupD nilD) (consD (tupD (consD (cD (.str "a")) (consD (cD (.int 1)) nilD))) nilD))) (consD (tupD (consD (cD (.str "clear")) (consD (cD (.str "edge")) nilD))) (consD (tupD (consD (cD (.int 0)) (consD (cD (.int 0)) nilD))) nilD)))))))))))) (nameG 3))
  (seqS (exprS (bmD isL appendD (varD 3) (consD (callD m__law_roll (consD (varD 2) (consD (op2 powD (cD (.int 10)) (cD (.int 30))) nilD))) nilD)))
  (seqS (asgS (callD m__law_pick (consD (varD 2) (consD (lstD (consD (cD .non) (consD (cD (.int 0)) (consD (cD (.int 1)) (consD (callD m__law_roll (consD (varD 2) (consD (op2 powD (cD (.int 10)) (cD (.int 20))) nilD))) nilD))))) nilD))) (nameG 4))
  (forS (rng1D (consD (cD (.int 3)) nilD)) (nameG 5)
  (ifS (notT (testD (callD m__law_right (consD (callD m__law_pick (consD (varD 2) (consD (varD 3) nilD))) (consD (varD 4) nilD)))))
  (retS (cD (.bl false)))
  nilS)))))))
  (retS (cD (.bl true))))
theorem ok_law (T : Txt K mg A Df) (nd : base.NoDigits) : Gl.FnG P w K mg base CX0 5 A.a_law Df.d_law ["_law_script"] (spD K (Gm A) m_law) := by
  have G__law_dice := ok__law_dice (P := P) (w := w) (base := base) T nd
  have G__law_pick := ok__law_pick (P := P) (w := w) (base := base) T nd
  have G__law_right := ok__law_right (P := P) (w := w) (base := base) T nd
  have G__law_roll := ok__law_roll (P := P) (w := w) (base := base) T nd
  refine okD0 T.F_law sc_law rfl fun cdv Ar outer s H E hG hr => ?_
  exact ⟨_, (ds_cons (ds_for PassesOwn.never (by rfl) (di_range1 (by rfl) T.z_range (da_cons (de_callB (call_max2 (by rfl)) cg_max (by rfl) T.z_max (by decide +kernel) (da_cons de_int (da_cons (de_callB (call_min2 (by rfl)) cg_min (by rfl) T.z_min (by decide +kernel) (da_cons de_int (da_cons (de_callB call_lenAA cg_len (by rfl) T.z_len (by decide +kernel) (da_cons ⟨pv 0, gd_var⟩ da_nil)) da_nil))) da_nil))) da_nil)) (dg_name (i := 1) sc_law.nd rfl (.inl rfl))
    (ds_cons (ds_set (i := 2) sc_law.nd rfl (.inl rfl) (de_call G__law_dice takes0 (hr.mono (by decide)) (by rfl) T.g__law_dice T.F__law_dice.kp T.b__law_dice (da_cons ⟨pv 0, gd_var⟩ (da_cons ⟨pv 1, gd_var⟩ da_nil))))
    (ds_cons (ds_set (i := 3) sc_law.nd rfl (.inl rfl) (de_lstC (da_cons de_non (da_cons de_bl (da_cons de_int (da_cons de_str (da_cons de_str (da_cons (de_tup (da_cons de_int (da_cons de_int da_nil))) (da_cons (de_lst (da_cons de_int da_nil)) (da_cons (de_dict (dp_cons de_int de_int dp_nil) (by rfl) (by rfl) (fun z => by cases z) (by decide)) (da_cons (de_tup (da_cons (de_tup da_nil) (da_cons (de_tup (da_cons de_str (da_cons de_int da_nil))) da_nil))) (da_cons (de_tup (da_cons de_str (da_cons de_str da_nil))) (da_cons (de_tup (da_cons de_int (da_cons de_int da_nil))) da_nil)))))))))))))
    (ds_cons (ds_expr (de_bm ty_L mg_append PySem.F.plainAttrs_list PySem.F.slot_list_append PySem.F.type_list_append mt_append ⟨pv 3, gd_var⟩ (da_cons (de_call G__law_roll takes0 (hr.mono (by decide)) (by rfl) T.g__law_roll T.F__law_roll.kp T.b__law_roll (da_cons ⟨pv 2, gd_var⟩ (da_cons (de_op Gl.op_powA og_pow de_int de_int) da_nil))) da_nil)))
    (ds_cons (ds_set (i := 4) sc_law.nd rfl (.inl rfl) (de_call G__law_pick takes0 (hr.mono (by decide)) (by rfl) T.g__law_pick T.F__law_pick.kp T.b__law_pick (da_cons ⟨pv 2, gd_var⟩ (da_cons (de_lst (da_cons de_non (da_cons de_int (da_cons de_int (da_cons (de_call G__law_roll takes0 (hr.mono (by decide)) (by rfl) T.g__law_roll T.F__law_roll.kp T.b__law_roll (da_cons ⟨pv 2, gd_var⟩ (da_cons (de_op Gl.op_powA og_pow de_int de_int) da_nil))) da_nil))))) da_nil))))
    (ds_one (ds_for PassesOwn.never (by rfl) (di_range1 (by rfl) T.z_range (da_cons de_int da_nil)) (dg_name (i := 5) sc_law.nd rfl (.inl rfl))
    (ds_one (ds_if (dt_not (dt_val (de_callG G__law_right nb__law_right hG (hr.mono (by decide)) (by rfl) T.g__law_right T.F__law_right.kp T.b__law_right (da_cons (de_call G__law_pick takes0 (hr.mono (by decide)) (by rfl) T.g__law_pick T.F__law_pick.kp T.b__law_pick (da_cons ⟨pv 2, gd_var⟩ (da_cons ⟨pv 3, gd_var⟩ da_nil))) (da_cons ⟨pv 4, gd_var⟩ da_nil)))))
    (ds_one (ds_ret de_bl))
    ds_nil)))))))))
    (ds_one (ds_ret de_bl)))⟩

end
end Law

set_option Elab.async false
set_option maxRecDepth 100000
set_option maxHeartbeats 4000000
set_option linter.all false
namespace Law
open PySem PySem.Spec PyProof.Rows L2 Md Pl TxS
section
variable {s : Sto}
theorem dice_ok {ns : List Int} {k : Nat} : ∃ l b : Int, m__law_dice [.scr ns, .int (k : Int)] s = .ok (.cell s.length) (s ++ [.lst [.int l, .int b, .int 0]]) := by
  unfold m__law_dice
  simp -implicitDefEqProofs (disch := first | assumption | with_reducible (first | exact e_nc_int | exact e_nc_str | exact e_nc_tup | exact e_nc_lst | exact e_nc_bl | exact e_nc_non | exact e_nc_dic | exact e_nc_ins | exact e_right_int | exact e_right_str | exact e_right_tup | exact e_right_lst | exact e_right_non | exact e_right_dic | exact e_isL | exact e_isS | exact e_isT | exact (Nat.le_of_ble_eq_true rfl) | exact (isL_mid rfl) | exact (isL_mid (by assumption))) | decide +kernel | with_reducible exact e_right_ins (by decide +kernel) | with_reducible exact mulB_l (by decide +kernel) | with_reducible exact mulB_r (by decide +kernel) | omega) only [Bool.not_true, Bool.not_false, evAll, evTwo, evThree, evFour, evFive, pow_eq]
  rcases Nat.lt_or_ge k ns.length with hk | hk
  · have ha : ixD (.scr ns) (.int (k : Int)) s = .ok (.int ns[k]) s := by
      simp only [ixD, vw, atI, ixN]
      rw [if_pos (by omega), if_pos (by omega)]
      simp only [Int.toNat_natCast, Option.bind_some, List.getElem?_eq_getElem hk]
    rw [decide_eq_true (show (k : Int) < ns.length by omega)]
    simp -implicitDefEqProofs (disch := first | assumption | with_reducible (first | exact e_nc_int | exact e_nc_str | exact e_nc_tup | exact e_nc_lst | exact e_nc_bl | exact e_nc_non | exact e_nc_dic | exact e_nc_ins | exact e_right_int | exact e_right_str | exact e_right_tup | exact e_right_lst | exact e_right_non | exact e_right_dic | exact e_isL | exact e_isS | exact e_isT | exact (Nat.le_of_ble_eq_true rfl) | exact (isL_mid rfl) | exact (isL_mid (by assumption))) | decide +kernel | with_reducible exact e_right_ins (by decide +kernel) | with_reducible exact mulB_l (by decide +kernel) | with_reducible exact mulB_r (by decide +kernel) | omega) only [Bool.not_true, Bool.not_false, evAll, evTwo, evThree, evFour, evFive, pow_eq, ha, trim_new]
    exact ⟨_, _, rfl⟩
  · rw [decide_eq_false (show ¬ (k : Int) < ns.length by omega)]
    simp -implicitDefEqProofs (disch := first | assumption | with_reducible (first | exact e_nc_int | exact e_nc_str | exact e_nc_tup | exact e_nc_lst | exact e_nc_bl | exact e_nc_non | exact e_nc_dic | exact e_nc_ins | exact e_right_int | exact e_right_str | exact e_right_tup | exact e_right_lst | exact e_right_non | exact e_right_dic | exact e_isL | exact e_isS | exact e_isT | exact (Nat.le_of_ble_eq_true rfl) | exact (isL_mid rfl) | exact (isL_mid (by assumption))) | decide +kernel | with_reducible exact e_right_ins (by decide +kernel) | with_reducible exact mulB_l (by decide +kernel) | with_reducible exact mulB_r (by decide +kernel) | omega) only [Bool.not_true, Bool.not_false, evAll, evTwo, evThree, evFour, evFive, pow_eq, trim_new]
    exact ⟨_, _, rfl⟩
theorem atI_nat {α : Type} {xs : List α} {r : Int} (h0 : 0 ≤ r) (h1 : r < xs.length) : ∃ x, atI xs r = some x ∧ x ∈ xs := by
  obtain ⟨k, rfl⟩ := Int.eq_ofNat_of_zero_le h0
  have hk : k < xs.length := by omega
  refine ⟨xs[k], ?_, List.getElem_mem hk⟩
  simp only [atI, ixN]
  rw [if_pos (by omega), if_pos (by omega)]
  simp only [Int.toNat_natCast, Option.bind_some, List.getElem?_eq_getElem hk]
end

section
variable {s : Sto}
theorem roll_okS {n : Nat} {t : Int} (hd : Dn n s) (h0 : 0 < t) (h1 : t ≤ 10 ^ 60) : ∃ (r : Int) (c : Cl), m__law_roll [.cell n, .int t] s = .ok (.int r) (s.set n c) ∧ 0 ≤ r ∧ r < t ∧ Dn n (s.set n c) := by
  obtain ⟨l, k, c, e⟩ := hd.at_
  have h9 : t < Gl.B9 := Gl.small_B9 h1
  have a0 : ∀ x y z : D, atI [x, y, z] 0 = some x := fun _ _ _ => rfl
  have a1 : ∀ x y z : D, atI [x, y, z] 1 = some y := fun _ _ _ => rfl
  have a2 : ∀ x y z : D, atI [x, y, z] 2 = some z := fun _ _ _ => rfl
  unfold m__law_roll
  simp -implicitDefEqProofs (disch := first | assumption | with_reducible (first | exact e_nc_int | exact e_nc_str | exact e_nc_tup | exact e_nc_lst | exact e_nc_bl | exact e_nc_non | exact e_nc_dic | exact e_nc_ins | exact e_right_int | exact e_right_str | exact e_right_tup | exact e_right_lst | exact e_right_non | exact e_right_dic | exact e_isL | exact e_isS | exact e_isT | exact (Nat.le_of_ble_eq_true rfl) | exact (isL_mid rfl) | exact (isL_mid (by assumption))) | decide +kernel | with_reducible exact e_right_ins (by decide +kernel) | with_reducible exact mulB_l (by decide +kernel) | with_reducible exact mulB_r (by decide +kernel) | omega) only [Bool.not_true, Bool.not_false, evAll, evTwo, evThree, evFour, evFive, ix_cell e (a0 _ _ _)]
  by_cases hl : 0 < l
  · rw [decide_eq_true hl]
    have hs : ∀ x : Int, setItD (.cell n) (.int 0) (.int x) s = some (s.set n (.lst [.int x, .int k, .int c])) := fun x => setItD_eq (j := 0) e rfl rfl
    simp -implicitDefEqProofs (disch := first | assumption | with_reducible (first | exact e_nc_int | exact e_nc_str | exact e_nc_tup | exact e_nc_lst | exact e_nc_bl | exact e_nc_non | exact e_nc_dic | exact e_nc_ins | exact e_right_int | exact e_right_str | exact e_right_tup | exact e_right_lst | exact e_right_non | exact e_right_dic | exact e_isL | exact e_isS | exact e_isT | exact (Nat.le_of_ble_eq_true rfl) | exact (isL_mid rfl) | exact (isL_mid (by assumption))) | decide +kernel | with_reducible exact e_right_ins (by decide +kernel) | with_reducible exact mulB_l (by decide +kernel) | with_reducible exact mulB_r (by decide +kernel) | omega) only [Bool.not_true, Bool.not_false, evAll, evTwo, evThree, evFour, evFive, ix_cell e (a0 _ _ _), hs]
    refine ⟨_, _, trim_eq (List.length_set ..), Int.emod_nonneg _ (by omega), Int.emod_lt_of_pos _ h0, hd.put ..⟩
  · rw [decide_eq_false hl]
    have hs : ∀ x : Int, setItD (.cell n) (.int 2) (.int x) s = some (s.set n (.lst [.int l, .int k, .int x])) := fun x => setItD_eq (j := 2) e rfl rfl
    have hd2 := hd.put l k (c + 1)
    have e2 : (s.set n (.lst [.int l, .int k, .int (c + 1)]))[n]? = some (.lst [.int l, .int k, .int (c + 1)]) := List.getElem?_set_self hd.lt
    have el : (s.set n (.lst [.int l, .int k, .int (c + 1)])).length = s.length := List.length_set ..
    have m1 : ∀ x : Int, mulB (x % 2305843009213693693) (x % 2305843009213693693) = true := fun x => mulB_l (by unfold sm64; simp only [Bool.and_eq_true, decide_eq_true_eq]; omega)
    simp -implicitDefEqProofs (disch := first | assumption | with_reducible (first | exact e_nc_int | exact e_nc_str | exact e_nc_tup | exact e_nc_lst | exact e_nc_bl | exact e_nc_non | exact e_nc_dic | exact e_nc_ins | exact e_right_int | exact e_right_str | exact e_right_tup | exact e_right_lst | exact e_right_non | exact e_right_dic | exact e_isL | exact e_isS | exact e_isT | exact (Nat.le_of_ble_eq_true rfl) | exact (isL_mid rfl) | exact (isL_mid (by assumption))) | decide +kernel | with_reducible exact e_right_ins (by decide +kernel) | with_reducible exact mulB_l (by decide +kernel) | with_reducible exact mulB_r (by decide +kernel) | omega) only [Bool.not_true, Bool.not_false, evAll, evTwo, evThree, evFour, evFive, hs, ix_cell e (a2 _ _ _), ix_cell e2 (a1 _ _ _), ix_cell e2 (a2 _ _ _), e_mul (m1 _)]
    refine ⟨_, _, trim_eq el, Int.emod_nonneg _ (by omega), Int.emod_lt_of_pos _ h0, hd2⟩
theorem pick_okS {n : Nat} {xs : List D} (hd : Dn n s) (h0 : 0 < xs.length) (h1 : xs.length ≤ 1000) : ∃ (x : D) (c : Cl), m__law_pick [.cell n, .lst xs] s = .ok x (s.set n c) ∧ x ∈ xs ∧ Dn n (s.set n c) := by
  obtain ⟨r, c, e, r0, r1, hd'⟩ := roll_okS (t := xs.length) hd (by omega) (by omega)
  obtain ⟨x, hx, hm⟩ := atI_nat r0 r1
  unfold m__law_pick
  refine ⟨x, c, ?_, hm, hd'⟩
  simp -implicitDefEqProofs (disch := first | assumption | with_reducible (first | exact e_nc_int | exact e_nc_str | exact e_nc_tup | exact e_nc_lst | exact e_nc_bl | exact e_nc_non | exact e_nc_dic | exact e_nc_ins | exact e_right_int | exact e_right_str | exact e_right_tup | exact e_right_lst | exact e_right_non | exact e_right_dic | exact e_isL | exact e_isS | exact e_isT | exact (Nat.le_of_ble_eq_true rfl) | exact (isL_mid rfl) | exact (isL_mid (by assumption))) | decide +kernel | with_reducible exact e_right_ins (by decide +kernel) | with_reducible exact mulB_l (by decide +kernel) | with_reducible exact mulB_r (by decide +kernel) | omega) only [Bool.not_true, Bool.not_false, evAll, evTwo, evThree, evFour, evFive, e, ix_lst hx]
  exact trim_eq (List.length_set ..)
end

theorem trim_str {n : Nat} {z z2 : Str} {s : Sto} (h : s.length = n) (e : z = z2) : trimO n (.ok (.str z) s) = .ok (.str z2) s := by
  rw [e]
  subst h
  exact trim_eq rfl
theorem body_k {np n : Nat} {ψ : FS} {ds : List D} {s : Sto} {d : D} (h : ds.length = np) (e : rawD n ψ ds s = .ok d s) : bodyD np n ψ ds s = .ok d s := by
  unfold bodyD
  rw [if_pos h, e]
  exact trim_eq rfl
section
variable {s : Sto} {xs : List D} {f : Str}
theorem own_0 : m__law_own [.exc 0 f xs] s = .ok (.str "") s := by
  unfold m__law_own
  simp -implicitDefEqProofs (disch := first | assumption | with_reducible (first | exact e_nc_int | exact e_nc_str | exact e_nc_tup | exact e_nc_lst | exact e_nc_bl | exact e_nc_non | exact e_nc_dic | exact e_nc_ins | exact e_right_int | exact e_right_str | exact e_right_tup | exact e_right_lst | exact e_right_non | exact e_right_dic | exact e_isL | exact e_isS | exact e_isT | exact (Nat.le_of_ble_eq_true rfl) | exact (isL_mid rfl) | exact (isL_mid (by assumption))) | decide +kernel | with_reducible exact e_right_ins (by decide +kernel) | with_reducible exact mulB_l (by decide +kernel) | with_reducible exact mulB_r (by decide +kernel) | omega) only [Bool.not_true, Bool.not_false, evAll, evTwo, evThree, evFour, evFive, e_isiX, e_isiO (t := ti_InvalidGrid) (c := 0) (b := false) rfl, e_isiO (t := ti_InvalidPoint) (c := 0) (b := false) rfl, e_isiO (t := ti_InvalidRule) (c := 0) (b := false) rfl, e_isiO (t := ti_InvalidScheme) (c := 0) (b := false) rfl, e_isiO (t := ti_InvalidStand) (c := 0) (b := false) rfl, e_isiO (t := ti_InvalidPaper) (c := 0) (b := false) rfl, e_isiO (t := ti_InvalidOperation) (c := 0) (b := false) rfl, e_isiO (t := ti_ParseError) (c := 0) (b := false) rfl, e_isiO (t := ti_UnknownLetter) (c := 0) (b := false) rfl, e_isiO (t := ti_UnknownAddress) (c := 0) (b := false) rfl, e_isiO (t := ti_InvalidNumber) (c := 0) (b := false) rfl, e_isiO (t := ti_NothingToUndo) (c := 0) (b := false) rfl, e_isiO (t := ti_TooMany) (c := 0) (b := false) rfl, e_isiO (t := ti_Refused) (c := 0) (b := false) rfl, e_isiO (t := ti_NoQuotient) (c := 0) (b := false) rfl, mulS_f, mulS_t]
  exact trim_str rfl (by decide +kernel)
theorem own_1 : m__law_own [.exc 1 f xs] s = .ok (.str "g") s := by
  unfold m__law_own
  simp -implicitDefEqProofs (disch := first | assumption | with_reducible (first | exact e_nc_int | exact e_nc_str | exact e_nc_tup | exact e_nc_lst | exact e_nc_bl | exact e_nc_non | exact e_nc_dic | exact e_nc_ins | exact e_right_int | exact e_right_str | exact e_right_tup | exact e_right_lst | exact e_right_non | exact e_right_dic | exact e_isL | exact e_isS | exact e_isT | exact (Nat.le_of_ble_eq_true rfl) | exact (isL_mid rfl) | exact (isL_mid (by assumption))) | decide +kernel | with_reducible exact e_right_ins (by decide +kernel) | with_reducible exact mulB_l (by decide +kernel) | with_reducible exact mulB_r (by decide +kernel) | omega) only [Bool.not_true, Bool.not_false, evAll, evTwo, evThree, evFour, evFive, e_isiX, e_isiO (t := ti_InvalidGrid) (c := 1) (b := true) rfl, e_isiO (t := ti_InvalidPoint) (c := 1) (b := false) rfl, e_isiO (t := ti_InvalidRule) (c := 1) (b := false) rfl, e_isiO (t := ti_InvalidScheme) (c := 1) (b := false) rfl, e_isiO (t := ti_InvalidStand) (c := 1) (b := false) rfl, e_isiO (t := ti_InvalidPaper) (c := 1) (b := false) rfl, e_isiO (t := ti_InvalidOperation) (c := 1) (b := false) rfl, e_isiO (t := ti_ParseError) (c := 1) (b := false) rfl, e_isiO (t := ti_UnknownLetter) (c := 1) (b := false) rfl, e_isiO (t := ti_UnknownAddress) (c := 1) (b := false) rfl, e_isiO (t := ti_InvalidNumber) (c := 1) (b := false) rfl, e_isiO (t := ti_NothingToUndo) (c := 1) (b := false) rfl, e_isiO (t := ti_TooMany) (c := 1) (b := false) rfl, e_isiO (t := ti_Refused) (c := 1) (b := false) rfl, e_isiO (t := ti_NoQuotient) (c := 1) (b := false) rfl, mulS_f, mulS_t]
  exact trim_str rfl (by decide +kernel)
theorem own_2 : m__law_own [.exc 2 f xs] s = .ok (.str "p") s := by
  unfold m__law_own
  simp -implicitDefEqProofs (disch := first | assumption | with_reducible (first | exact e_nc_int | exact e_nc_str | exact e_nc_tup | exact e_nc_lst | exact e_nc_bl | exact e_nc_non | exact e_nc_dic | exact e_nc_ins | exact e_right_int | exact e_right_str | exact e_right_tup | exact e_right_lst | exact e_right_non | exact e_right_dic | exact e_isL | exact e_isS | exact e_isT | exact (Nat.le_of_ble_eq_true rfl) | exact (isL_mid rfl) | exact (isL_mid (by assumption))) | decide +kernel | with_reducible exact e_right_ins (by decide +kernel) | with_reducible exact mulB_l (by decide +kernel) | with_reducible exact mulB_r (by decide +kernel) | omega) only [Bool.not_true, Bool.not_false, evAll, evTwo, evThree, evFour, evFive, e_isiX, e_isiO (t := ti_InvalidGrid) (c := 2) (b := false) rfl, e_isiO (t := ti_InvalidPoint) (c := 2) (b := true) rfl, e_isiO (t := ti_InvalidRule) (c := 2) (b := false) rfl, e_isiO (t := ti_InvalidScheme) (c := 2) (b := false) rfl, e_isiO (t := ti_InvalidStand) (c := 2) (b := false) rfl, e_isiO (t := ti_InvalidPaper) (c := 2) (b := false) rfl, e_isiO (t := ti_InvalidOperation) (c := 2) (b := false) rfl, e_isiO (t := ti_ParseError) (c := 2) (b := false) rfl, e_isiO (t := ti_UnknownLetter) (c := 2) (b := false) rfl, e_isiO (t := ti_UnknownAddress) (c := 2) (b := false) rfl, e_isiO (t := ti_InvalidNumber) (c := 2) (b := false) rfl, e_isiO (t := ti_NothingToUndo) (c := 2) (b := false) rfl, e_isiO (t := ti_TooMany) (c := 2) (b := false) rfl, e_isiO (t := ti_Refused) (c := 2) (b := false) rfl, e_isiO (t := ti_NoQuotient) (c := 2) (b := false) rfl, mulS_f, mulS_t]
  exact trim_str rfl (by decide +kernel)
theorem own_3 : m__law_own [.exc 3 f xs] s = .ok (.str "r") s := by
  unfold m__law_own
  simp -implicitDefEqProofs (disch := first | assumption | with_reducible (first | exact e_nc_int | exact e_nc_str | exact e_nc_tup | exact e_nc_lst | exact e_nc_bl | exact e_nc_non | exact e_nc_dic | exact e_nc_ins | exact e_right_int | exact e_right_str | exact e_right_tup | exact e_right_lst | exact e_right_non | exact e_right_dic | exact e_isL | exact e_isS | exact e_isT | exact (Nat.le_of_ble_eq_true rfl) | exact (isL_mid rfl) | exact (isL_mid (by assumption))) | decide +kernel | with_reducible exact e_right_ins (by decide +kernel) | with_reducible exact mulB_l (by decide +kernel) | with_reducible exact mulB_r (by decide +kernel) | omega) only [Bool.not_true, Bool.not_false, evAll, evTwo, evThree, evFour, evFive, e_isiX, e_isiO (t := ti_InvalidGrid) (c := 3) (b := false) rfl, e_isiO (t := ti_InvalidPoint) (c := 3) (b := false) rfl, e_isiO (t := ti_InvalidRule) (c := 3) (b := true) rfl, e_isiO (t := ti_InvalidScheme) (c := 3) (b := false) rfl, e_isiO (t := ti_InvalidStand) (c := 3) (b := false) rfl, e_isiO (t := ti_InvalidPaper) (c := 3) (b := false) rfl, e_isiO (t := ti_InvalidOperation) (c := 3) (b := false) rfl, e_isiO (t := ti_ParseError) (c := 3) (b := false) rfl, e_isiO (t := ti_UnknownLetter) (c := 3) (b := false) rfl, e_isiO (t := ti_UnknownAddress) (c := 3) (b := false) rfl, e_isiO (t := ti_InvalidNumber) (c := 3) (b := false) rfl, e_isiO (t := ti_NothingToUndo) (c := 3) (b := false) rfl, e_isiO (t := ti_TooMany) (c := 3) (b := false) rfl, e_isiO (t := ti_Refused) (c := 3) (b := false) rfl, e_isiO (t := ti_NoQuotient) (c := 3) (b := false) rfl, mulS_f, mulS_t]
  exact trim_str rfl (by decide +kernel)
theorem own_4 : m__law_own [.exc 4 f xs] s = .ok (.str "s") s := by
  unfold m__law_own
  simp -implicitDefEqProofs (disch := first | assumption | with_reducible (first | exact e_nc_int | exact e_nc_str | exact e_nc_tup | exact e_nc_lst | exact e_nc_bl | exact e_nc_non | exact e_nc_dic | exact e_nc_ins | exact e_right_int | exact e_right_str | exact e_right_tup | exact e_right_lst | exact e_right_non | exact e_right_dic | exact e_isL | exact e_isS | exact e_isT | exact (Nat.le_of_ble_eq_true rfl) | exact (isL_mid rfl) | exact (isL_mid (by assumption))) | decide +kernel | with_reducible exact e_right_ins (by decide +kernel) | with_reducible exact mulB_l (by decide +kernel) | with_reducible exact mulB_r (by decide +kernel) | omega) only [Bool.not_true, Bool.not_false, evAll, evTwo, evThree, evFour, evFive, e_isiX, e_isiO (t := ti_InvalidGrid) (c := 4) (b := false) rfl, e_isiO (t := ti_InvalidPoint) (c := 4) (b := false) rfl, e_isiO (t := ti_InvalidRule) (c := 4) (b := false) rfl, e_isiO (t := ti_InvalidScheme) (c := 4) (b := true) rfl, e_isiO (t := ti_InvalidStand) (c := 4) (b := false) rfl, e_isiO (t := ti_InvalidPaper) (c := 4) (b := false) rfl, e_isiO (t := ti_InvalidOperation) (c := 4) (b := false) rfl, e_isiO (t := ti_ParseError) (c := 4) (b := false) rfl, e_isiO (t := ti_UnknownLetter) (c := 4) (b := false) rfl, e_isiO (t := ti_UnknownAddress) (c := 4) (b := false) rfl, e_isiO (t := ti_InvalidNumber) (c := 4) (b := false) rfl, e_isiO (t := ti_NothingToUndo) (c := 4) (b := false) rfl, e_isiO (t := ti_TooMany) (c := 4) (b := false) rfl, e_isiO (t := ti_Refused) (c := 4) (b := false) rfl, e_isiO (t := ti_NoQuotient) (c := 4) (b := false) rfl, mulS_f, mulS_t]
  exact trim_str rfl (by decide +kernel)
theorem own_5 : m__law_own [.exc 5 f xs] s = .ok (.str "d") s := by
  unfold m__law_own
  simp -implicitDefEqProofs (disch := first | assumption | with_reducible (first | exact e_nc_int | exact e_nc_str | exact e_nc_tup | exact e_nc_lst | exact e_nc_bl | exact e_nc_non | exact e_nc_dic | exact e_nc_ins | exact e_right_int | exact e_right_str | exact e_right_tup | exact e_right_lst | exact e_right_non | exact e_right_dic | exact e_isL | exact e_isS | exact e_isT | exact (Nat.le_of_ble_eq_true rfl) | exact (isL_mid rfl) | exact (isL_mid (by assumption))) | decide +kernel | with_reducible exact e_right_ins (by decide +kernel) | with_reducible exact mulB_l (by decide +kernel) | with_reducible exact mulB_r (by decide +kernel) | omega) only [Bool.not_true, Bool.not_false, evAll, evTwo, evThree, evFour, evFive, e_isiX, e_isiO (t := ti_InvalidGrid) (c := 5) (b := false) rfl, e_isiO (t := ti_InvalidPoint) (c := 5) (b := false) rfl, e_isiO (t := ti_InvalidRule) (c := 5) (b := false) rfl, e_isiO (t := ti_InvalidScheme) (c := 5) (b := false) rfl, e_isiO (t := ti_InvalidStand) (c := 5) (b := true) rfl, e_isiO (t := ti_InvalidPaper) (c := 5) (b := false) rfl, e_isiO (t := ti_InvalidOperation) (c := 5) (b := false) rfl, e_isiO (t := ti_ParseError) (c := 5) (b := false) rfl, e_isiO (t := ti_UnknownLetter) (c := 5) (b := false) rfl, e_isiO (t := ti_UnknownAddress) (c := 5) (b := false) rfl, e_isiO (t := ti_InvalidNumber) (c := 5) (b := false) rfl, e_isiO (t := ti_NothingToUndo) (c := 5) (b := false) rfl, e_isiO (t := ti_TooMany) (c := 5) (b := false) rfl, e_isiO (t := ti_Refused) (c := 5) (b := false) rfl, e_isiO (t := ti_NoQuotient) (c := 5) (b := false) rfl, mulS_f, mulS_t]
  exact trim_str rfl (by decide +kernel)
theorem own_6 : m__law_own [.exc 6 f xs] s = .ok (.str "q") s := by
  unfold m__law_own
  simp -implicitDefEqProofs (disch := first | assumption | with_reducible (first | exact e_nc_int | exact e_nc_str | exact e_nc_tup | exact e_nc_lst | exact e_nc_bl | exact e_nc_non | exact e_nc_dic | exact e_nc_ins | exact e_right_int | exact e_right_str | exact e_right_tup | exact e_right_lst | exact e_right_non | exact e_right_dic | exact e_isL | exact e_isS | exact e_isT | exact (Nat.le_of_ble_eq_true rfl) | exact (isL_mid rfl) | exact (isL_mid (by assumption))) | decide +kernel | with_reducible exact e_right_ins (by decide +kernel) | with_reducible exact mulB_l (by decide +kernel) | with_reducible exact mulB_r (by decide +kernel) | omega) only [Bool.not_true, Bool.not_false, evAll, evTwo, evThree, evFour, evFive, e_isiX, e_isiO (t := ti_InvalidGrid) (c := 6) (b := false) rfl, e_isiO (t := ti_InvalidPoint) (c := 6) (b := false) rfl, e_isiO (t := ti_InvalidRule) (c := 6) (b := false) rfl, e_isiO (t := ti_InvalidScheme) (c := 6) (b := false) rfl, e_isiO (t := ti_InvalidStand) (c := 6) (b := false) rfl, e_isiO (t := ti_InvalidPaper) (c := 6) (b := true) rfl, e_isiO (t := ti_InvalidOperation) (c := 6) (b := false) rfl, e_isiO (t := ti_ParseError) (c := 6) (b := false) rfl, e_isiO (t := ti_UnknownLetter) (c := 6) (b := false) rfl, e_isiO (t := ti_UnknownAddress) (c := 6) (b := false) rfl, e_isiO (t := ti_InvalidNumber) (c := 6) (b := false) rfl, e_isiO (t := ti_NothingToUndo) (c := 6) (b := false) rfl, e_isiO (t := ti_TooMany) (c := 6) (b := false) rfl, e_isiO (t := ti_Refused) (c := 6) (b := false) rfl, e_isiO (t := ti_NoQuotient) (c := 6) (b := false) rfl, mulS_f, mulS_t]
  exact trim_str rfl (by decide +kernel)
theorem own_7 : m__law_own [.exc 7 f xs] s = .ok (.str "o") s := by
  unfold m__law_own
  simp -implicitDefEqProofs (disch := first | assumption | with_reducible (first | exact e_nc_int | exact e_nc_str | exact e_nc_tup | exact e_nc_lst | exact e_nc_bl | exact e_nc_non | exact e_nc_dic | exact e_nc_ins | exact e_right_int | exact e_right_str | exact e_right_tup | exact e_right_lst | exact e_right_non | exact e_right_dic | exact e_isL | exact e_isS | exact e_isT | exact (Nat.le_of_ble_eq_true rfl) | exact (isL_mid rfl) | exact (isL_mid (by assumption))) | decide +kernel | with_reducible exact e_right_ins (by decide +kernel) | with_reducible exact mulB_l (by decide +kernel) | with_reducible exact mulB_r (by decide +kernel) | omega) only [Bool.not_true, Bool.not_false, evAll, evTwo, evThree, evFour, evFive, e_isiX, e_isiO (t := ti_InvalidGrid) (c := 7) (b := false) rfl, e_isiO (t := ti_InvalidPoint) (c := 7) (b := false) rfl, e_isiO (t := ti_InvalidRule) (c := 7) (b := false) rfl, e_isiO (t := ti_InvalidScheme) (c := 7) (b := false) rfl, e_isiO (t := ti_InvalidStand) (c := 7) (b := false) rfl, e_isiO (t := ti_InvalidPaper) (c := 7) (b := false) rfl, e_isiO (t := ti_InvalidOperation) (c := 7) (b := true) rfl, e_isiO (t := ti_ParseError) (c := 7) (b := false) rfl, e_isiO (t := ti_UnknownLetter) (c := 7) (b := false) rfl, e_isiO (t := ti_UnknownAddress) (c := 7) (b := false) rfl, e_isiO (t := ti_InvalidNumber) (c := 7) (b := false) rfl, e_isiO (t := ti_NothingToUndo) (c := 7) (b := false) rfl, e_isiO (t := ti_TooMany) (c := 7) (b := false) rfl, e_isiO (t := ti_Refused) (c := 7) (b := false) rfl, e_isiO (t := ti_NoQuotient) (c := 7) (b := false) rfl, mulS_f, mulS_t]
  exact trim_str rfl (by decide +kernel)
theorem own_8 : m__law_own [.exc 8 f xs] s = .ok (.str "x") s := by
  unfold m__law_own
  simp -implicitDefEqProofs (disch := first | assumption | with_reducible (first | exact e_nc_int | exact e_nc_str | exact e_nc_tup | exact e_nc_lst | exact e_nc_bl | exact e_nc_non | exact e_nc_dic | exact e_nc_ins | exact e_right_int | exact e_right_str | exact e_right_tup | exact e_right_lst | exact e_right_non | exact e_right_dic | exact e_isL | exact e_isS | exact e_isT | exact (Nat.le_of_ble_eq_true rfl) | exact (isL_mid rfl) | exact (isL_mid (by assumption))) | decide +kernel | with_reducible exact e_right_ins (by decide +kernel) | with_reducible exact mulB_l (by decide +kernel) | with_reducible exact mulB_r (by decide +kernel) | omega) only [Bool.not_true, Bool.not_false, evAll, evTwo, evThree, evFour, evFive, e_isiX, e_isiO (t := ti_InvalidGrid) (c := 8) (b := false) rfl, e_isiO (t := ti_InvalidPoint) (c := 8) (b := false) rfl, e_isiO (t := ti_InvalidRule) (c := 8) (b := false) rfl, e_isiO (t := ti_InvalidScheme) (c := 8) (b := false) rfl, e_isiO (t := ti_InvalidStand) (c := 8) (b := false) rfl, e_isiO (t := ti_InvalidPaper) (c := 8) (b := false) rfl, e_isiO (t := ti_InvalidOperation) (c := 8) (b := false) rfl, e_isiO (t := ti_ParseError) (c := 8) (b := true) rfl, e_isiO (t := ti_UnknownLetter) (c := 8) (b := false) rfl, e_isiO (t := ti_UnknownAddress) (c := 8) (b := false) rfl, e_isiO (t := ti_InvalidNumber) (c := 8) (b := false) rfl, e_isiO (t := ti_NothingToUndo) (c := 8) (b := false) rfl, e_isiO (t := ti_TooMany) (c := 8) (b := false) rfl, e_isiO (t := ti_Refused) (c := 8) (b := false) rfl, e_isiO (t := ti_NoQuotient) (c := 8) (b := false) rfl, mulS_f, mulS_t]
  exact trim_str rfl (by decide +kernel)
theorem own_9 : m__law_own [.exc 9 f xs] s = .ok (.str "U") s := by
  unfold m__law_own
  simp -implicitDefEqProofs (disch := first | assumption | with_reducible (first | exact e_nc_int | exact e_nc_str | exact e_nc_tup | exact e_nc_lst | exact e_nc_bl | exact e_nc_non | exact e_nc_dic | exact e_nc_ins | exact e_right_int | exact e_right_str | exact e_right_tup | exact e_right_lst | exact e_right_non | exact e_right_dic | exact e_isL | exact e_isS | exact e_isT | exact (Nat.le_of_ble_eq_true rfl) | exact (isL_mid rfl) | exact (isL_mid (by assumption))) | decide +kernel | with_reducible exact e_right_ins (by decide +kernel) | with_reducible exact mulB_l (by decide +kernel) | with_reducible exact mulB_r (by decide +kernel) | omega) only [Bool.not_true, Bool.not_false, evAll, evTwo, evThree, evFour, evFive, e_isiX, e_isiO (t := ti_InvalidGrid) (c := 9) (b := false) rfl, e_isiO (t := ti_InvalidPoint) (c := 9) (b := false) rfl, e_isiO (t := ti_InvalidRule) (c := 9) (b := false) rfl, e_isiO (t := ti_InvalidScheme) (c := 9) (b := false) rfl, e_isiO (t := ti_InvalidStand) (c := 9) (b := false) rfl, e_isiO (t := ti_InvalidPaper) (c := 9) (b := false) rfl, e_isiO (t := ti_InvalidOperation) (c := 9) (b := false) rfl, e_isiO (t := ti_ParseError) (c := 9) (b := false) rfl, e_isiO (t := ti_UnknownLetter) (c := 9) (b := true) rfl, e_isiO (t := ti_UnknownAddress) (c := 9) (b := false) rfl, e_isiO (t := ti_InvalidNumber) (c := 9) (b := false) rfl, e_isiO (t := ti_NothingToUndo) (c := 9) (b := false) rfl, e_isiO (t := ti_TooMany) (c := 9) (b := false) rfl, e_isiO (t := ti_Refused) (c := 9) (b := false) rfl, e_isiO (t := ti_NoQuotient) (c := 9) (b := false) rfl, mulS_f, mulS_t]
  exact trim_str rfl (by decide +kernel)
theorem own_10 : m__law_own [.exc 10 f xs] s = .ok (.str "A") s := by
  unfold m__law_own
  simp -implicitDefEqProofs (disch := first | assumption | with_reducible (first | exact e_nc_int | exact e_nc_str | exact e_nc_tup | exact e_nc_lst | exact e_nc_bl | exact e_nc_non | exact e_nc_dic | exact e_nc_ins | exact e_right_int | exact e_right_str | exact e_right_tup | exact e_right_lst | exact e_right_non | exact e_right_dic | exact e_isL | exact e_isS | exact e_isT | exact (Nat.le_of_ble_eq_true rfl) | exact (isL_mid rfl) | exact (isL_mid (by assumption))) | decide +kernel | with_reducible exact e_right_ins (by decide +kernel) | with_reducible exact mulB_l (by decide +kernel) | with_reducible exact mulB_r (by decide +kernel) | omega) only [Bool.not_true, Bool.not_false, evAll, evTwo, evThree, evFour, evFive, e_isiX, e_isiO (t := ti_InvalidGrid) (c := 10) (b := false) rfl, e_isiO (t := ti_InvalidPoint) (c := 10) (b := false) rfl, e_isiO (t := ti_InvalidRule) (c := 10) (b := false) rfl, e_isiO (t := ti_InvalidScheme) (c := 10) (b := false) rfl, e_isiO (t := ti_InvalidStand) (c := 10) (b := false) rfl, e_isiO (t := ti_InvalidPaper) (c := 10) (b := false) rfl, e_isiO (t := ti_InvalidOperation) (c := 10) (b := false) rfl, e_isiO (t := ti_ParseError) (c := 10) (b := false) rfl, e_isiO (t := ti_UnknownLetter) (c := 10) (b := false) rfl, e_isiO (t := ti_UnknownAddress) (c := 10) (b := true) rfl, e_isiO (t := ti_InvalidNumber) (c := 10) (b := false) rfl, e_isiO (t := ti_NothingToUndo) (c := 10) (b := false) rfl, e_isiO (t := ti_TooMany) (c := 10) (b := false) rfl, e_isiO (t := ti_Refused) (c := 10) (b := false) rfl, e_isiO (t := ti_NoQuotient) (c := 10) (b := false) rfl, mulS_f, mulS_t]
  exact trim_str rfl (by decide +kernel)
theorem own_11 : m__law_own [.exc 11 f xs] s = .ok (.str "N") s := by
  unfold m__law_own
  simp -implicitDefEqProofs (disch := first | assumption | with_reducible (first | exact e_nc_int | exact e_nc_str | exact e_nc_tup | exact e_nc_lst | exact e_nc_bl | exact e_nc_non | exact e_nc_dic | exact e_nc_ins | exact e_right_int | exact e_right_str | exact e_right_tup | exact e_right_lst | exact e_right_non | exact e_right_dic | exact e_isL | exact e_isS | exact e_isT | exact (Nat.le_of_ble_eq_true rfl) | exact (isL_mid rfl) | exact (isL_mid (by assumption))) | decide +kernel | with_reducible exact e_right_ins (by decide +kernel) | with_reducible exact mulB_l (by decide +kernel) | with_reducible exact mulB_r (by decide +kernel) | omega) only [Bool.not_true, Bool.not_false, evAll, evTwo, evThree, evFour, evFive, e_isiX, e_isiO (t := ti_InvalidGrid) (c := 11) (b := false) rfl, e_isiO (t := ti_InvalidPoint) (c := 11) (b := false) rfl, e_isiO (t := ti_InvalidRule) (c := 11) (b := false) rfl, e_isiO (t := ti_InvalidScheme) (c := 11) (b := false) rfl, e_isiO (t := ti_InvalidStand) (c := 11) (b := false) rfl, e_isiO (t := ti_InvalidPaper) (c := 11) (b := false) rfl, e_isiO (t := ti_InvalidOperation) (c := 11) (b := false) rfl, e_isiO (t := ti_ParseError) (c := 11) (b := false) rfl, e_isiO (t := ti_UnknownLetter) (c := 11) (b := false) rfl, e_isiO (t := ti_UnknownAddress) (c := 11) (b := false) rfl, e_isiO (t := ti_InvalidNumber) (c := 11) (b := true) rfl, e_isiO (t := ti_NothingToUndo) (c := 11) (b := false) rfl, e_isiO (t := ti_TooMany) (c := 11) (b := false) rfl, e_isiO (t := ti_Refused) (c := 11) (b := false) rfl, e_isiO (t := ti_NoQuotient) (c := 11) (b := false) rfl, mulS_f, mulS_t]
  exact trim_str rfl (by decide +kernel)
theorem own_12 : m__law_own [.exc 12 f xs] s = .ok (.str "Z") s := by
  unfold m__law_own
  simp -implicitDefEqProofs (disch := first | assumption | with_reducible (first | exact e_nc_int | exact e_nc_str | exact e_nc_tup | exact e_nc_lst | exact e_nc_bl | exact e_nc_non | exact e_nc_dic | exact e_nc_ins | exact e_right_int | exact e_right_str | exact e_right_tup | exact e_right_lst | exact e_right_non | exact e_right_dic | exact e_isL | exact e_isS | exact e_isT | exact (Nat.le_of_ble_eq_true rfl) | exact (isL_mid rfl) | exact (isL_mid (by assumption))) | decide +kernel | with_reducible exact e_right_ins (by decide +kernel) | with_reducible exact mulB_l (by decide +kernel) | with_reducible exact mulB_r (by decide +kernel) | omega) only [Bool.not_true, Bool.not_false, evAll, evTwo, evThree, evFour, evFive, e_isiX, e_isiO (t := ti_InvalidGrid) (c := 12) (b := false) rfl, e_isiO (t := ti_InvalidPoint) (c := 12) (b := false) rfl, e_isiO (t := ti_InvalidRule) (c := 12) (b := false) rfl, e_isiO (t := ti_InvalidScheme) (c := 12) (b := false) rfl, e_isiO (t := ti_InvalidStand) (c := 12) (b := false) rfl, e_isiO (t := ti_InvalidPaper) (c := 12) (b := false) rfl, e_isiO (t := ti_InvalidOperation) (c := 12) (b := false) rfl, e_isiO (t := ti_ParseError) (c := 12) (b := false) rfl, e_isiO (t := ti_UnknownLetter) (c := 12) (b := false) rfl, e_isiO (t := ti_UnknownAddress) (c := 12) (b := false) rfl, e_isiO (t := ti_InvalidNumber) (c := 12) (b := false) rfl, e_isiO (t := ti_NothingToUndo) (c := 12) (b := true) rfl, e_isiO (t := ti_TooMany) (c := 12) (b := false) rfl, e_isiO (t := ti_Refused) (c := 12) (b := false) rfl, e_isiO (t := ti_NoQuotient) (c := 12) (b := false) rfl, mulS_f, mulS_t]
  exact trim_str rfl (by decide +kernel)
theorem own_13 : m__law_own [.exc 13 f xs] s = .ok (.str "M") s := by
  unfold m__law_own
  simp -implicitDefEqProofs (disch := first | assumption | with_reducible (first | exact e_nc_int | exact e_nc_str | exact e_nc_tup | exact e_nc_lst | exact e_nc_bl | exact e_nc_non | exact e_nc_dic | exact e_nc_ins | exact e_right_int | exact e_right_str | exact e_right_tup | exact e_right_lst | exact e_right_non | exact e_right_dic | exact e_isL | exact e_isS | exact e_isT | exact (Nat.le_of_ble_eq_true rfl) | exact (isL_mid rfl) | exact (isL_mid (by assumption))) | decide +kernel | with_reducible exact e_right_ins (by decide +kernel) | with_reducible exact mulB_l (by decide +kernel) | with_reducible exact mulB_r (by decide +kernel) | omega) only [Bool.not_true, Bool.not_false, evAll, evTwo, evThree, evFour, evFive, e_isiX, e_isiO (t := ti_InvalidGrid) (c := 13) (b := false) rfl, e_isiO (t := ti_InvalidPoint) (c := 13) (b := false) rfl, e_isiO (t := ti_InvalidRule) (c := 13) (b := false) rfl, e_isiO (t := ti_InvalidScheme) (c := 13) (b := false) rfl, e_isiO (t := ti_InvalidStand) (c := 13) (b := false) rfl, e_isiO (t := ti_InvalidPaper) (c := 13) (b := false) rfl, e_isiO (t := ti_InvalidOperation) (c := 13) (b := false) rfl, e_isiO (t := ti_ParseError) (c := 13) (b := false) rfl, e_isiO (t := ti_UnknownLetter) (c := 13) (b := false) rfl, e_isiO (t := ti_UnknownAddress) (c := 13) (b := false) rfl, e_isiO (t := ti_InvalidNumber) (c := 13) (b := false) rfl, e_isiO (t := ti_NothingToUndo) (c := 13) (b := false) rfl, e_isiO (t := ti_TooMany) (c := 13) (b := true) rfl, e_isiO (t := ti_Refused) (c := 13) (b := false) rfl, e_isiO (t := ti_NoQuotient) (c := 13) (b := false) rfl, mulS_f, mulS_t]
  exact trim_str rfl (by decide +kernel)
theorem own_14 : m__law_own [.exc 14 f xs] s = .ok (.str "R") s := by
  unfold m__law_own
  simp -implicitDefEqProofs (disch := first | assumption | with_reducible (first | exact e_nc_int | exact e_nc_str | exact e_nc_tup | exact e_nc_lst | exact e_nc_bl | exact e_nc_non | exact e_nc_dic | exact e_nc_ins | exact e_right_int | exact e_right_str | exact e_right_tup | exact e_right_lst | exact e_right_non | exact e_right_dic | exact e_isL | exact e_isS | exact e_isT | exact (Nat.le_of_ble_eq_true rfl) | exact (isL_mid rfl) | exact (isL_mid (by assumption))) | decide +kernel | with_reducible exact e_right_ins (by decide +kernel) | with_reducible exact mulB_l (by decide +kernel) | with_reducible exact mulB_r (by decide +kernel) | omega) only [Bool.not_true, Bool.not_false, evAll, evTwo, evThree, evFour, evFive, e_isiX, e_isiO (t := ti_InvalidGrid) (c := 14) (b := false) rfl, e_isiO (t := ti_InvalidPoint) (c := 14) (b := false) rfl, e_isiO (t := ti_InvalidRule) (c := 14) (b := false) rfl, e_isiO (t := ti_InvalidScheme) (c := 14) (b := false) rfl, e_isiO (t := ti_InvalidStand) (c := 14) (b := false) rfl, e_isiO (t := ti_InvalidPaper) (c := 14) (b := false) rfl, e_isiO (t := ti_InvalidOperation) (c := 14) (b := false) rfl, e_isiO (t := ti_ParseError) (c := 14) (b := false) rfl, e_isiO (t := ti_UnknownLetter) (c := 14) (b := false) rfl, e_isiO (t := ti_UnknownAddress) (c := 14) (b := false) rfl, e_isiO (t := ti_InvalidNumber) (c := 14) (b := false) rfl, e_isiO (t := ti_NothingToUndo) (c := 14) (b := false) rfl, e_isiO (t := ti_TooMany) (c := 14) (b := false) rfl, e_isiO (t := ti_Refused) (c := 14) (b := true) rfl, e_isiO (t := ti_NoQuotient) (c := 14) (b := false) rfl, mulS_f, mulS_t]
  exact trim_str rfl (by decide +kernel)
theorem own_15 : m__law_own [.exc 15 f xs] s = .ok (.str "Q") s := by
  unfold m__law_own
  simp -implicitDefEqProofs (disch := first | assumption | with_reducible (first | exact e_nc_int | exact e_nc_str | exact e_nc_tup | exact e_nc_lst | exact e_nc_bl | exact e_nc_non | exact e_nc_dic | exact e_nc_ins | exact e_right_int | exact e_right_str | exact e_right_tup | exact e_right_lst | exact e_right_non | exact e_right_dic | exact e_isL | exact e_isS | exact e_isT | exact (Nat.le_of_ble_eq_true rfl) | exact (isL_mid rfl) | exact (isL_mid (by assumption))) | decide +kernel | with_reducible exact e_right_ins (by decide +kernel) | with_reducible exact mulB_l (by decide +kernel) | with_reducible exact mulB_r (by decide +kernel) | omega) only [Bool.not_true, Bool.not_false, evAll, evTwo, evThree, evFour, evFive, e_isiX, e_isiO (t := ti_InvalidGrid) (c := 15) (b := false) rfl, e_isiO (t := ti_InvalidPoint) (c := 15) (b := false) rfl, e_isiO (t := ti_InvalidRule) (c := 15) (b := false) rfl, e_isiO (t := ti_InvalidScheme) (c := 15) (b := false) rfl, e_isiO (t := ti_InvalidStand) (c := 15) (b := false) rfl, e_isiO (t := ti_InvalidPaper) (c := 15) (b := false) rfl, e_isiO (t := ti_InvalidOperation) (c := 15) (b := false) rfl, e_isiO (t := ti_ParseError) (c := 15) (b := false) rfl, e_isiO (t := ti_UnknownLetter) (c := 15) (b := false) rfl, e_isiO (t := ti_UnknownAddress) (c := 15) (b := false) rfl, e_isiO (t := ti_InvalidNumber) (c := 15) (b := false) rfl, e_isiO (t := ti_NothingToUndo) (c := 15) (b := false) rfl, e_isiO (t := ti_TooMany) (c := 15) (b := false) rfl, e_isiO (t := ti_Refused) (c := 15) (b := false) rfl, e_isiO (t := ti_NoQuotient) (c := 15) (b := true) rfl, mulS_f, mulS_t]
  exact trim_str rfl (by decide +kernel)
end

end Law

set_option Elab.async false
set_option maxRecDepth 100000
set_option maxHeartbeats 4000000
set_option linter.all false
namespace Law
open PySem PySem.Spec PyProof.Rows L2 Md Pl TxS
section
variable {s : Sto} {xs : List D} {f : Str}
theorem all_0 : m__law_all [.exc 0 f xs] s = .ok (.str " line value ") s := by
  unfold m__law_all
  simp -implicitDefEqProofs (disch := first | assumption | with_reducible (first | exact e_nc_int | exact e_nc_str | exact e_nc_tup | exact e_nc_lst | exact e_nc_bl | exact e_nc_non | exact e_nc_dic | exact e_nc_ins | exact e_right_int | exact e_right_str | exact e_right_tup | exact e_right_lst | exact e_right_non | exact e_right_dic | exact e_isL | exact e_isS | exact e_isT | exact (Nat.le_of_ble_eq_true rfl) | exact (isL_mid rfl) | exact (isL_mid (by assumption))) | decide +kernel | with_reducible exact e_right_ins (by decide +kernel) | with_reducible exact mulB_l (by decide +kernel) | with_reducible exact mulB_r (by decide +kernel) | omega) only [Bool.not_true, Bool.not_false, evAll, evTwo, evThree, evFour, evFive, own_0, e_isiX, e_isiO (t := ti_LineError) (c := 0) (b := true) rfl, e_isiO (t := ti_ValueError) (c := 0) (b := true) rfl, e_isiO (t := ti_KeyError) (c := 0) (b := false) rfl, e_isiO (t := ti_IndexError) (c := 0) (b := false) rfl, e_isiO (t := ti_LookupError) (c := 0) (b := false) rfl, e_isiO (t := ti_RuntimeError) (c := 0) (b := false) rfl, e_isiO (t := ti_OverflowError) (c := 0) (b := false) rfl, e_isiO (t := ti_ZeroDivisionError) (c := 0) (b := false) rfl, e_isiO (t := ti_ArithmeticError) (c := 0) (b := false) rfl, mulS_f, mulS_t]
  exact trim_str rfl (by decide +kernel)
theorem all_1 : m__law_all [.exc 1 f xs] s = .ok (.str "g line value ") s := by
  unfold m__law_all
  simp -implicitDefEqProofs (disch := first | assumption | with_reducible (first | exact e_nc_int | exact e_nc_str | exact e_nc_tup | exact e_nc_lst | exact e_nc_bl | exact e_nc_non | exact e_nc_dic | exact e_nc_ins | exact e_right_int | exact e_right_str | exact e_right_tup | exact e_right_lst | exact e_right_non | exact e_right_dic | exact e_isL | exact e_isS | exact e_isT | exact (Nat.le_of_ble_eq_true rfl) | exact (isL_mid rfl) | exact (isL_mid (by assumption))) | decide +kernel | with_reducible exact e_right_ins (by decide +kernel) | with_reducible exact mulB_l (by decide +kernel) | with_reducible exact mulB_r (by decide +kernel) | omega) only [Bool.not_true, Bool.not_false, evAll, evTwo, evThree, evFour, evFive, own_1, e_isiX, e_isiO (t := ti_LineError) (c := 1) (b := true) rfl, e_isiO (t := ti_ValueError) (c := 1) (b := true) rfl, e_isiO (t := ti_KeyError) (c := 1) (b := false) rfl, e_isiO (t := ti_IndexError) (c := 1) (b := false) rfl, e_isiO (t := ti_LookupError) (c := 1) (b := false) rfl, e_isiO (t := ti_RuntimeError) (c := 1) (b := false) rfl, e_isiO (t := ti_OverflowError) (c := 1) (b := false) rfl, e_isiO (t := ti_ZeroDivisionError) (c := 1) (b := false) rfl, e_isiO (t := ti_ArithmeticError) (c := 1) (b := false) rfl, mulS_f, mulS_t]
  exact trim_str rfl (by decide +kernel)
theorem all_2 : m__law_all [.exc 2 f xs] s = .ok (.str "p line value ") s := by
  unfold m__law_all
  simp -implicitDefEqProofs (disch := first | assumption | with_reducible (first | exact e_nc_int | exact e_nc_str | exact e_nc_tup | exact e_nc_lst | exact e_nc_bl | exact e_nc_non | exact e_nc_dic | exact e_nc_ins | exact e_right_int | exact e_right_str | exact e_right_tup | exact e_right_lst | exact e_right_non | exact e_right_dic | exact e_isL | exact e_isS | exact e_isT | exact (Nat.le_of_ble_eq_true rfl) | exact (isL_mid rfl) | exact (isL_mid (by assumption))) | decide +kernel | with_reducible exact e_right_ins (by decide +kernel) | with_reducible exact mulB_l (by decide +kernel) | with_reducible exact mulB_r (by decide +kernel) | omega) only [Bool.not_true, Bool.not_false, evAll, evTwo, evThree, evFour, evFive, own_2, e_isiX, e_isiO (t := ti_LineError) (c := 2) (b := true) rfl, e_isiO (t := ti_ValueError) (c := 2) (b := true) rfl, e_isiO (t := ti_KeyError) (c := 2) (b := false) rfl, e_isiO (t := ti_IndexError) (c := 2) (b := false) rfl, e_isiO (t := ti_LookupError) (c := 2) (b := false) rfl, e_isiO (t := ti_RuntimeError) (c := 2) (b := false) rfl, e_isiO (t := ti_OverflowError) (c := 2) (b := false) rfl, e_isiO (t := ti_ZeroDivisionError) (c := 2) (b := false) rfl, e_isiO (t := ti_ArithmeticError) (c := 2) (b := false) rfl, mulS_f, mulS_t]
  exact trim_str rfl (by decide +kernel)
theorem all_3 : m__law_all [.exc 3 f xs] s = .ok (.str "r line value ") s := by
  unfold m__law_all
  simp -implicitDefEqProofs (disch := first | assumption | with_reducible (first | exact e_nc_int | exact e_nc_str | exact e_nc_tup | exact e_nc_lst | exact e_nc_bl | exact e_nc_non | exact e_nc_dic | exact e_nc_ins | exact e_right_int | exact e_right_str | exact e_right_tup | exact e_right_lst | exact e_right_non | exact e_right_dic | exact e_isL | exact e_isS | exact e_isT | exact (Nat.le_of_ble_eq_true rfl) | exact (isL_mid rfl) | exact (isL_mid (by assumption))) | decide +kernel | with_reducible exact e_right_ins (by decide +kernel) | with_reducible exact mulB_l (by decide +kernel) | with_reducible exact mulB_r (by decide +kernel) | omega) only [Bool.not_true, Bool.not_false, evAll, evTwo, evThree, evFour, evFive, own_3, e_isiX, e_isiO (t := ti_LineError) (c := 3) (b := true) rfl, e_isiO (t := ti_ValueError) (c := 3) (b := true) rfl, e_isiO (t := ti_KeyError) (c := 3) (b := false) rfl, e_isiO (t := ti_IndexError) (c := 3) (b := false) rfl, e_isiO (t := ti_LookupError) (c := 3) (b := false) rfl, e_isiO (t := ti_RuntimeError) (c := 3) (b := false) rfl, e_isiO (t := ti_OverflowError) (c := 3) (b := false) rfl, e_isiO (t := ti_ZeroDivisionError) (c := 3) (b := false) rfl, e_isiO (t := ti_ArithmeticError) (c := 3) (b := false) rfl, mulS_f, mulS_t]
  exact trim_str rfl (by decide +kernel)
theorem all_4 : m__law_all [.exc 4 f xs] s = .ok (.str "s line value ") s := by
  unfold m__law_all
  simp -implicitDefEqProofs (disch := first | assumption | with_reducible (first | exact e_nc_int | exact e_nc_str | exact e_nc_tup | exact e_nc_lst | exact e_nc_bl | exact e_nc_non | exact e_nc_dic | exact e_nc_ins | exact e_right_int | exact e_right_str | exact e_right_tup | exact e_right_lst | exact e_right_non | exact e_right_dic | exact e_isL | exact e_isS | exact e_isT | exact (Nat.le_of_ble_eq_true rfl) | exact (isL_mid rfl) | exact (isL_mid (by assumption))) | decide +kernel | with_reducible exact e_right_ins (by decide +kernel) | with_reducible exact mulB_l (by decide +kernel) | with_reducible exact mulB_r (by decide +kernel) | omega) only [Bool.not_true, Bool.not_false, evAll, evTwo, evThree, evFour, evFive, own_4, e_isiX, e_isiO (t := ti_LineError) (c := 4) (b := true) rfl, e_isiO (t := ti_ValueError) (c := 4) (b := true) rfl, e_isiO (t := ti_KeyError) (c := 4) (b := false) rfl, e_isiO (t := ti_IndexError) (c := 4) (b := false) rfl, e_isiO (t := ti_LookupError) (c := 4) (b := false) rfl, e_isiO (t := ti_RuntimeError) (c := 4) (b := false) rfl, e_isiO (t := ti_OverflowError) (c := 4) (b := false) rfl, e_isiO (t := ti_ZeroDivisionError) (c := 4) (b := false) rfl, e_isiO (t := ti_ArithmeticError) (c := 4) (b := false) rfl, mulS_f, mulS_t]
  exact trim_str rfl (by decide +kernel)
theorem all_5 : m__law_all [.exc 5 f xs] s = .ok (.str "d line value ") s := by
  unfold m__law_all
  simp -implicitDefEqProofs (disch := first | assumption | with_reducible (first | exact e_nc_int | exact e_nc_str | exact e_nc_tup | exact e_nc_lst | exact e_nc_bl | exact e_nc_non | exact e_nc_dic | exact e_nc_ins | exact e_right_int | exact e_right_str | exact e_right_tup | exact e_right_lst | exact e_right_non | exact e_right_dic | exact e_isL | exact e_isS | exact e_isT | exact (Nat.le_of_ble_eq_true rfl) | exact (isL_mid rfl) | exact (isL_mid (by assumption))) | decide +kernel | with_reducible exact e_right_ins (by decide +kernel) | with_reducible exact mulB_l (by decide +kernel) | with_reducible exact mulB_r (by decide +kernel) | omega) only [Bool.not_true, Bool.not_false, evAll, evTwo, evThree, evFour, evFive, own_5, e_isiX, e_isiO (t := ti_LineError) (c := 5) (b := true) rfl, e_isiO (t := ti_ValueError) (c := 5) (b := true) rfl, e_isiO (t := ti_KeyError) (c := 5) (b := false) rfl, e_isiO (t := ti_IndexError) (c := 5) (b := false) rfl, e_isiO (t := ti_LookupError) (c := 5) (b := false) rfl, e_isiO (t := ti_RuntimeError) (c := 5) (b := false) rfl, e_isiO (t := ti_OverflowError) (c := 5) (b := false) rfl, e_isiO (t := ti_ZeroDivisionError) (c := 5) (b := false) rfl, e_isiO (t := ti_ArithmeticError) (c := 5) (b := false) rfl, mulS_f, mulS_t]
  exact trim_str rfl (by decide +kernel)
theorem all_6 : m__law_all [.exc 6 f xs] s = .ok (.str "q line value ") s := by
  unfold m__law_all
  simp -implicitDefEqProofs (disch := first | assumption | with_reducible (first | exact e_nc_int | exact e_nc_str | exact e_nc_tup | exact e_nc_lst | exact e_nc_bl | exact e_nc_non | exact e_nc_dic | exact e_nc_ins | exact e_right_int | exact e_right_str | exact e_right_tup | exact e_right_lst | exact e_right_non | exact e_right_dic | exact e_isL | exact e_isS | exact e_isT | exact (Nat.le_of_ble_eq_true rfl) | exact (isL_mid rfl) | exact (isL_mid (by assumption))) | decide +kernel | with_reducible exact e_right_ins (by decide +kernel) | with_reducible exact mulB_l (by decide +kernel) | with_reducible exact mulB_r (by decide +kernel) | omega) only [Bool.not_true, Bool.not_false, evAll, evTwo, evThree, evFour, evFive, own_6, e_isiX, e_isiO (t := ti_LineError) (c := 6) (b := true) rfl, e_isiO (t := ti_ValueError) (c := 6) (b := true) rfl, e_isiO (t := ti_KeyError) (c := 6) (b := false) rfl, e_isiO (t := ti_IndexError) (c := 6) (b := false) rfl, e_isiO (t := ti_LookupError) (c := 6) (b := false) rfl, e_isiO (t := ti_RuntimeError) (c := 6) (b := false) rfl, e_isiO (t := ti_OverflowError) (c := 6) (b := false) rfl, e_isiO (t := ti_ZeroDivisionError) (c := 6) (b := false) rfl, e_isiO (t := ti_ArithmeticError) (c := 6) (b := false) rfl, mulS_f, mulS_t]
  exact trim_str rfl (by decide +kernel)
theorem all_7 : m__law_all [.exc 7 f xs] s = .ok (.str "o line value ") s := by
  unfold m__law_all
  simp -implicitDefEqProofs (disch := first | assumption | with_reducible (first | exact e_nc_int | exact e_nc_str | exact e_nc_tup | exact e_nc_lst | exact e_nc_bl | exact e_nc_non | exact e_nc_dic | exact e_nc_ins | exact e_right_int | exact e_right_str | exact e_right_tup | exact e_right_lst | exact e_right_non | exact e_right_dic | exact e_isL | exact e_isS | exact e_isT | exact (Nat.le_of_ble_eq_true rfl) | exact (isL_mid rfl) | exact (isL_mid (by assumption))) | decide +kernel | with_reducible exact e_right_ins (by decide +kernel) | with_reducible exact mulB_l (by decide +kernel) | with_reducible exact mulB_r (by decide +kernel) | omega) only [Bool.not_true, Bool.not_false, evAll, evTwo, evThree, evFour, evFive, own_7, e_isiX, e_isiO (t := ti_LineError) (c := 7) (b := true) rfl, e_isiO (t := ti_ValueError) (c := 7) (b := true) rfl, e_isiO (t := ti_KeyError) (c := 7) (b := false) rfl, e_isiO (t := ti_IndexError) (c := 7) (b := false) rfl, e_isiO (t := ti_LookupError) (c := 7) (b := false) rfl, e_isiO (t := ti_RuntimeError) (c := 7) (b := false) rfl, e_isiO (t := ti_OverflowError) (c := 7) (b := false) rfl, e_isiO (t := ti_ZeroDivisionError) (c := 7) (b := false) rfl, e_isiO (t := ti_ArithmeticError) (c := 7) (b := false) rfl, mulS_f, mulS_t]
  exact trim_str rfl (by decide +kernel)
theorem all_8 : m__law_all [.exc 8 f xs] s = .ok (.str "x line value ") s := by
  unfold m__law_all
  simp -implicitDefEqProofs (disch := first | assumption | with_reducible (first | exact e_nc_int | exact e_nc_str | exact e_nc_tup | exact e_nc_lst | exact e_nc_bl | exact e_nc_non | exact e_nc_dic | exact e_nc_ins | exact e_right_int | exact e_right_str | exact e_right_tup | exact e_right_lst | exact e_right_non | exact e_right_dic | exact e_isL | exact e_isS | exact e_isT | exact (Nat.le_of_ble_eq_true rfl) | exact (isL_mid rfl) | exact (isL_mid (by assumption))) | decide +kernel | with_reducible exact e_right_ins (by decide +kernel) | with_reducible exact mulB_l (by decide +kernel) | with_reducible exact mulB_r (by decide +kernel) | omega) only [Bool.not_true, Bool.not_false, evAll, evTwo, evThree, evFour, evFive, own_8, e_isiX, e_isiO (t := ti_LineError) (c := 8) (b := true) rfl, e_isiO (t := ti_ValueError) (c := 8) (b := true) rfl, e_isiO (t := ti_KeyError) (c := 8) (b := false) rfl, e_isiO (t := ti_IndexError) (c := 8) (b := false) rfl, e_isiO (t := ti_LookupError) (c := 8) (b := false) rfl, e_isiO (t := ti_RuntimeError) (c := 8) (b := false) rfl, e_isiO (t := ti_OverflowError) (c := 8) (b := false) rfl, e_isiO (t := ti_ZeroDivisionError) (c := 8) (b := false) rfl, e_isiO (t := ti_ArithmeticError) (c := 8) (b := false) rfl, mulS_f, mulS_t]
  exact trim_str rfl (by decide +kernel)
theorem all_9 : m__law_all [.exc 9 f xs] s = .ok (.str "U key lookup ") s := by
  unfold m__law_all
  simp -implicitDefEqProofs (disch := first | assumption | with_reducible (first | exact e_nc_int | exact e_nc_str | exact e_nc_tup | exact e_nc_lst | exact e_nc_bl | exact e_nc_non | exact e_nc_dic | exact e_nc_ins | exact e_right_int | exact e_right_str | exact e_right_tup | exact e_right_lst | exact e_right_non | exact e_right_dic | exact e_isL | exact e_isS | exact e_isT | exact (Nat.le_of_ble_eq_true rfl) | exact (isL_mid rfl) | exact (isL_mid (by assumption))) | decide +kernel | with_reducible exact e_right_ins (by decide +kernel) | with_reducible exact mulB_l (by decide +kernel) | with_reducible exact mulB_r (by decide +kernel) | omega) only [Bool.not_true, Bool.not_false, evAll, evTwo, evThree, evFour, evFive, own_9, e_isiX, e_isiO (t := ti_LineError) (c := 9) (b := false) rfl, e_isiO (t := ti_ValueError) (c := 9) (b := false) rfl, e_isiO (t := ti_KeyError) (c := 9) (b := true) rfl, e_isiO (t := ti_IndexError) (c := 9) (b := false) rfl, e_isiO (t := ti_LookupError) (c := 9) (b := true) rfl, e_isiO (t := ti_RuntimeError) (c := 9) (b := false) rfl, e_isiO (t := ti_OverflowError) (c := 9) (b := false) rfl, e_isiO (t := ti_ZeroDivisionError) (c := 9) (b := false) rfl, e_isiO (t := ti_ArithmeticError) (c := 9) (b := false) rfl, mulS_f, mulS_t]
  exact trim_str rfl (by decide +kernel)
theorem all_10 : m__law_all [.exc 10 f xs] s = .ok (.str "A lookup ") s := by
  unfold m__law_all
  simp -implicitDefEqProofs (disch := first | assumption | with_reducible (first | exact e_nc_int | exact e_nc_str | exact e_nc_tup | exact e_nc_lst | exact e_nc_bl | exact e_nc_non | exact e_nc_dic | exact e_nc_ins | exact e_right_int | exact e_right_str | exact e_right_tup | exact e_right_lst | exact e_right_non | exact e_right_dic | exact e_isL | exact e_isS | exact e_isT | exact (Nat.le_of_ble_eq_true rfl) | exact (isL_mid rfl) | exact (isL_mid (by assumption))) | decide +kernel | with_reducible exact e_right_ins (by decide +kernel) | with_reducible exact mulB_l (by decide +kernel) | with_reducible exact mulB_r (by decide +kernel) | omega) only [Bool.not_true, Bool.not_false, evAll, evTwo, evThree, evFour, evFive, own_10, e_isiX, e_isiO (t := ti_LineError) (c := 10) (b := false) rfl, e_isiO (t := ti_ValueError) (c := 10) (b := false) rfl, e_isiO (t := ti_KeyError) (c := 10) (b := false) rfl, e_isiO (t := ti_IndexError) (c := 10) (b := false) rfl, e_isiO (t := ti_LookupError) (c := 10) (b := true) rfl, e_isiO (t := ti_RuntimeError) (c := 10) (b := false) rfl, e_isiO (t := ti_OverflowError) (c := 10) (b := false) rfl, e_isiO (t := ti_ZeroDivisionError) (c := 10) (b := false) rfl, e_isiO (t := ti_ArithmeticError) (c := 10) (b := false) rfl, mulS_f, mulS_t]
  exact trim_str rfl (by decide +kernel)
theorem all_11 : m__law_all [.exc 11 f xs] s = .ok (.str "N index lookup ") s := by
  unfold m__law_all
  simp -implicitDefEqProofs (disch := first | assumption | with_reducible (first | exact e_nc_int | exact e_nc_str | exact e_nc_tup | exact e_nc_lst | exact e_nc_bl | exact e_nc_non | exact e_nc_dic | exact e_nc_ins | exact e_right_int | exact e_right_str | exact e_right_tup | exact e_right_lst | exact e_right_non | exact e_right_dic | exact e_isL | exact e_isS | exact e_isT | exact (Nat.le_of_ble_eq_true rfl) | exact (isL_mid rfl) | exact (isL_mid (by assumption))) | decide +kernel | with_reducible exact e_right_ins (by decide +kernel) | with_reducible exact mulB_l (by decide +kernel) | with_reducible exact mulB_r (by decide +kernel) | omega) only [Bool.not_true, Bool.not_false, evAll, evTwo, evThree, evFour, evFive, own_11, e_isiX, e_isiO (t := ti_LineError) (c := 11) (b := false) rfl, e_isiO (t := ti_ValueError) (c := 11) (b := false) rfl, e_isiO (t := ti_KeyError) (c := 11) (b := false) rfl, e_isiO (t := ti_IndexError) (c := 11) (b := true) rfl, e_isiO (t := ti_LookupError) (c := 11) (b := true) rfl, e_isiO (t := ti_RuntimeError) (c := 11) (b := false) rfl, e_isiO (t := ti_OverflowError) (c := 11) (b := false) rfl, e_isiO (t := ti_ZeroDivisionError) (c := 11) (b := false) rfl, e_isiO (t := ti_ArithmeticError) (c := 11) (b := false) rfl, mulS_f, mulS_t]
  exact trim_str rfl (by decide +kernel)
theorem all_12 : m__law_all [.exc 12 f xs] s = .ok (.str "Z runtime ") s := by
  unfold m__law_all
  simp -implicitDefEqProofs (disch := first | assumption | with_reducible (first | exact e_nc_int | exact e_nc_str | exact e_nc_tup | exact e_nc_lst | exact e_nc_bl | exact e_nc_non | exact e_nc_dic | exact e_nc_ins | exact e_right_int | exact e_right_str | exact e_right_tup | exact e_right_lst | exact e_right_non | exact e_right_dic | exact e_isL | exact e_isS | exact e_isT | exact (Nat.le_of_ble_eq_true rfl) | exact (isL_mid rfl) | exact (isL_mid (by assumption))) | decide +kernel | with_reducible exact e_right_ins (by decide +kernel) | with_reducible exact mulB_l (by decide +kernel) | with_reducible exact mulB_r (by decide +kernel) | omega) only [Bool.not_true, Bool.not_false, evAll, evTwo, evThree, evFour, evFive, own_12, e_isiX, e_isiO (t := ti_LineError) (c := 12) (b := false) rfl, e_isiO (t := ti_ValueError) (c := 12) (b := false) rfl, e_isiO (t := ti_KeyError) (c := 12) (b := false) rfl, e_isiO (t := ti_IndexError) (c := 12) (b := false) rfl, e_isiO (t := ti_LookupError) (c := 12) (b := false) rfl, e_isiO (t := ti_RuntimeError) (c := 12) (b := true) rfl, e_isiO (t := ti_OverflowError) (c := 12) (b := false) rfl, e_isiO (t := ti_ZeroDivisionError) (c := 12) (b := false) rfl, e_isiO (t := ti_ArithmeticError) (c := 12) (b := false) rfl, mulS_f, mulS_t]
  exact trim_str rfl (by decide +kernel)
theorem all_13 : m__law_all [.exc 13 f xs] s = .ok (.str "M overflow arithmetic ") s := by
  unfold m__law_all
  simp -implicitDefEqProofs (disch := first | assumption | with_reducible (first | exact e_nc_int | exact e_nc_str | exact e_nc_tup | exact e_nc_lst | exact e_nc_bl | exact e_nc_non | exact e_nc_dic | exact e_nc_ins | exact e_right_int | exact e_right_str | exact e_right_tup | exact e_right_lst | exact e_right_non | exact e_right_dic | exact e_isL | exact e_isS | exact e_isT | exact (Nat.le_of_ble_eq_true rfl) | exact (isL_mid rfl) | exact (isL_mid (by assumption))) | decide +kernel | with_reducible exact e_right_ins (by decide +kernel) | with_reducible exact mulB_l (by decide +kernel) | with_reducible exact mulB_r (by decide +kernel) | omega) only [Bool.not_true, Bool.not_false, evAll, evTwo, evThree, evFour, evFive, own_13, e_isiX, e_isiO (t := ti_LineError) (c := 13) (b := false) rfl, e_isiO (t := ti_ValueError) (c := 13) (b := false) rfl, e_isiO (t := ti_KeyError) (c := 13) (b := false) rfl, e_isiO (t := ti_IndexError) (c := 13) (b := false) rfl, e_isiO (t := ti_LookupError) (c := 13) (b := false) rfl, e_isiO (t := ti_RuntimeError) (c := 13) (b := false) rfl, e_isiO (t := ti_OverflowError) (c := 13) (b := true) rfl, e_isiO (t := ti_ZeroDivisionError) (c := 13) (b := false) rfl, e_isiO (t := ti_ArithmeticError) (c := 13) (b := true) rfl, mulS_f, mulS_t]
  exact trim_str rfl (by decide +kernel)
theorem all_14 : m__law_all [.exc 14 f xs] s = .ok (.str "R arithmetic ") s := by
  unfold m__law_all
  simp -implicitDefEqProofs (disch := first | assumption | with_reducible (first | exact e_nc_int | exact e_nc_str | exact e_nc_tup | exact e_nc_lst | exact e_nc_bl | exact e_nc_non | exact e_nc_dic | exact e_nc_ins | exact e_right_int | exact e_right_str | exact e_right_tup | exact e_right_lst | exact e_right_non | exact e_right_dic | exact e_isL | exact e_isS | exact e_isT | exact (Nat.le_of_ble_eq_true rfl) | exact (isL_mid rfl) | exact (isL_mid (by assumption))) | decide +kernel | with_reducible exact e_right_ins (by decide +kernel) | with_reducible exact mulB_l (by decide +kernel) | with_reducible exact mulB_r (by decide +kernel) | omega) only [Bool.not_true, Bool.not_false, evAll, evTwo, evThree, evFour, evFive, own_14, e_isiX, e_isiO (t := ti_LineError) (c := 14) (b := false) rfl, e_isiO (t := ti_ValueError) (c := 14) (b := false) rfl, e_isiO (t := ti_KeyError) (c := 14) (b := false) rfl, e_isiO (t := ti_IndexError) (c := 14) (b := false) rfl, e_isiO (t := ti_LookupError) (c := 14) (b := false) rfl, e_isiO (t := ti_RuntimeError) (c := 14) (b := false) rfl, e_isiO (t := ti_OverflowError) (c := 14) (b := false) rfl, e_isiO (t := ti_ZeroDivisionError) (c := 14) (b := false) rfl, e_isiO (t := ti_ArithmeticError) (c := 14) (b := true) rfl, mulS_f, mulS_t]
  exact trim_str rfl (by decide +kernel)
theorem all_15 : m__law_all [.exc 15 f xs] s = .ok (.str "Q zero arithmetic ") s := by
  unfold m__law_all
  simp -implicitDefEqProofs (disch := first | assumption | with_reducible (first | exact e_nc_int | exact e_nc_str | exact e_nc_tup | exact e_nc_lst | exact e_nc_bl | exact e_nc_non | exact e_nc_dic | exact e_nc_ins | exact e_right_int | exact e_right_str | exact e_right_tup | exact e_right_lst | exact e_right_non | exact e_right_dic | exact e_isL | exact e_isS | exact e_isT | exact (Nat.le_of_ble_eq_true rfl) | exact (isL_mid rfl) | exact (isL_mid (by assumption))) | decide +kernel | with_reducible exact e_right_ins (by decide +kernel) | with_reducible exact mulB_l (by decide +kernel) | with_reducible exact mulB_r (by decide +kernel) | omega) only [Bool.not_true, Bool.not_false, evAll, evTwo, evThree, evFour, evFive, own_15, e_isiX, e_isiO (t := ti_LineError) (c := 15) (b := false) rfl, e_isiO (t := ti_ValueError) (c := 15) (b := false) rfl, e_isiO (t := ti_KeyError) (c := 15) (b := false) rfl, e_isiO (t := ti_IndexError) (c := 15) (b := false) rfl, e_isiO (t := ti_LookupError) (c := 15) (b := false) rfl, e_isiO (t := ti_RuntimeError) (c := 15) (b := false) rfl, e_isiO (t := ti_OverflowError) (c := 15) (b := false) rfl, e_isiO (t := ti_ZeroDivisionError) (c := 15) (b := true) rfl, e_isiO (t := ti_ArithmeticError) (c := 15) (b := true) rfl, mulS_f, mulS_t]
  exact trim_str rfl (by decide +kernel)
end

end Law

set_option Elab.async false
set_option maxRecDepth 100000
set_option maxHeartbeats 4000000
set_option linter.all false
namespace Law
open PySem PySem.Spec PyProof.Rows L2 Md Pl TxS
section
variable {s : Sto} {v i : D}
theorem msgs_ok : m__law_messages [] s = .ok (.lst [.str "g line value ", .str "p line value ", .str "r line value ", .str "s line value ", .str "d line value ", .str "q line value ", .str "o line value ", .str " line value "]) s := by
  unfold m__law_messages
  have l3 : ∀ (a b c d e f : D) (s : Sto), addD (.lst [a, b, c]) (.lst [d, e, f]) s = .ok (.lst [a, b, c, d, e, f]) s := fun _ _ _ _ _ _ _ => rfl
  have l6 : ∀ (a b c d e f g h : D) (s : Sto), addD (.lst [a, b, c, d, e, f]) (.lst [g, h]) s = .ok (.lst [a, b, c, d, e, f, g, h]) s := fun _ _ _ _ _ _ _ _ _ => rfl
  simp -implicitDefEqProofs (disch := first | assumption | with_reducible (first | exact e_nc_int | exact e_nc_str | exact e_nc_tup | exact e_nc_lst | exact e_nc_bl | exact e_nc_non | exact e_nc_dic | exact e_nc_ins | exact e_right_int | exact e_right_str | exact e_right_tup | exact e_right_lst | exact e_right_non | exact e_right_dic | exact e_isL | exact e_isS | exact e_isT | exact (Nat.le_of_ble_eq_true rfl) | exact (isL_mid rfl) | exact (isL_mid (by assumption))) | decide +kernel | with_reducible exact e_right_ins (by decide +kernel) | with_reducible exact mulB_l (by decide +kernel) | with_reducible exact mulB_r (by decide +kernel) | omega) only [Bool.not_true, Bool.not_false, evAll, evTwo, evThree, evFour, evFive, e_mk0, all_0, all_1, all_2, all_3, all_4, all_5, all_6, all_7, l3, l6]
theorem due_ok : m__law_due_messages [] s = .ok (.lst [.str "g line value ", .str "p line value ", .str "r line value ", .str "s line value ", .str "d line value ", .str "q line value ", .str "o line value ", .str " line value "]) s := by
  unfold m__law_due_messages
  exact body_k rfl (by kernel_rfl)
def rowsK (v i : D) : List D := [.tup [.str "x line value ", i], .tup [.str "U key lookup ", v], .tup [.str "A lookup ", v], .tup [.str "N index lookup ", v], .tup [.str "Z runtime ", v], .tup [.str "M overflow arithmetic ", v], .tup [.str "R arithmetic ", v], .tup [.str "Q zero arithmetic ", v]]
theorem kept_ok (hv : nc v = true) (hi : nc i = true) : m__law_kept [v, i] s = .ok (.lst (rowsK v i)) s := by
  have p2 : ∀ {α : Type} (x y : D) (z w : α), (if [x, y].length = 2 then z else w) = z := fun _ _ _ _ => rfl
  have p3 : ∀ {α : Type} (x y t : D) (z w : α), (if [x, y, t].length = 3 then z else w) = z := fun _ _ _ _ _ => rfl
  have q1 : ∀ (a : Str) (d : D), nc d = true → ncA [.str a, d] = true := fun a d h => by unfold ncA; rw [List.all_cons, List.all_cons, h]; rfl
  have l3 : ∀ (a b c d e f : D) (s : Sto), addD (.lst [a, b, c]) (.lst [d, e, f]) s = .ok (.lst [a, b, c, d, e, f]) s := fun _ _ _ _ _ _ _ => rfl
  have l6 : ∀ (a b c d e f g h : D) (s : Sto), addD (.lst [a, b, c, d, e, f]) (.lst [g, h]) s = .ok (.lst [a, b, c, d, e, f, g, h]) s := fun _ _ _ _ _ _ _ _ _ => rfl
  unfold m__law_kept
  simp -implicitDefEqProofs (disch := first | assumption | with_reducible (first | exact e_nc_int | exact e_nc_str | exact e_nc_tup | exact e_nc_lst | exact e_nc_bl | exact e_nc_non | exact e_nc_dic | exact e_nc_ins | exact e_right_int | exact e_right_str | exact e_right_tup | exact e_right_lst | exact e_right_non | exact e_right_dic | exact e_isL | exact e_isS | exact e_isT | exact (Nat.le_of_ble_eq_true rfl) | exact (isL_mid rfl) | exact (isL_mid (by assumption))) | decide +kernel | with_reducible exact e_right_ins (by decide +kernel) | with_reducible exact mulB_l (by decide +kernel) | with_reducible exact mulB_r (by decide +kernel) | omega) only [Bool.not_true, Bool.not_false, evAll, evTwo, evThree, evFour, evFive, e_mk1, e_mkO hv, e_mkO hi, e_fxD, e_fxO (cs := [8]) (c := 8) (by decide), e_fxO (cs := [9]) (c := 9) (by decide), e_fxO (cs := [10]) (c := 10) (by decide), e_fxO (cs := [11]) (c := 11) (by decide), e_fxO (cs := [12]) (c := 12) (by decide), e_fxO (cs := [13]) (c := 13) (by decide), e_fxO (cs := [14]) (c := 14) (by decide), e_fxO (cs := [15]) (c := 15) (by decide), all_8, all_9, all_10, all_11, all_12, all_13, all_14, all_15, p2, p3, hv, hi, nc_exc, l3, l6]
  rfl
theorem try_err {cl : List Clr} {φ : FS} {ds ds1 : DSt} {s s1 s2 : Sto} {c : Nat} {p : Option (Str × D)} {d : D} (h : φ ds s = .err c p ds1 s1) (e : pickR cl c p s1 = .ok d s2) : tryR cl φ ds s = .rt d s2 := by
  unfold tryR
  rw [h]
  simp only [e]
theorem caught_0 : m__law_caught [v, .int 0] s = .ok (.str "base r") s := by
  unfold m__law_caught
  have h : (seqS (ifS (testD (op2 eqD (varD 1) (cD (D.int 0)))) (errS 3) nilS) (seqS (ifS (testD (op2 eqD (varD 1) (cD (D.int 1)))) (errV 15 "divisor" (varD 0)) nilS) (errV 10 "lost" (varD 0)))) [some v, some (D.int 0), none] s = .err 3 none [some v, some (D.int 0), none] s := by
    simp -implicitDefEqProofs (disch := first | assumption | with_reducible (first | exact e_nc_int | exact e_nc_str | exact e_nc_tup | exact e_nc_lst | exact e_nc_bl | exact e_nc_non | exact e_nc_dic | exact e_nc_ins | exact e_right_int | exact e_right_str | exact e_right_tup | exact e_right_lst | exact e_right_non | exact e_right_dic | exact e_isL | exact e_isS | exact e_isT | exact (Nat.le_of_ble_eq_true rfl) | exact (isL_mid rfl) | exact (isL_mid (by assumption))) | decide +kernel | with_reducible exact e_right_ins (by decide +kernel) | with_reducible exact mulB_l (by decide +kernel) | with_reducible exact mulB_r (by decide +kernel) | omega) only [Bool.not_true, Bool.not_false, evAll, evTwo, evThree, evFour, evFive]
    rfl
  have o : mS__law_own [.exc 3 "" []] s = .ok (.str "r") s := by
    show nb (m__law_own [.exc 3 "" []] s) = _
    rw [own_3]
    rfl
  have e : pickR cl__law_caught 3 none s = .ok (.str "base r") s := by
    show nb (ownW "base " mS__law_own (.exc 3 "" []) s) = _
    unfold ownW
    rw [o]
    rfl
  simp -implicitDefEqProofs (disch := first | assumption | with_reducible (first | exact e_nc_int | exact e_nc_str | exact e_nc_tup | exact e_nc_lst | exact e_nc_bl | exact e_nc_non | exact e_nc_dic | exact e_nc_ins | exact e_right_int | exact e_right_str | exact e_right_tup | exact e_right_lst | exact e_right_non | exact e_right_dic | exact e_isL | exact e_isS | exact e_isT | exact (Nat.le_of_ble_eq_true rfl) | exact (isL_mid rfl) | exact (isL_mid (by assumption))) | decide +kernel | with_reducible exact e_right_ins (by decide +kernel) | with_reducible exact mulB_l (by decide +kernel) | with_reducible exact mulB_r (by decide +kernel) | omega) only [Bool.not_true, Bool.not_false, evAll, evTwo, evThree, evFour, evFive, try_err h e]
theorem caught_1 {t : Str} (hr : reprV [v] s = .ok (.str t) s) (hl : t.length ≤ 100000) : m__law_caught [v, .int 1] s = .ok (.str (Str.append "quotient " t)) s := by
  unfold m__law_caught
  have h : (seqS (ifS (testD (op2 eqD (varD 1) (cD (D.int 0)))) (errS 3) nilS) (seqS (ifS (testD (op2 eqD (varD 1) (cD (D.int 1)))) (errV 15 "divisor" (varD 0)) nilS) (errV 10 "lost" (varD 0)))) [some v, some (D.int 1), none] s = .err 15 (some ("divisor", v)) [some v, some (D.int 1), none] s := by
    simp -implicitDefEqProofs (disch := first | assumption | with_reducible (first | exact e_nc_int | exact e_nc_str | exact e_nc_tup | exact e_nc_lst | exact e_nc_bl | exact e_nc_non | exact e_nc_dic | exact e_nc_ins | exact e_right_int | exact e_right_str | exact e_right_tup | exact e_right_lst | exact e_right_non | exact e_right_dic | exact e_isL | exact e_isS | exact e_isT | exact (Nat.le_of_ble_eq_true rfl) | exact (isL_mid rfl) | exact (isL_mid (by assumption))) | decide +kernel | with_reducible exact e_right_ins (by decide +kernel) | with_reducible exact mulB_l (by decide +kernel) | with_reducible exact mulB_r (by decide +kernel) | omega) only [Bool.not_true, Bool.not_false, evAll, evTwo, evThree, evFour, evFive]
    rfl
  have e : pickR cl__law_caught 15 (some ("divisor", v)) s = .ok (.str (Str.append "quotient " t)) s := by
    show (Out.ok v s).bind (fun d s => (reprV [d] s).bind fun t s => addD (.str "quotient ") t s) = _
    unfold Out.bind
    dsimp only
    rw [hr]
    exact if_pos (Nat.le_trans (Nat.add_le_add_left hl _) (by decide +kernel))
  simp -implicitDefEqProofs (disch := first | assumption | with_reducible (first | exact e_nc_int | exact e_nc_str | exact e_nc_tup | exact e_nc_lst | exact e_nc_bl | exact e_nc_non | exact e_nc_dic | exact e_nc_ins | exact e_right_int | exact e_right_str | exact e_right_tup | exact e_right_lst | exact e_right_non | exact e_right_dic | exact e_isL | exact e_isS | exact e_isT | exact (Nat.le_of_ble_eq_true rfl) | exact (isL_mid rfl) | exact (isL_mid (by assumption))) | decide +kernel | with_reducible exact e_right_ins (by decide +kernel) | with_reducible exact mulB_l (by decide +kernel) | with_reducible exact mulB_r (by decide +kernel) | omega) only [Bool.not_true, Bool.not_false, evAll, evTwo, evThree, evFour, evFive, try_err h e]
theorem caught_2 {t : Str} (hr : reprV [v] s = .ok (.str t) s) (hl : t.length ≤ 100000) : m__law_caught [v, .int 2] s = .ok (.str (Str.append "lost " t)) s := by
  unfold m__law_caught
  have h : (seqS (ifS (testD (op2 eqD (varD 1) (cD (D.int 0)))) (errS 3) nilS) (seqS (ifS (testD (op2 eqD (varD 1) (cD (D.int 1)))) (errV 15 "divisor" (varD 0)) nilS) (errV 10 "lost" (varD 0)))) [some v, some (D.int 2), none] s = .err 10 (some ("lost", v)) [some v, some (D.int 2), none] s := by
    simp -implicitDefEqProofs (disch := first | assumption | with_reducible (first | exact e_nc_int | exact e_nc_str | exact e_nc_tup | exact e_nc_lst | exact e_nc_bl | exact e_nc_non | exact e_nc_dic | exact e_nc_ins | exact e_right_int | exact e_right_str | exact e_right_tup | exact e_right_lst | exact e_right_non | exact e_right_dic | exact e_isL | exact e_isS | exact e_isT | exact (Nat.le_of_ble_eq_true rfl) | exact (isL_mid rfl) | exact (isL_mid (by assumption))) | decide +kernel | with_reducible exact e_right_ins (by decide +kernel) | with_reducible exact mulB_l (by decide +kernel) | with_reducible exact mulB_r (by decide +kernel) | omega) only [Bool.not_true, Bool.not_false, evAll, evTwo, evThree, evFour, evFive]
    rfl
  have e : pickR cl__law_caught 10 (some ("lost", v)) s = .ok (.str (Str.append "lost " t)) s := by
    show (Out.ok v s).bind (fun d s => (reprV [d] s).bind fun t s => addD (.str "lost ") t s) = _
    unfold Out.bind
    dsimp only
    rw [hr]
    exact if_pos (Nat.le_trans (Nat.add_le_add_left hl _) (by decide +kernel))
  simp -implicitDefEqProofs (disch := first | assumption | with_reducible (first | exact e_nc_int | exact e_nc_str | exact e_nc_tup | exact e_nc_lst | exact e_nc_bl | exact e_nc_non | exact e_nc_dic | exact e_nc_ins | exact e_right_int | exact e_right_str | exact e_right_tup | exact e_right_lst | exact e_right_non | exact e_right_dic | exact e_isL | exact e_isS | exact e_isT | exact (Nat.le_of_ble_eq_true rfl) | exact (isL_mid rfl) | exact (isL_mid (by assumption))) | decide +kernel | with_reducible exact e_right_ins (by decide +kernel) | with_reducible exact mulB_l (by decide +kernel) | with_reducible exact mulB_r (by decide +kernel) | omega) only [Bool.not_true, Bool.not_false, evAll, evTwo, evThree, evFour, evFive, try_err h e]
end
end Law

set_option Elab.async false
set_option maxRecDepth 100000
set_option maxHeartbeats 4000000
set_option linter.all false
namespace Law
open PySem PySem.Spec PyProof.Rows L2 Md Pl TxS
theorem ofS_ok (x : String) : PyData.strOk (Str.ofString x) = true := by
  unfold PyData.strOk
  rw [← Array.all_toList, List.all_eq_true]
  intro c hc
  rw [Str.ofString_eq_toList] at hc
  obtain ⟨k, _, rfl⟩ := List.mem_map.mp hc
  have v := k.valid
  rcases v with v | v
  · exact decide_eq_true (show k.val.toNat < 0x110000 from Nat.lt_trans v (by decide))
  · exact decide_eq_true v.2
theorem app_ok {a b : Str} (ha : PyData.strOk a = true) (hb : PyData.strOk b = true) : PyData.strOk (Str.append a b) = true := by
  unfold PyData.strOk at *
  show (a.cps ++ b.cps).all _ = true
  rw [Array.all_append, ha, hb]
  rfl
section
variable {s : Sto} {v i : D} {t T : Str}
theorem right_ok (hv : nc v = true) (hi : nc i = true) (hr : ∀ s, reprV [v] s = .ok (.str t) s) (hl : t.length ≤ 100000) (ho : PyData.strOk t = true) (hT : ∀ s, reprV [.lst (rowsK v i)] s = .ok (.str T) s) : m__law_right [v, i] s = .ok (.bl true) s := by
  have q1 : ∀ (a : Str) (d : D), nc d = true → ncA [.str a, d] = true := fun a d h => by unfold ncA; rw [List.all_cons, List.all_cons, h]; rfl
  have l4 : ∀ (a b c d e f g : D) (s : Sto), addD (.lst [a, b, c, d]) (.lst [e, f, g]) s = .ok (.lst [a, b, c, d, e, f, g]) s := fun _ _ _ _ _ _ _ _ => rfl
  have l7 : ∀ (a b c d e f g h : D) (s : Sto), addD (.lst [a, b, c, d, e, f, g]) (.lst [h]) s = .ok (.lst [a, b, c, d, e, f, g, h]) s := fun _ _ _ _ _ _ _ _ _ => rfl
  have n1 : neD (.lst [.str "g line value ", .str "p line value ", .str "r line value ", .str "s line value ", .str "d line value ", .str "q line value ", .str "o line value ", .str " line value "]) (.lst [.str "g line value ", .str "p line value ", .str "r line value ", .str "s line value ", .str "d line value ", .str "q line value ", .str "o line value ", .str " line value "]) s = .ok (.bl false) s := by kernel_rfl
  have hT2 : reprV [.lst [.tup [.str "x line value ", i], .tup [.str "U key lookup ", v], .tup [.str "A lookup ", v], .tup [.str "N index lookup ", v], .tup [.str "Z runtime ", v], .tup [.str "M overflow arithmetic ", v], .tup [.str "R arithmetic ", v], .tup [.str "Q zero arithmetic ", v]]] s = .ok (.str T) s := hT s
  have a1 : addD (.str "quotient ") (.str t) s = .ok (.str (Str.append "quotient " t)) s := if_pos (Nat.le_trans (Nat.add_le_add_left hl _) (by decide +kernel))
  have a2 : addD (.str "lost ") (.str t) s = .ok (.str (Str.append "lost " t)) s := if_pos (Nat.le_trans (Nat.add_le_add_left hl _) (by decide +kernel))
  have hr' := hr s
  have c0 : ∀ x, callD m__law_caught (consD (varD 0) (consD (varD 4) nilD)) [some v, some i, x, none, some (.int 0)] s = .ok (.str "base r") s := fun x => by
    simp -implicitDefEqProofs (disch := first | assumption | with_reducible (first | exact e_nc_int | exact e_nc_str | exact e_nc_tup | exact e_nc_lst | exact e_nc_bl | exact e_nc_non | exact e_nc_dic | exact e_nc_ins | exact e_right_int | exact e_right_str | exact e_right_tup | exact e_right_lst | exact e_right_non | exact e_right_dic | exact e_isL | exact e_isS | exact e_isT | exact (Nat.le_of_ble_eq_true rfl) | exact (isL_mid rfl) | exact (isL_mid (by assumption))) | decide +kernel | with_reducible exact e_right_ins (by decide +kernel) | with_reducible exact mulB_l (by decide +kernel) | with_reducible exact mulB_r (by decide +kernel) | omega) only [Bool.not_true, Bool.not_false, evAll, evTwo, evThree, evFour, evFive, caught_0]
  have c1 : ∀ x, callD m__law_caught (consD (varD 0) (consD (varD 4) nilD)) [some v, some i, x, none, some (.int 1)] s = .ok (.str (Str.append "quotient " t)) s := fun x => by
    simp -implicitDefEqProofs (disch := first | assumption | with_reducible (first | exact e_nc_int | exact e_nc_str | exact e_nc_tup | exact e_nc_lst | exact e_nc_bl | exact e_nc_non | exact e_nc_dic | exact e_nc_ins | exact e_right_int | exact e_right_str | exact e_right_tup | exact e_right_lst | exact e_right_non | exact e_right_dic | exact e_isL | exact e_isS | exact e_isT | exact (Nat.le_of_ble_eq_true rfl) | exact (isL_mid rfl) | exact (isL_mid (by assumption))) | decide +kernel | with_reducible exact e_right_ins (by decide +kernel) | with_reducible exact mulB_l (by decide +kernel) | with_reducible exact mulB_r (by decide +kernel) | omega) only [Bool.not_true, Bool.not_false, evAll, evTwo, evThree, evFour, evFive, caught_1 hr' hl]
  have c2 : ∀ x, callD m__law_caught (consD (varD 0) (consD (varD 4) nilD)) [some v, some i, x, none, some (.int 2)] s = .ok (.str (Str.append "lost " t)) s := fun x => by
    simp -implicitDefEqProofs (disch := first | assumption | with_reducible (first | exact e_nc_int | exact e_nc_str | exact e_nc_tup | exact e_nc_lst | exact e_nc_bl | exact e_nc_non | exact e_nc_dic | exact e_nc_ins | exact e_right_int | exact e_right_str | exact e_right_tup | exact e_right_lst | exact e_right_non | exact e_right_dic | exact e_isL | exact e_isS | exact e_isT | exact (Nat.le_of_ble_eq_true rfl) | exact (isL_mid rfl) | exact (isL_mid (by assumption))) | decide +kernel | with_reducible exact e_right_ins (by decide +kernel) | with_reducible exact mulB_l (by decide +kernel) | with_reducible exact mulB_r (by decide +kernel) | omega) only [Bool.not_true, Bool.not_false, evAll, evTwo, evThree, evFour, evFive, caught_2 hr' hl]
  have hrng : rngE [.int 3] s = .ok [.int 0, .int 1, .int 2] s := rfl
  have hlc : ∀ x, lcE (nameG 4) yesD (callD m__law_caught (consD (varD 0) (consD (varD 4) nilD))) [4] [some v, some i, x, none, none] [.int 0, .int 1, .int 2] s = .ok [.str "base r", .str (Str.append "quotient " t), .str (Str.append "lost " t)] s := fun x => by
    rw [lcE_eq (by decide)]
    show lcGo (nameG 4) yesD (callD m__law_caught (consD (varD 0) (consD (varD 4) nilD))) [some v, some i, x, none, none] _ s = _
    have g0 : ∀ (d : D) (y : Option D), nameG 4 d [some v, some i, x, none, y] = some [some v, some i, x, none, some d] := fun _ _ => rfl
    simp only [lcGo, g0, yesD, nb, Out.bind, c0, c1, c2, e_nc_str, if_true]
  have he : eqD (.lst [.str "base r", .str (Str.append "quotient " t), .str (Str.append "lost " t)]) (.lst [.str "base r", .str (Str.append "quotient " t), .str (Str.append "lost " t)]) s = .ok (.bl true) s := by
    have k1 := app_ok (ofS_ok "quotient ") ho
    have k2 := app_ok (ofS_ok "lost ") ho
    refine lst_eq ?_ rfl
    simp [shp, k1, k2, ofS_ok]
  unfold m__law_right
  simp -implicitDefEqProofs (disch := first | assumption | with_reducible (first | exact e_nc_int | exact e_nc_str | exact e_nc_tup | exact e_nc_lst | exact e_nc_bl | exact e_nc_non | exact e_nc_dic | exact e_nc_ins | exact e_right_int | exact e_right_str | exact e_right_tup | exact e_right_lst | exact e_right_non | exact e_right_dic | exact e_isL | exact e_isS | exact e_isT | exact (Nat.le_of_ble_eq_true rfl) | exact (isL_mid rfl) | exact (isL_mid (by assumption))) | decide +kernel | with_reducible exact e_right_ins (by decide +kernel) | with_reducible exact mulB_l (by decide +kernel) | with_reducible exact mulB_r (by decide +kernel) | omega) only [Bool.not_true, Bool.not_false, evAll, evTwo, evThree, evFour, evFive, msgs_ok, due_ok, n1, l4, l7, hv, hi, kept_ok hv hi, hT s, hT2, a1, a2, decide_true, Bool.not_true, hr', hrng, hlc, he]
end
end Law

set_option Elab.async false
set_option maxRecDepth 100000
set_option maxHeartbeats 4000000
set_option linter.all false
namespace Law
open PySem PySem.Spec PyProof.Rows L2 Md Pl TxS
/-! what is drawn -/
structure Opt (v i : D) : Prop where
  nv : nc v = true
  ni : nc i = true
  own : ∃ t : Str, t.length ≤ 100000 ∧ PyData.strOk t = true ∧ ∀ s, reprV [v] s = .ok (.str t) s
  rows : ∃ T : Str, ∀ s, reprV [.lst (rowsK v i)] s = .ok (.str T) s
theorem opt_plain {v i : D} {q1 q2 : PyData} (hv : nc v = true) (hi : nc i = true) (e1 : v.py = some q1) (e2 : i.py = some q2) (h1 : shD v = some q1) (h2 : shD i = some q2) (d1 : q1.hasDict = false) (d2 : q2.hasDict = false) (c1 : wideB q1 = true) (c2 : wideB q2 = true) (p1 : q1.depth ≤ 5) (p2 : q2.depth ≤ 5) (w1 : Gl.wt q1 ≤ 10000) (w2 : Gl.wt q2 ≤ 10000)
    (o1 : PyData.strOk q1.shown = true) (z1 : ∀ s, reprZ [v] s = reprD [v] s) (n1 : ∀ s, vw v s = v) : Opt v i := by
  have S1 : Shw 5 10000 v := ⟨q1, e1, c1, p1, w1⟩
  have S2 : Shw 5 10000 i := ⟨q2, e2, c2, p2, w2⟩
  refine ⟨hv, hi, ?_, ?_⟩
  · have hs := show_of c1 (Nat.le_trans p1 (by decide)) (Nat.le_trans w1 (by decide))
    refine ⟨q1.shown, Nat.le_trans (Gl.shown_le q1 (wide_of q1 c1)) (Nat.le_trans w1 (by decide)), o1, fun s => ?_⟩
    rw [repV_old fun q e => by rw [h1] at e; cases e; exact d1, z1]
    exact repr_eq (by rw [n1]; exact e1) hs
  · have tS : ∀ a : String, a.length ≤ 40 → Shw 5 10000 (.str (Str.ofString a)) := fun a h => (shw_str ((Tx.of a).up h)).up (by decide) (by decide)
    have row : ∀ (a : String) (d : D), a.length ≤ 40 → Shw 5 10000 d → Shw 6 (2 * (10000 + 2) + 3) (.tup [.str (Str.ofString a), d]) := fun a d h k => shw_tup (n := 2) (fun x hx => by
      simp only [List.mem_cons, List.not_mem_nil, or_false] at hx
      rcases hx with rfl | rfl
      · exact tS _ h
      · exact k) (by simp)
    have L : Shw 7 (8 * (2 * (10000 + 2) + 3 + 2) + 3) (.lst (rowsK v i)) := shw_lst (n := 8) (fun x hx => by
      simp only [rowsK, List.mem_cons, List.not_mem_nil, or_false] at hx
      rcases hx with rfl | rfl | rfl | rfl | rfl | rfl | rfl | rfl <;> first | exact row _ _ (by decide) S1 | exact row _ _ (by decide) S2) (by simp [rowsK])
    obtain ⟨T, hT⟩ := reprE L (fun _ => rfl) (by decide) (by decide)
    refine ⟨T, fun s => ?_⟩
    rw [repV_old fun q e => ?_]
    · exact hT s
    · have e' : shD (.lst (rowsK v i)) = some (.list [.tuple [.str "x line value ", q2], .tuple [.str "U key lookup ", q1], .tuple [.str "A lookup ", q1], .tuple [.str "N index lookup ", q1], .tuple [.str "Z runtime ", q1], .tuple [.str "M overflow arithmetic ", q1], .tuple [.str "R arithmetic ", q1], .tuple [.str "Q zero arithmetic ", q1]]) := by
        simp [rowsK, shD, shL, leafD, h1, h2]
      rw [e'] at e
      cases e
      simp [PyData.hasDict, PyData.hasDictAll, d1, d2]
theorem opt_dict {i : D} {q2 : PyData} (hi : nc i = true) (h2' : shD i = some q2) (c2 : q2.showable = true) (p2 : q2.depth ≤ 5) (w2 : wtV q2 ≤ 10000) : Opt (.dic [(.inl 7, .int 7)]) i := by
  refine ⟨rfl, hi, ⟨"{7: 7}", by decide, by decide +kernel, fun s => ?_⟩, ⟨_, fun s => repV_eq (q := .list [.tuple [.str "x line value ", q2], .tuple [.str "U key lookup ", .dict [(.int 7, .int 7)]], .tuple [.str "A lookup ", .dict [(.int 7, .int 7)]], .tuple [.str "N index lookup ", .dict [(.int 7, .int 7)]], .tuple [.str "Z runtime ", .dict [(.int 7, .int 7)]], .tuple [.str "M overflow arithmetic ", .dict [(.int 7, .int 7)]], .tuple [.str "R arithmetic ", .dict [(.int 7, .int 7)]], .tuple [.str "Q zero arithmetic ", .dict [(.int 7, .int 7)]]]) ?_ ?_ ?_ ?_ ?_⟩⟩
  · kernel_rfl
  · simp [rowsK, shD, shL, leafD, leafK, kPy, h2']
  · simp [PyData.hasDict, PyData.hasDictAll]
  · simp [PyData.showable, PyData.showableAll, PyData.showableKv, c2]
    decide
  · simp only [PyData.depth, PyData.depthAll, PyData.depthKv]
    omega
  · have k : ∀ a : Str, wtV (.str a) = (PyData.str a).shown.length := fun _ => rfl
    have kd : wtV (.dict [(.int 7, .int 7)]) = 6 := by decide +kernel
    have k1 : ∀ a ∈ (["x line value ", "U key lookup ", "A lookup ", "N index lookup ", "Z runtime ", "M overflow arithmetic ", "R arithmetic ", "Q zero arithmetic "] : List Str), wtV (.str a) ≤ 40 := by decide +kernel
    have h1 := k1 "x line value " (by simp)
    have h2 := k1 "U key lookup " (by simp)
    have h3 := k1 "A lookup " (by simp)
    have h4 := k1 "N index lookup " (by simp)
    have h5 := k1 "Z runtime " (by simp)
    have h6 := k1 "M overflow arithmetic " (by simp)
    have h7 := k1 "R arithmetic " (by simp)
    have h8 := k1 "Q zero arithmetic " (by simp)
    have hs : (100000 : Nat) ≤ sizeLine := by decide +kernel
    refine Nat.le_trans ?_ hs
    have e0 : ∀ xs : List PyData, wtV (.list xs) = wtVA xs + 2 := fun _ => by rw [wtV]
    have e1 : ∀ a b : PyData, wtV (.tuple [a, b]) = wtV a + 2 + (wtV b + 2 + 0) + 3 := fun _ _ => by rw [wtV, wtVA, wtVA, wtVA]
    have e2 : ∀ (x : PyData) (xs : List PyData), wtVA (x :: xs) = wtV x + 2 + wtVA xs := fun _ _ => by rw [wtVA]
    have e3 : wtVA [] = 0 := by rw [wtVA]
    simp only [e0, e2, e3, e1, kd]
    clear hs k1 kd k e0 e1 e2 e3 p2 c2 h2' hi
    revert h1 h2 h3 h4 h5 h6 h7 h8 w2
    generalize wtV (.str "x line value ") = n1
    generalize wtV (.str "U key lookup ") = n2
    generalize wtV (.str "A lookup ") = n3
    generalize wtV (.str "N index lookup ") = n4
    generalize wtV (.str "Z runtime ") = n5
    generalize wtV (.str "M overflow arithmetic ") = n6
    generalize wtV (.str "R arithmetic ") = n7
    generalize wtV (.str "Q zero arithmetic ") = n8
    generalize wtV q2 = n9
    intros
    omega
end Law

set_option Elab.async false
set_option maxRecDepth 100000
set_option maxHeartbeats 4000000
set_option linter.all false
namespace Law
open PySem PySem.Spec PyProof.Rows L2 Md Pl TxS
/-! the values that are drawn -/
structure Sml (x : D) (q : PyData) : Prop where
  n : nc x = true
  py : x.py = some q
  sh : shD x = some q
  d : q.hasDict = false
  w : wideB q = true
  p : q.depth ≤ 5
  t : Gl.wt q ≤ 10000
  o : PyData.strOk q.shown = true
  z : ∀ s, reprZ [x] s = reprD [x] s
  vw_ : ∀ s, vw x s = x
theorem opt_sml {v i : D} {q1 q2 : PyData} (h1 : Sml v q1) (h2 : Sml i q2) : Opt v i := opt_plain h1.n h2.n h1.py h2.py h1.sh h2.sh h1.d h2.d h1.w h2.w h1.p h2.p h1.t h2.t h1.o h1.z h1.vw_
theorem abs_lt {k : Int} (h0 : 0 ≤ k) (h1 : k < 10 ^ 60) : k.natAbs < 10 ^ 60 := by
  have : (k.natAbs : Int) = k := Int.natAbs_of_nonneg h0
  have h2 : (k.natAbs : Int) < ((10 ^ 60 : Nat) : Int) := by rw [this]; exact Int.lt_of_lt_of_le h1 (by decide)
  exact Int.ofNat_lt.mp h2
theorem sml_int {k : Int} (h0 : 0 ≤ k) (h1 : k < 10 ^ 60) : Sml (.int k) (.int k) :=
  ⟨rfl, rfl, rfl, rfl, decide_eq_true (Nat.lt_of_lt_of_le (abs_lt h0 h1) (by decide +kernel)), Nat.zero_le _, Nat.le_of_ble_eq_true rfl, ofS_ok _, fun _ => rfl, fun _ => rfl⟩
theorem sml_non : Sml .non .none := ⟨rfl, rfl, rfl, rfl, rfl, by decide, by decide, by decide +kernel, fun _ => rfl, fun _ => rfl⟩
theorem sml_true : Sml (.bl true) (.bool true) := ⟨rfl, rfl, rfl, rfl, rfl, by decide, by decide, by decide +kernel, fun _ => rfl, fun _ => rfl⟩
theorem sml_7 : Sml (.str "7") (.str "7") := ⟨rfl, rfl, rfl, rfl, rfl, by decide, by decide +kernel, by decide +kernel, fun _ => rfl, fun _ => rfl⟩
theorem sml_e : Sml (.str "") (.str "") := ⟨rfl, rfl, rfl, rfl, rfl, by decide, by decide +kernel, by decide +kernel, fun _ => rfl, fun _ => rfl⟩
theorem sml_70 : Sml (.tup [.int 7, .int 0]) (.tuple [.int 7, .int 0]) := ⟨rfl, rfl, rfl, rfl, by decide +kernel, by decide +kernel, by decide +kernel, by decide +kernel, fun _ => rfl, fun _ => rfl⟩
theorem sml_l7 : Sml (.lst [.int 7]) (.list [.int 7]) := ⟨rfl, rfl, rfl, rfl, by decide +kernel, by decide +kernel, by decide +kernel, by decide +kernel, fun _ => rfl, fun _ => rfl⟩
theorem sml_a1 : Sml (.tup [.tup [], .tup [.str "a", .int 1]]) (.tuple [.tuple [], .tuple [.str "a", .int 1]]) := ⟨rfl, rfl, rfl, rfl, by decide +kernel, by decide +kernel, by decide +kernel, by decide +kernel, fun _ => rfl, fun _ => rfl⟩
theorem sml_ce : Sml (.tup [.str "clear", .str "edge"]) (.tuple [.str "clear", .str "edge"]) := ⟨rfl, rfl, rfl, rfl, by decide +kernel, by decide +kernel, by decide +kernel, by decide +kernel, fun _ => rfl, fun _ => rfl⟩
theorem sml_00 : Sml (.tup [.int 0, .int 0]) (.tuple [.int 0, .int 0]) := ⟨rfl, rfl, rfl, rfl, by decide +kernel, by decide +kernel, by decide +kernel, by decide +kernel, fun _ => rfl, fun _ => rfl⟩
theorem show_int {k : Int} (h0 : 0 ≤ k) (h1 : k < 10 ^ 60) : (PyData.int k).showable = true := by
  have h := abs_lt h0 h1
  refine decide_eq_true ?_
  rcases Nat.eq_zero_or_pos k.natAbs with z | z
  · rw [z]; decide
  · exact (Nat.log2_lt (Nat.pos_iff_ne_zero.mp z)).mpr (Nat.lt_of_lt_of_le h (by decide +kernel))
def optL (n : Int) : List D := [.non, .bl true, .int 0, .str "7", .str "", .tup [.int 7, .int 0], .lst [.int 7], .dic [(.inl 7, .int 7)], .tup [.tup [], .tup [.str "a", .int 1]], .tup [.str "clear", .str "edge"], .tup [.int 0, .int 0], .int n]
def idxL (m : Int) : List D := [.non, .int 0, .int 1, .int m]
theorem opt_all {n m : Int} (n0 : 0 ≤ n) (n1 : n < 10 ^ 60) (m0 : 0 ≤ m) (m1 : m < 10 ^ 60) {v i : D} (hv : v ∈ optL n) (hi : i ∈ idxL m) : Opt v i := by
  have k0 : Sml (.int 0) (.int 0) := sml_int (by decide) (by decide)
  have k1 : Sml (.int 1) (.int 1) := sml_int (by decide) (by decide)
  have H : ∃ q, Sml i q ∧ q.showable = true ∧ wtV q ≤ 10000 := by
    simp only [idxL, List.mem_cons, List.not_mem_nil, or_false] at hi
    rcases hi with rfl | rfl | rfl | rfl
    · exact ⟨_, sml_non, rfl, by decide +kernel⟩
    · exact ⟨_, k0, show_int (by decide) (by decide), by decide +kernel⟩
    · exact ⟨_, k1, show_int (by decide) (by decide), by decide +kernel⟩
    · exact ⟨_, sml_int m0 m1, show_int m0 m1, Nat.le_of_ble_eq_true rfl⟩
  obtain ⟨q, H, c, w⟩ := H
  simp only [optL, List.mem_cons, List.not_mem_nil, or_false] at hv
  rcases hv with rfl | rfl | rfl | rfl | rfl | rfl | rfl | rfl | rfl | rfl | rfl | rfl
  · exact opt_sml sml_non H
  · exact opt_sml sml_true H
  · exact opt_sml k0 H
  · exact opt_sml sml_7 H
  · exact opt_sml sml_e H
  · exact opt_sml sml_70 H
  · exact opt_sml sml_l7 H
  · exact opt_dict H.n H.sh c H.p w
  · exact opt_sml sml_a1 H
  · exact opt_sml sml_ce H
  · exact opt_sml sml_00 H
  · exact opt_sml (sml_int n0 n1) H
theorem Opt.right {v i : D} {s : Sto} (h : Opt v i) : m__law_right [v, i] s = .ok (.bl true) s := by
  obtain ⟨hv, hi, ⟨t, hl, ho, hr⟩, T, hT⟩ := h
  exact right_ok hv hi hr hl ho hT
end Law

set_option Elab.async false
set_option maxRecDepth 100000
set_option maxHeartbeats 4000000
set_option linter.all false
namespace Law
open PySem PySem.Spec PyProof.Rows L2 Md Pl TxS
section
variable {s : Sto}
/-- the dice at n, the values at k -/
structure Two (n k : Nat) (L : List D) (s : Sto) : Prop where
  dn : Dn n s
  at_ : s[k]? = some (.lst L)
  ne : n ≠ k
theorem pick_two {n k : Nat} {L : List D} (h : Two n k L s) (h0 : 0 < L.length) (h1 : L.length ≤ 1000) : ∃ (x : D) (c : Cl), m__law_pick [.cell n, .cell k] s = .ok x (s.set n c) ∧ x ∈ L ∧ Two n k L (s.set n c) := by
  obtain ⟨r, c, e, r0, r1, hd⟩ := roll_okS (t := L.length) h.dn (by omega) (by omega)
  obtain ⟨x, hx, hm⟩ := atI_nat r0 r1
  have e2 : (s.set n c)[k]? = some (.lst L) := by rw [List.getElem?_set_ne h.ne]; exact h.at_
  have hlen : lenD [.cell k] s = .ok (.int L.length) s := by
    simp only [lenD, vw, h.at_]
  refine ⟨x, c, ?_, hm, hd, e2, h.ne⟩
  unfold m__law_pick
  simp -implicitDefEqProofs (disch := first | assumption | with_reducible (first | exact e_nc_int | exact e_nc_str | exact e_nc_tup | exact e_nc_lst | exact e_nc_bl | exact e_nc_non | exact e_nc_dic | exact e_nc_ins | exact e_right_int | exact e_right_str | exact e_right_tup | exact e_right_lst | exact e_right_non | exact e_right_dic | exact e_isL | exact e_isS | exact e_isT | exact (Nat.le_of_ble_eq_true rfl) | exact (isL_mid rfl) | exact (isL_mid (by assumption))) | decide +kernel | with_reducible exact e_right_ins (by decide +kernel) | with_reducible exact mulB_l (by decide +kernel) | with_reducible exact mulB_r (by decide +kernel) | omega) only [Bool.not_true, Bool.not_false, evAll, evTwo, evThree, evFour, evFive, hlen, e, ix_cell e2 hx]
  exact trim_eq (List.length_set ..)
theorem inner_ok {n k : Nat} {L : List D} {i : D} {x0 x1 x5 : Option D} (h : Two n k L s) (h0 : 0 < L.length) (h1 : L.length ≤ 1000) (ok : ∀ v ∈ L, Opt v i) : ∃ (x : Option D) (s' : Sto), forGo (nameG 5) (ifS (notT (testD (callD m__law_right (consD (callD m__law_pick (consD (varD 2) (consD (varD 3) nilD))) (consD (varD 4) nilD)))))
  (retS (cD (.bl false)))
  nilS) (rngL 0 (Int.toNat 3)) [x0, x1, some (.cell n), some (.cell k), some i, x5] s = .nx [x0, x1, some (.cell n), some (.cell k), some i, x] s' ∧ Two n k L s' := by
  obtain ⟨ds', s', e, h⟩ := for_rng (i := 5) (n := Int.toNat 3) (s := s) (ds := [x0, x1, some (.cell n), some (.cell k), some i, x5])
    (body := (ifS (notT (testD (callD m__law_right (consD (callD m__law_pick (consD (varD 2) (consD (varD 3) nilD))) (consD (varD 4) nilD)))))
  (retS (cD (.bl false)))
  nilS)) (fun j ds u => ∃ x, ds = [x0, x1, some (.cell n), some (.cell k), some i, x] ∧ Two n k L u) ⟨_, rfl, h⟩ (by
      rintro j _ u hj ⟨x, rfl, hd⟩
      obtain ⟨v, c, e1, hv, d1⟩ := pick_two hd h0 h1
      have e2 := (ok v hv).right (s := u.set n c)
      simp -implicitDefEqProofs (disch := first | assumption | with_reducible (first | exact e_nc_int | exact e_nc_str | exact e_nc_tup | exact e_nc_lst | exact e_nc_bl | exact e_nc_non | exact e_nc_dic | exact e_nc_ins | exact e_right_int | exact e_right_str | exact e_right_tup | exact e_right_lst | exact e_right_non | exact e_right_dic | exact e_isL | exact e_isS | exact e_isT | exact (Nat.le_of_ble_eq_true rfl) | exact (isL_mid rfl) | exact (isL_mid (by assumption))) | decide +kernel | with_reducible exact e_right_ins (by decide +kernel) | with_reducible exact mulB_l (by decide +kernel) | with_reducible exact mulB_r (by decide +kernel) | omega) only [Bool.not_true, Bool.not_false, evAll, evTwo, evThree, evFour, evFive, e1, e2]
      exact ⟨_, _, rfl, _, rfl, d1⟩)
  obtain ⟨x, rfl, hd⟩ := h
  exact ⟨x, s', e, hd⟩
theorem calm_lst {u : Sto} {xs : List D} (h : ∀ m, okS m u = true) : ∀ m, okS m (u ++ [.lst xs]) = true := fun m => by
  have := h m
  unfold okS at this ⊢
  rw [List.all_append, this]
  rfl
theorem calm_set {u : Sto} {k : Nat} {xs : List D} (h : ∀ m, okS m u = true) : ∀ m, okS m (u.set k (.lst xs)) = true := fun m => by
  have := h m
  unfold okS at this ⊢
  rw [List.all_eq_true] at this ⊢
  intro x hx
  rcases List.mem_or_eq_of_mem_set hx with q | rfl
  · exact this x q
  · rfl
theorem law_ok (ns : List Int) (hn : ns.length ≤ 63) : ∃ s', m_law [.scr ns] [] = .ok (.bl true) s' := by
  have hmax : ∃ k : Nat, (if (if (ns.length : Int) < 4 then (ns.length : Int) else 4) > 1 then (if (ns.length : Int) < 4 then (ns.length : Int) else 4) else 1) = (k : Int) ∧ k ≤ 4 := by
    refine ⟨(if (if (ns.length : Int) < 4 then (ns.length : Int) else 4) > 1 then (if (ns.length : Int) < 4 then (ns.length : Int) else 4) else 1).toNat, ?_, ?_⟩ <;> (repeat' split) <;> omega
  obtain ⟨k, hk, hk4⟩ := hmax
  obtain ⟨ds', s1, e1, x1, x2, x3, x4, x5, hds, hc⟩ := for_rng (i := 1) (n := k) (s := []) (ds := [some (.scr ns), none, none, none, none, none])
      (body := (seqS (asgS (callD m__law_dice (consD (varD 0) (consD (varD 1) nilD))) (nameG 2))
(seqS (asgS (lstC (consD (cD .non) (consD (cD (.bl true)) (consD (cD (.int 0)) (consD (cD (.str "7")) (consD (cD (.str "")) (consD (tupD (consD (cD (.int 7)) (consD (cD (.int 0)) nilD))) (consD (lstD (consD (cD (.int 7)) nilD)) (consD (dictD (dcons (cD (.int 7)) (cD (.int 7)) dnil)) (consD (tupD (consD (tupD nilD) (consD (tupD (consD (cD (.str "a")) (consD (cD (.int 1)) nilD))) nilD))) (consD (tupD (consD (cD (.str "clear")) (consD (cD (.str "edge")) nilD))) (consD (tupD (consD (cD (.int 0)) (consD (cD (.int 0)) nilD))) nilD)))))))))))) (nameG 3))
(seqS (exprS (bmD isL appendD (varD 3) (consD (callD m__law_roll (consD (varD 2) (consD (op2 powD (cD (.int 10)) (cD (.int 30))) nilD))) nilD)))
(seqS (asgS (callD m__law_pick (consD (varD 2) (consD (lstD (consD (cD .non) (consD (cD (.int 0)) (consD (cD (.int 1)) (consD (callD m__law_roll (consD (varD 2) (consD (op2 powD (cD (.int 10)) (cD (.int 20))) nilD))) nilD))))) nilD))) (nameG 4))
(forS (rng1D (consD (cD (.int 3)) nilD)) (nameG 5)
(ifS (notT (testD (callD m__law_right (consD (callD m__law_pick (consD (varD 2) (consD (varD 3) nilD))) (consD (varD 4) nilD)))))
(retS (cD (.bl false)))
nilS)))))))
      (fun j ds u => ∃ x1 x2 x3 x4 x5, ds = [some (.scr ns), x1, x2, x3, x4, x5] ∧ ∀ m, okS m u = true) ⟨_, _, _, _, _, rfl, calm_nil⟩ (by
        rintro j _ u hj ⟨x1, x2, x3, x4, x5, rfl, hc⟩
        obtain ⟨l, b, e1⟩ := dice_ok (s := u) (ns := ns) (k := j)
        have d1 := Dn.new hc l b 0
        let s1 := u ++ [Cl.lst [.int l, .int b, .int 0]]
        let L0 : List D := [.non, .bl true, .int 0, .str "7", .str "", .tup [.int 7, .int 0], .lst [.int 7], .dic [(.inl 7, .int 7)], .tup [.tup [], .tup [.str "a", .int 1]], .tup [.str "clear", .str "edge"], .tup [.int 0, .int 0]]
        have d2 : Dn u.length (s1 ++ [.lst L0]) := by
          obtain ⟨q1, q2, q3, q4⟩ := d1.at_
          exact ⟨⟨q1, q2, q3, by rw [List.getElem?_append_left d1.lt]; exact q4⟩, calm_lst d1.calm⟩
        obtain ⟨r, c, e2, r0, r1, d3⟩ := roll_okS (t := 10 ^ 30) d2 (by decide) (by decide)
        have len1 : s1.length = u.length + 1 := by simp [s1]
        have at2 : (s1 ++ [Cl.lst L0])[s1.length]? = some (.lst L0) := by rw [List.getElem?_append_right (Nat.le_refl _), Nat.sub_self]; rfl
        have ne : u.length ≠ s1.length := by omega
        have at3 : ((s1 ++ [Cl.lst L0]).set u.length c)[s1.length]? = some (.lst L0) := by rw [List.getElem?_set_ne ne]; exact at2
        have e3 := append_eq (d := .int r) at3 (by decide) rfl
        have d4 : Dn u.length (((s1 ++ [Cl.lst L0]).set u.length c).set s1.length (.lst (L0 ++ [.int r]))) := by
          obtain ⟨q1, q2, q3, q4⟩ := d3.at_
          exact ⟨⟨q1, q2, q3, by rw [List.getElem?_set_ne (Ne.symm ne)]; exact q4⟩, calm_set d3.calm⟩
        have at4 : (((s1 ++ [Cl.lst L0]).set u.length c).set s1.length (.lst (L0 ++ [.int r])))[s1.length]? = some (.lst (optL r)) := by
          rw [List.getElem?_set_self (List.getElem?_eq_some_iff.mp at3).1]
          rfl
        obtain ⟨m, c2, e4, m0, m1, d5⟩ := roll_okS (t := 10 ^ 20) d4 (by decide) (by decide)
        obtain ⟨i, c3, e5, hi, d6⟩ := pick_okS (xs := idxL m) d5 (show 0 < 4 by decide) (show 4 ≤ 1000 by decide)
        have T : Two u.length s1.length (optL r) (((((s1 ++ [Cl.lst L0]).set u.length c).set s1.length (.lst (L0 ++ [.int r]))).set u.length c2).set u.length c3) :=
          ⟨d6, by rw [List.getElem?_set_ne ne, List.getElem?_set_ne ne]; exact at4, ne⟩
        obtain ⟨x, s7, e7, T7⟩ := inner_ok (i := i) (x0 := some (.scr ns)) (x1 := some (.int (j : Int))) (x5 := x5) T (show 0 < 12 by decide) (show 12 ≤ 1000 by decide) fun v hv => opt_all r0 (Int.lt_of_lt_of_le r1 (by decide)) m0 (Int.lt_of_lt_of_le m1 (by decide)) hv hi
        have ni : nc i = true := by
          simp only [idxL, List.mem_cons, List.not_mem_nil, or_false] at hi
          rcases hi with rfl | rfl | rfl | rfl <;> rfl
        have e5' : m__law_pick [.cell u.length, .lst [.non, .int 0, .int 1, .int m]] ((((s1 ++ [Cl.lst L0]).set u.length c).set s1.length (.lst (L0 ++ [.int r]))).set u.length c2) = _ := e5
        have hL := isL_cell at2
        simp only [s1, L0] at e2 e3 e4 e5' e7 hL
        have len2 : (u ++ [Cl.lst [.int l, .int b, .int 0]]).length = u.length + 1 := len1
        rw [len2] at e3 e4 e5' e7 hL
        have dic7 : ∀ s : Sto, dicE [(D.int 7, D.int 7)] s = .ok (.dic [(.inl 7, .int 7)]) s := fun _ => rfl
        have p30 : ∀ s : Sto, powD (.int 10) (.int 30) s = .ok (.int (10 ^ 30)) s := fun _ => by rw [pow_eq (by decide +kernel)]; rfl
        have p20 : ∀ s : Sto, powD (.int 10) (.int 20) s = .ok (.int (10 ^ 20)) s := fun _ => by rw [pow_eq (by decide +kernel)]; rfl
        simp -implicitDefEqProofs (disch := first | assumption | with_reducible (first | exact e_nc_int | exact e_nc_str | exact e_nc_tup | exact e_nc_lst | exact e_nc_bl | exact e_nc_non | exact e_nc_dic | exact e_nc_ins | exact e_right_int | exact e_right_str | exact e_right_tup | exact e_right_lst | exact e_right_non | exact e_right_dic | exact e_isL | exact e_isS | exact e_isT | exact (Nat.le_of_ble_eq_true rfl) | exact (isL_mid rfl) | exact (isL_mid (by assumption))) | decide +kernel | with_reducible exact e_right_ins (by decide +kernel) | with_reducible exact mulB_l (by decide +kernel) | with_reducible exact mulB_r (by decide +kernel) | omega) only [Bool.not_true, Bool.not_false, evAll, evTwo, evThree, evFour, evFive, e1, p30, p20, dic7, len2, e2, e3, e4, e5', ni, rngE_eq (j := 3) (by decide) (by decide), e7]
        exact ⟨_, _, rfl, _, _, _, _, _, rfl, T7.dn.calm⟩)
  subst hds
  unfold m_law
  simp -implicitDefEqProofs (disch := first | assumption | with_reducible (first | exact e_nc_int | exact e_nc_str | exact e_nc_tup | exact e_nc_lst | exact e_nc_bl | exact e_nc_non | exact e_nc_dic | exact e_nc_ins | exact e_right_int | exact e_right_str | exact e_right_tup | exact e_right_lst | exact e_right_non | exact e_right_dic | exact e_isL | exact e_isS | exact e_isT | exact (Nat.le_of_ble_eq_true rfl) | exact (isL_mid rfl) | exact (isL_mid (by assumption))) | decide +kernel | with_reducible exact e_right_ins (by decide +kernel) | with_reducible exact mulB_l (by decide +kernel) | with_reducible exact mulB_r (by decide +kernel) | omega) only [Bool.not_true, Bool.not_false, evAll, evTwo, evThree, evFour, evFive, hk, rngE_eq (j := (k : Int)) (by omega) (by omega), Int.toNat_natCast, e1]
  exact ⟨_, rfl⟩
end
end Law

set_option Elab.async false
set_option maxRecDepth 100000
set_option maxHeartbeats 4000000
set_option linter.all false
namespace Law
open PySem PySem.Spec PyProof.Rows L2 Md
section
variable {P : Program} {w : World} {K : PySem.W.Frag} {mg : Str → Option Value} {base : Heap} {A : Ad} {Df : Fd}
abbrev sp_law := spL
theorem okL_law (T : Txt K mg A Df) (nd : base.NoDigits) : Gl.FnG P w K mg base CX0 5 A.a_law Df.d_law ["_law_script"] (sp_law K) := fin_law (ok_law T nd) law_ok
end
open Gl
theorem all_mk {l : PySem.W.OpenLaw} {w : World} {K : PySem.W.Frag} {h : Heap} {mg : Str → Option Value} {fa : Addr} (X : K.In h) (G : h.Ns mainGlobals mg) (hfa : mg "law" = some (.ref fa))
    {od0 an0 : Option Addr} {sl0 : Array (Option Value)} {oc0 kV0 dc0 pm0 cd0 ct0 : Value} {f0 : Addr}
    {od1 an1 : Option Addr} {sl1 : Array (Option Value)} {oc1 kV1 dc1 pm1 cd1 ct1 : Value} {f1 : Addr}
    {od2 an2 : Option Addr} {sl2 : Array (Option Value)} {oc2 kV2 dc2 pm2 cd2 ct2 : Value} {f2 : Addr}
    {od3 an3 : Option Addr} {sl3 : Array (Option Value)} {oc3 kV3 dc3 pm3 cd3 ct3 : Value} {f3 : Addr}
    {od4 an4 : Option Addr} {sl4 : Array (Option Value)} {oc4 kV4 dc4 pm4 cd4 ct4 : Value} {f4 : Addr}
    {od5 an5 : Option Addr} {sl5 : Array (Option Value)} {oc5 kV5 dc5 pm5 cd5 ct5 : Value} {f5 : Addr}
    {od6 an6 : Option Addr} {sl6 : Array (Option Value)} {oc6 kV6 dc6 pm6 cd6 ct6 : Value} {f6 : Addr}
    {od7 an7 : Option Addr} {sl7 : Array (Option Value)} {oc7 kV7 dc7 pm7 cd7 ct7 : Value} {f7 : Addr}
    {od8 an8 : Option Addr} {sl8 : Array (Option Value)} {oc8 kV8 dc8 pm8 cd8 ct8 : Value} {f8 : Addr}
    {od9 an9 : Option Addr} {sl9 : Array (Option Value)} {oc9 kV9 dc9 pm9 cd9 ct9 : Value} {f9 : Addr}
    {od10 an10 : Option Addr} {sl10 : Array (Option Value)} {oc10 kV10 dc10 pm10 cd10 ct10 : Value} {f10 : Addr}
    {od11 an11 : Option Addr} {sl11 : Array (Option Value)} {oc11 kV11 dc11 pm11 cd11 ct11 : Value} {f11 : Addr}
    {od12 an12 : Option Addr} {sl12 : Array (Option Value)} {oc12 kV12 dc12 pm12 cd12 ct12 : Value} {f12 : Addr}
    {od13 an13 : Option Addr} {sl13 : Array (Option Value)} {oc13 kV13 dc13 pm13 cd13 ct13 : Value} {f13 : Addr}
    {od14 an14 : Option Addr} {sl14 : Array (Option Value)} {oc14 kV14 dc14 pm14 cd14 ct14 : Value} {f14 : Addr}
    {od15 an15 : Option Addr} {sl15 : Array (Option Value)} {oc15 kV15 dc15 pm15 cd15 ct15 : Value} {f15 : Addr}
    {od16 an16 : Option Addr} {sl16 : Array (Option Value)} {oc16 kV16 dc16 pm16 cd16 ct16 : Value} {f16 : Addr}
    {od17 an17 : Option Addr} {sl17 : Array (Option Value)} {oc17 kV17 dc17 pm17 cd17 ct17 : Value} {f17 : Addr}
    {od18 an18 : Option Addr} {sl18 : Array (Option Value)} {oc18 kV18 dc18 pm18 cd18 ct18 : Value} {f18 : Addr}
    {C_LineError : Addr}
    {C_InvalidGrid : Addr}
    {C_InvalidPoint : Addr}
    {C_InvalidRule : Addr}
    {C_InvalidScheme : Addr}
    {C_InvalidStand : Addr}
    {C_InvalidPaper : Addr}
    {C_InvalidOperation : Addr}
    {C_ParseError : Addr}
    {C_UnknownLetter : Addr}
    {C_UnknownAddress : Addr}
    {C_InvalidNumber : Addr}
    {C_NothingToUndo : Addr}
    {C_TooMany : Addr}
    {C_Refused : Addr}
    {C_NoQuotient : Addr}
    (a0 : PySem.W.nsIn K mainGlobals "_law_dice" = some (some (.ref f0)))
    (l0 : K.lookup f0 = some ⟨oc0, od0, .func (PySem.W.fnOf "_law_dice" "_law_dice" (defArgs s__law_dice) (defBody s__law_dice) (defScope s__law_dice) .none kV0 dc0 pm0 an0 cd0 ct0), sl0⟩)
    (c0 : PySem.W.codeIn K cd0 "_law_dice" = true)
    (k0 : PySem.W.keepIn K (.ref f0) = true)
    (a1 : PySem.W.nsIn K mainGlobals "_law_roll" = some (some (.ref f1)))
    (l1 : K.lookup f1 = some ⟨oc1, od1, .func (PySem.W.fnOf "_law_roll" "_law_roll" (defArgs s__law_roll) (defBody s__law_roll) (defScope s__law_roll) .none kV1 dc1 pm1 an1 cd1 ct1), sl1⟩)
    (c1 : PySem.W.codeIn K cd1 "_law_roll" = true)
    (k1 : PySem.W.keepIn K (.ref f1) = true)
    (a2 : PySem.W.nsIn K mainGlobals "_law_pick" = some (some (.ref f2)))
    (l2 : K.lookup f2 = some ⟨oc2, od2, .func (PySem.W.fnOf "_law_pick" "_law_pick" (defArgs s__law_pick) (defBody s__law_pick) (defScope s__law_pick) .none kV2 dc2 pm2 an2 cd2 ct2), sl2⟩)
    (c2 : PySem.W.codeIn K cd2 "_law_pick" = true)
    (k2 : PySem.W.keepIn K (.ref f2) = true)
    (l3 : K.lookup f3 = some ⟨oc3, od3, .func (PySem.W.fnOf "__init__" "NoQuotient.__init__" (defArgs s_NoQuotient___init__) (defBody s_NoQuotient___init__) (defScope s_NoQuotient___init__) .none kV3 dc3 pm3 an3 cd3 ct3), sl3⟩)
    (c3 : PySem.W.codeIn K cd3 "NoQuotient.__init__" = true)
    (k3 : PySem.W.keepIn K (.ref f3) = true)
    (l4 : K.lookup f4 = some ⟨oc4, od4, .func (PySem.W.fnOf "__init__" "UnknownAddress.__init__" (defArgs s_UnknownAddress___init__) (defBody s_UnknownAddress___init__) (defScope s_UnknownAddress___init__) .none kV4 dc4 pm4 an4 cd4 ct4), sl4⟩)
    (c4 : PySem.W.codeIn K cd4 "UnknownAddress.__init__" = true)
    (k4 : PySem.W.keepIn K (.ref f4) = true)
    (a5 : PySem.W.nsIn K mainGlobals "_law_own" = some (some (.ref f5)))
    (l5 : K.lookup f5 = some ⟨oc5, od5, .func (PySem.W.fnOf "_law_own" "_law_own" (defArgs s__law_own) (defBody s__law_own) (defScope s__law_own) .none kV5 dc5 pm5 an5 cd5 ct5), sl5⟩)
    (c5 : PySem.W.codeIn K cd5 "_law_own" = true)
    (k5 : PySem.W.keepIn K (.ref f5) = true)
    (a6 : PySem.W.nsIn K mainGlobals "_law_caught" = some (some (.ref f6)))
    (l6 : K.lookup f6 = some ⟨oc6, od6, .func (PySem.W.fnOf "_law_caught" "_law_caught" (defArgs s__law_caught) (defBody s__law_caught) (defScope s__law_caught) .none kV6 dc6 pm6 an6 cd6 ct6), sl6⟩)
    (c6 : PySem.W.codeIn K cd6 "_law_caught" = true)
    (k6 : PySem.W.keepIn K (.ref f6) = true)
    (a7 : PySem.W.nsIn K mainGlobals "_law_due_messages" = some (some (.ref f7)))
    (l7 : K.lookup f7 = some ⟨oc7, od7, .func (PySem.W.fnOf "_law_due_messages" "_law_due_messages" (defArgs s__law_due_messages) (defBody s__law_due_messages) (defScope s__law_due_messages) .none kV7 dc7 pm7 an7 cd7 ct7), sl7⟩)
    (c7 : PySem.W.codeIn K cd7 "_law_due_messages" = true)
    (k7 : PySem.W.keepIn K (.ref f7) = true)
    (l8 : K.lookup f8 = some ⟨oc8, od8, .func (PySem.W.fnOf "__init__" "InvalidNumber.__init__" (defArgs s_InvalidNumber___init__) (defBody s_InvalidNumber___init__) (defScope s_InvalidNumber___init__) .none kV8 dc8 pm8 an8 cd8 ct8), sl8⟩)
    (c8 : PySem.W.codeIn K cd8 "InvalidNumber.__init__" = true)
    (k8 : PySem.W.keepIn K (.ref f8) = true)
    (l9 : K.lookup f9 = some ⟨oc9, od9, .func (PySem.W.fnOf "__init__" "NothingToUndo.__init__" (defArgs s_NothingToUndo___init__) (defBody s_NothingToUndo___init__) (defScope s_NothingToUndo___init__) .none kV9 dc9 pm9 an9 cd9 ct9), sl9⟩)
    (c9 : PySem.W.codeIn K cd9 "NothingToUndo.__init__" = true)
    (k9 : PySem.W.keepIn K (.ref f9) = true)
    (l10 : K.lookup f10 = some ⟨oc10, od10, .func (PySem.W.fnOf "__init__" "ParseError.__init__" (defArgs s_ParseError___init__) (defBody s_ParseError___init__) (defScope s_ParseError___init__) .none kV10 dc10 pm10 an10 cd10 ct10), sl10⟩)
    (c10 : PySem.W.codeIn K cd10 "ParseError.__init__" = true)
    (k10 : PySem.W.keepIn K (.ref f10) = true)
    (l11 : K.lookup f11 = some ⟨oc11, od11, .func (PySem.W.fnOf "__init__" "Refused.__init__" (defArgs s_Refused___init__) (defBody s_Refused___init__) (defScope s_Refused___init__) .none kV11 dc11 pm11 an11 cd11 ct11), sl11⟩)
    (c11 : PySem.W.codeIn K cd11 "Refused.__init__" = true)
    (k11 : PySem.W.keepIn K (.ref f11) = true)
    (l12 : K.lookup f12 = some ⟨oc12, od12, .func (PySem.W.fnOf "__init__" "TooMany.__init__" (defArgs s_TooMany___init__) (defBody s_TooMany___init__) (defScope s_TooMany___init__) .none kV12 dc12 pm12 an12 cd12 ct12), sl12⟩)
    (c12 : PySem.W.codeIn K cd12 "TooMany.__init__" = true)
    (k12 : PySem.W.keepIn K (.ref f12) = true)
    (l13 : K.lookup f13 = some ⟨oc13, od13, .func (PySem.W.fnOf "__init__" "UnknownLetter.__init__" (defArgs s_UnknownLetter___init__) (defBody s_UnknownLetter___init__) (defScope s_UnknownLetter___init__) .none kV13 dc13 pm13 an13 cd13 ct13), sl13⟩)
    (c13 : PySem.W.codeIn K cd13 "UnknownLetter.__init__" = true)
    (k13 : PySem.W.keepIn K (.ref f13) = true)
    (a14 : PySem.W.nsIn K mainGlobals "_law_all" = some (some (.ref f14)))
    (l14 : K.lookup f14 = some ⟨oc14, od14, .func (PySem.W.fnOf "_law_all" "_law_all" (defArgs s__law_all) (defBody s__law_all) (defScope s__law_all) .none kV14 dc14 pm14 an14 cd14 ct14), sl14⟩)
    (c14 : PySem.W.codeIn K cd14 "_law_all" = true)
    (k14 : PySem.W.keepIn K (.ref f14) = true)
    (a15 : PySem.W.nsIn K mainGlobals "_law_kept" = some (some (.ref f15)))
    (l15 : K.lookup f15 = some ⟨oc15, od15, .func (PySem.W.fnOf "_law_kept" "_law_kept" (defArgs s__law_kept) (defBody s__law_kept) (defScope s__law_kept) .none kV15 dc15 pm15 an15 cd15 ct15), sl15⟩)
    (c15 : PySem.W.codeIn K cd15 "_law_kept" = true)
    (k15 : PySem.W.keepIn K (.ref f15) = true)
    (a16 : PySem.W.nsIn K mainGlobals "_law_messages" = some (some (.ref f16)))
    (l16 : K.lookup f16 = some ⟨oc16, od16, .func (PySem.W.fnOf "_law_messages" "_law_messages" (defArgs s__law_messages) (defBody s__law_messages) (defScope s__law_messages) .none kV16 dc16 pm16 an16 cd16 ct16), sl16⟩)
    (c16 : PySem.W.codeIn K cd16 "_law_messages" = true)
    (k16 : PySem.W.keepIn K (.ref f16) = true)
    (a17 : PySem.W.nsIn K mainGlobals "_law_right" = some (some (.ref f17)))
    (l17 : K.lookup f17 = some ⟨oc17, od17, .func (PySem.W.fnOf "_law_right" "_law_right" (defArgs s__law_right) (defBody s__law_right) (defScope s__law_right) .none kV17 dc17 pm17 an17 cd17 ct17), sl17⟩)
    (c17 : PySem.W.codeIn K cd17 "_law_right" = true)
    (k17 : PySem.W.keepIn K (.ref f17) = true)
    (a18 : PySem.W.nsIn K mainGlobals "law" = some (some (.ref f18)))
    (l18 : K.lookup f18 = some ⟨oc18, od18, .func (PySem.W.fnOf "law" "law" (defArgs s_law) (defBody s_law) (defScope s_law) .none kV18 dc18 pm18 an18 cd18 ct18), sl18⟩)
    (c18 : PySem.W.codeIn K cd18 "law" = true)
    (k18 : PySem.W.keepIn K (.ref f18) = true)
    (gC_LineError : PySem.W.nsIn K mainGlobals "LineError" = some (some (.ref C_LineError)))
    (xk_LineError : PySem.W.keepIn K (.ref C_LineError) = true)
    (xs_LineError : PySem.W.subIn K (.ref C_LineError) (.type "BaseException") = some true)
    (xt_LineError : PySem.W.typeIn K (.ref C_LineError) = some (.type "type"))
    (xi_LineError : PySem.W.excIn K C_LineError [.type "ValueError", .type "Exception", .type "BaseException", .type "object"] "ValueError.__new__" = true)
    (xd_LineError : PySem.W.hasDictIn K C_LineError = true)
    (xg_LineError : PySem.W.findIn K (.ref C_LineError) "__getattribute__" = some (some (.builtin "BaseException.__getattribute__")))
    (xh_LineError : PySem.W.findIn K (.ref C_LineError) "__getattr__" = some none)
    (xl_LineError : PySem.W.findIn K (.ref C_LineError) "__class__" = some (some (.builtin "object.__class__")))
    (xp_LineError : PySem.W.specialIn K (.builtin "object.__class__") "__get__" = some (some (.builtin "getset_descriptor.__get__")))
    (xu_LineError : PySem.W.takesIn K (.builtin "object.__class__") = some true)
    (xw_LineError : PySem.W.mroIn K C_LineError (.type "object") = some true)
    (gC_InvalidGrid : PySem.W.nsIn K mainGlobals "InvalidGrid" = some (some (.ref C_InvalidGrid)))
    (xk_InvalidGrid : PySem.W.keepIn K (.ref C_InvalidGrid) = true)
    (xs_InvalidGrid : PySem.W.subIn K (.ref C_InvalidGrid) (.type "BaseException") = some true)
    (xt_InvalidGrid : PySem.W.typeIn K (.ref C_InvalidGrid) = some (.type "type"))
    (xi_InvalidGrid : PySem.W.excIn K C_InvalidGrid [.type "ValueError", .type "Exception", .type "BaseException", .type "object"] "ValueError.__new__" = true)
    (xd_InvalidGrid : PySem.W.hasDictIn K C_InvalidGrid = true)
    (xg_InvalidGrid : PySem.W.findIn K (.ref C_InvalidGrid) "__getattribute__" = some (some (.builtin "BaseException.__getattribute__")))
    (xh_InvalidGrid : PySem.W.findIn K (.ref C_InvalidGrid) "__getattr__" = some none)
    (xl_InvalidGrid : PySem.W.findIn K (.ref C_InvalidGrid) "__class__" = some (some (.builtin "object.__class__")))
    (xp_InvalidGrid : PySem.W.specialIn K (.builtin "object.__class__") "__get__" = some (some (.builtin "getset_descriptor.__get__")))
    (xu_InvalidGrid : PySem.W.takesIn K (.builtin "object.__class__") = some true)
    (xw_InvalidGrid : PySem.W.mroIn K C_InvalidGrid (.type "object") = some true)
    (gC_InvalidPoint : PySem.W.nsIn K mainGlobals "InvalidPoint" = some (some (.ref C_InvalidPoint)))
    (xk_InvalidPoint : PySem.W.keepIn K (.ref C_InvalidPoint) = true)
    (xs_InvalidPoint : PySem.W.subIn K (.ref C_InvalidPoint) (.type "BaseException") = some true)
    (xt_InvalidPoint : PySem.W.typeIn K (.ref C_InvalidPoint) = some (.type "type"))
    (xi_InvalidPoint : PySem.W.excIn K C_InvalidPoint [.type "ValueError", .type "Exception", .type "BaseException", .type "object"] "ValueError.__new__" = true)
    (xd_InvalidPoint : PySem.W.hasDictIn K C_InvalidPoint = true)
    (xg_InvalidPoint : PySem.W.findIn K (.ref C_InvalidPoint) "__getattribute__" = some (some (.builtin "BaseException.__getattribute__")))
    (xh_InvalidPoint : PySem.W.findIn K (.ref C_InvalidPoint) "__getattr__" = some none)
    (xl_InvalidPoint : PySem.W.findIn K (.ref C_InvalidPoint) "__class__" = some (some (.builtin "object.__class__")))
    (xp_InvalidPoint : PySem.W.specialIn K (.builtin "object.__class__") "__get__" = some (some (.builtin "getset_descriptor.__get__")))
    (xu_InvalidPoint : PySem.W.takesIn K (.builtin "object.__class__") = some true)
    (xw_InvalidPoint : PySem.W.mroIn K C_InvalidPoint (.type "object") = some true)
    (gC_InvalidRule : PySem.W.nsIn K mainGlobals "InvalidRule" = some (some (.ref C_InvalidRule)))
    (xk_InvalidRule : PySem.W.keepIn K (.ref C_InvalidRule) = true)
    (xs_InvalidRule : PySem.W.subIn K (.ref C_InvalidRule) (.type "BaseException") = some true)
    (xt_InvalidRule : PySem.W.typeIn K (.ref C_InvalidRule) = some (.type "type"))
    (xi_InvalidRule : PySem.W.excIn K C_InvalidRule [.type "ValueError", .type "Exception", .type "BaseException", .type "object"] "ValueError.__new__" = true)
    (xd_InvalidRule : PySem.W.hasDictIn K C_InvalidRule = true)
    (xg_InvalidRule : PySem.W.findIn K (.ref C_InvalidRule) "__getattribute__" = some (some (.builtin "BaseException.__getattribute__")))
    (xh_InvalidRule : PySem.W.findIn K (.ref C_InvalidRule) "__getattr__" = some none)
    (xl_InvalidRule : PySem.W.findIn K (.ref C_InvalidRule) "__class__" = some (some (.builtin "object.__class__")))
    (xp_InvalidRule : PySem.W.specialIn K (.builtin "object.__class__") "__get__" = some (some (.builtin "getset_descriptor.__get__")))
    (xu_InvalidRule : PySem.W.takesIn K (.builtin "object.__class__") = some true)
    (xw_InvalidRule : PySem.W.mroIn K C_InvalidRule (.type "object") = some true)
    (gC_InvalidScheme : PySem.W.nsIn K mainGlobals "InvalidScheme" = some (some (.ref C_InvalidScheme)))
    (xk_InvalidScheme : PySem.W.keepIn K (.ref C_InvalidScheme) = true)
    (xs_InvalidScheme : PySem.W.subIn K (.ref C_InvalidScheme) (.type "BaseException") = some true)
    (xt_InvalidScheme : PySem.W.typeIn K (.ref C_InvalidScheme) = some (.type "type"))
    (xi_InvalidScheme : PySem.W.excIn K C_InvalidScheme [.type "ValueError", .type "Exception", .type "BaseException", .type "object"] "ValueError.__new__" = true)
    (xd_InvalidScheme : PySem.W.hasDictIn K C_InvalidScheme = true)
    (xg_InvalidScheme : PySem.W.findIn K (.ref C_InvalidScheme) "__getattribute__" = some (some (.builtin "BaseException.__getattribute__")))
    (xh_InvalidScheme : PySem.W.findIn K (.ref C_InvalidScheme) "__getattr__" = some none)
    (xl_InvalidScheme : PySem.W.findIn K (.ref C_InvalidScheme) "__class__" = some (some (.builtin "object.__class__")))
    (xp_InvalidScheme : PySem.W.specialIn K (.builtin "object.__class__") "__get__" = some (some (.builtin "getset_descriptor.__get__")))
    (xu_InvalidScheme : PySem.W.takesIn K (.builtin "object.__class__") = some true)
    (xw_InvalidScheme : PySem.W.mroIn K C_InvalidScheme (.type "object") = some true)
    (gC_InvalidStand : PySem.W.nsIn K mainGlobals "InvalidStand" = some (some (.ref C_InvalidStand)))
    (xk_InvalidStand : PySem.W.keepIn K (.ref C_InvalidStand) = true)
    (xs_InvalidStand : PySem.W.subIn K (.ref C_InvalidStand) (.type "BaseException") = some true)
    (xt_InvalidStand : PySem.W.typeIn K (.ref C_InvalidStand) = some (.type "type"))
    (xi_InvalidStand : PySem.W.excIn K C_InvalidStand [.type "ValueError", .type "Exception", .type "BaseException", .type "object"] "ValueError.__new__" = true)
    (xd_InvalidStand : PySem.W.hasDictIn K C_InvalidStand = true)
    (xg_InvalidStand : PySem.W.findIn K (.ref C_InvalidStand) "__getattribute__" = some (some (.builtin "BaseException.__getattribute__")))
    (xh_InvalidStand : PySem.W.findIn K (.ref C_InvalidStand) "__getattr__" = some none)
    (xl_InvalidStand : PySem.W.findIn K (.ref C_InvalidStand) "__class__" = some (some (.builtin "object.__class__")))
    (xp_InvalidStand : PySem.W.specialIn K (.builtin "object.__class__") "__get__" = some (some (.builtin "getset_descriptor.__get__")))
    (xu_InvalidStand : PySem.W.takesIn K (.builtin "object.__class__") = some true)
    (xw_InvalidStand : PySem.W.mroIn K C_InvalidStand (.type "object") = some true)
    (gC_InvalidPaper : PySem.W.nsIn K mainGlobals "InvalidPaper" = some (some (.ref C_InvalidPaper)))
    (xk_InvalidPaper : PySem.W.keepIn K (.ref C_InvalidPaper) = true)
    (xs_InvalidPaper : PySem.W.subIn K (.ref C_InvalidPaper) (.type "BaseException") = some true)
    (xt_InvalidPaper : PySem.W.typeIn K (.ref C_InvalidPaper) = some (.type "type"))
    (xi_InvalidPaper : PySem.W.excIn K C_InvalidPaper [.type "ValueError", .type "Exception", .type "BaseException", .type "object"] "ValueError.__new__" = true)
    (xd_InvalidPaper : PySem.W.hasDictIn K C_InvalidPaper = true)
    (xg_InvalidPaper : PySem.W.findIn K (.ref C_InvalidPaper) "__getattribute__" = some (some (.builtin "BaseException.__getattribute__")))
    (xh_InvalidPaper : PySem.W.findIn K (.ref C_InvalidPaper) "__getattr__" = some none)
    (xl_InvalidPaper : PySem.W.findIn K (.ref C_InvalidPaper) "__class__" = some (some (.builtin "object.__class__")))
    (xp_InvalidPaper : PySem.W.specialIn K (.builtin "object.__class__") "__get__" = some (some (.builtin "getset_descriptor.__get__")))
    (xu_InvalidPaper : PySem.W.takesIn K (.builtin "object.__class__") = some true)
    (xw_InvalidPaper : PySem.W.mroIn K C_InvalidPaper (.type "object") = some true)
    (gC_InvalidOperation : PySem.W.nsIn K mainGlobals "InvalidOperation" = some (some (.ref C_InvalidOperation)))
    (xk_InvalidOperation : PySem.W.keepIn K (.ref C_InvalidOperation) = true)
    (xs_InvalidOperation : PySem.W.subIn K (.ref C_InvalidOperation) (.type "BaseException") = some true)
    (xt_InvalidOperation : PySem.W.typeIn K (.ref C_InvalidOperation) = some (.type "type"))
    (xi_InvalidOperation : PySem.W.excIn K C_InvalidOperation [.type "ValueError", .type "Exception", .type "BaseException", .type "object"] "ValueError.__new__" = true)
    (xd_InvalidOperation : PySem.W.hasDictIn K C_InvalidOperation = true)
    (xg_InvalidOperation : PySem.W.findIn K (.ref C_InvalidOperation) "__getattribute__" = some (some (.builtin "BaseException.__getattribute__")))
    (xh_InvalidOperation : PySem.W.findIn K (.ref C_InvalidOperation) "__getattr__" = some none)
    (xl_InvalidOperation : PySem.W.findIn K (.ref C_InvalidOperation) "__class__" = some (some (.builtin "object.__class__")))
    (xp_InvalidOperation : PySem.W.specialIn K (.builtin "object.__class__") "__get__" = some (some (.builtin "getset_descriptor.__get__")))
    (xu_InvalidOperation : PySem.W.takesIn K (.builtin "object.__class__") = some true)
    (xw_InvalidOperation : PySem.W.mroIn K C_InvalidOperation (.type "object") = some true)
    (gC_ParseError : PySem.W.nsIn K mainGlobals "ParseError" = some (some (.ref C_ParseError)))
    (xk_ParseError : PySem.W.keepIn K (.ref C_ParseError) = true)
    (xs_ParseError : PySem.W.subIn K (.ref C_ParseError) (.type "BaseException") = some true)
    (xt_ParseError : PySem.W.typeIn K (.ref C_ParseError) = some (.type "type"))
    (xi_ParseError : PySem.W.excInitIn K C_ParseError [.type "ValueError", .type "Exception", .type "BaseException", .type "object"] "ValueError.__new__" = true)
    (xo_ParseError : PySem.W.excOver K C_ParseError [.type "ValueError", .type "Exception", .type "BaseException", .type "object"] = true)
    (xd_ParseError : PySem.W.hasDictIn K C_ParseError = true)
    (xz_ParseError : PySem.W.findIn K (.ref C_ParseError) "__setattr__" = some (some (.builtin "object.__setattr__")))
    (xn_ParseError : PySem.W.findIn K (.ref C_ParseError) "__init__" = some (some (.ref f10)))
    (xf_ParseError : PySem.W.typeIn K (.ref f10) = some (.type "function"))
    (xq_ParseError : PySem.W.findIn K (.ref C_ParseError) "number" = some none)
    (xg_ParseError : PySem.W.findIn K (.ref C_ParseError) "__getattribute__" = some (some (.builtin "BaseException.__getattribute__")))
    (xh_ParseError : PySem.W.findIn K (.ref C_ParseError) "__getattr__" = some none)
    (xl_ParseError : PySem.W.findIn K (.ref C_ParseError) "__class__" = some (some (.builtin "object.__class__")))
    (xp_ParseError : PySem.W.specialIn K (.builtin "object.__class__") "__get__" = some (some (.builtin "getset_descriptor.__get__")))
    (xu_ParseError : PySem.W.takesIn K (.builtin "object.__class__") = some true)
    (xw_ParseError : PySem.W.mroIn K C_ParseError (.type "object") = some true)
    (gC_UnknownLetter : PySem.W.nsIn K mainGlobals "UnknownLetter" = some (some (.ref C_UnknownLetter)))
    (xk_UnknownLetter : PySem.W.keepIn K (.ref C_UnknownLetter) = true)
    (xs_UnknownLetter : PySem.W.subIn K (.ref C_UnknownLetter) (.type "BaseException") = some true)
    (xt_UnknownLetter : PySem.W.typeIn K (.ref C_UnknownLetter) = some (.type "type"))
    (xi_UnknownLetter : PySem.W.excInitIn K C_UnknownLetter [.type "KeyError", .type "LookupError", .type "Exception", .type "BaseException", .type "object"] "LookupError.__new__" = true)
    (xo_UnknownLetter : PySem.W.excOver K C_UnknownLetter [.type "KeyError", .type "LookupError", .type "Exception", .type "BaseException", .type "object"] = true)
    (xd_UnknownLetter : PySem.W.hasDictIn K C_UnknownLetter = true)
    (xz_UnknownLetter : PySem.W.findIn K (.ref C_UnknownLetter) "__setattr__" = some (some (.builtin "object.__setattr__")))
    (xn_UnknownLetter : PySem.W.findIn K (.ref C_UnknownLetter) "__init__" = some (some (.ref f13)))
    (xf_UnknownLetter : PySem.W.typeIn K (.ref f13) = some (.type "function"))
    (xq_UnknownLetter : PySem.W.findIn K (.ref C_UnknownLetter) "word" = some none)
    (xg_UnknownLetter : PySem.W.findIn K (.ref C_UnknownLetter) "__getattribute__" = some (some (.builtin "BaseException.__getattribute__")))
    (xh_UnknownLetter : PySem.W.findIn K (.ref C_UnknownLetter) "__getattr__" = some none)
    (xl_UnknownLetter : PySem.W.findIn K (.ref C_UnknownLetter) "__class__" = some (some (.builtin "object.__class__")))
    (xp_UnknownLetter : PySem.W.specialIn K (.builtin "object.__class__") "__get__" = some (some (.builtin "getset_descriptor.__get__")))
    (xu_UnknownLetter : PySem.W.takesIn K (.builtin "object.__class__") = some true)
    (xw_UnknownLetter : PySem.W.mroIn K C_UnknownLetter (.type "object") = some true)
    (gC_UnknownAddress : PySem.W.nsIn K mainGlobals "UnknownAddress" = some (some (.ref C_UnknownAddress)))
    (xk_UnknownAddress : PySem.W.keepIn K (.ref C_UnknownAddress) = true)
    (xs_UnknownAddress : PySem.W.subIn K (.ref C_UnknownAddress) (.type "BaseException") = some true)
    (xt_UnknownAddress : PySem.W.typeIn K (.ref C_UnknownAddress) = some (.type "type"))
    (xi_UnknownAddress : PySem.W.excInitIn K C_UnknownAddress [.type "LookupError", .type "Exception", .type "BaseException", .type "object"] "LookupError.__new__" = true)
    (xo_UnknownAddress : PySem.W.excOver K C_UnknownAddress [.type "LookupError", .type "Exception", .type "BaseException", .type "object"] = true)
    (xd_UnknownAddress : PySem.W.hasDictIn K C_UnknownAddress = true)
    (xz_UnknownAddress : PySem.W.findIn K (.ref C_UnknownAddress) "__setattr__" = some (some (.builtin "object.__setattr__")))
    (xn_UnknownAddress : PySem.W.findIn K (.ref C_UnknownAddress) "__init__" = some (some (.ref f4)))
    (xf_UnknownAddress : PySem.W.typeIn K (.ref f4) = some (.type "function"))
    (xq_UnknownAddress : PySem.W.findIn K (.ref C_UnknownAddress) "lost" = some none)
    (xg_UnknownAddress : PySem.W.findIn K (.ref C_UnknownAddress) "__getattribute__" = some (some (.builtin "BaseException.__getattribute__")))
    (xh_UnknownAddress : PySem.W.findIn K (.ref C_UnknownAddress) "__getattr__" = some none)
    (xl_UnknownAddress : PySem.W.findIn K (.ref C_UnknownAddress) "__class__" = some (some (.builtin "object.__class__")))
    (xp_UnknownAddress : PySem.W.specialIn K (.builtin "object.__class__") "__get__" = some (some (.builtin "getset_descriptor.__get__")))
    (xu_UnknownAddress : PySem.W.takesIn K (.builtin "object.__class__") = some true)
    (xw_UnknownAddress : PySem.W.mroIn K C_UnknownAddress (.type "object") = some true)
    (gC_InvalidNumber : PySem.W.nsIn K mainGlobals "InvalidNumber" = some (some (.ref C_InvalidNumber)))
    (xk_InvalidNumber : PySem.W.keepIn K (.ref C_InvalidNumber) = true)
    (xs_InvalidNumber : PySem.W.subIn K (.ref C_InvalidNumber) (.type "BaseException") = some true)
    (xt_InvalidNumber : PySem.W.typeIn K (.ref C_InvalidNumber) = some (.type "type"))
    (xi_InvalidNumber : PySem.W.excInitIn K C_InvalidNumber [.type "IndexError", .type "LookupError", .type "Exception", .type "BaseException", .type "object"] "IndexError.__new__" = true)
    (xo_InvalidNumber : PySem.W.excOver K C_InvalidNumber [.type "IndexError", .type "LookupError", .type "Exception", .type "BaseException", .type "object"] = true)
    (xd_InvalidNumber : PySem.W.hasDictIn K C_InvalidNumber = true)
    (xz_InvalidNumber : PySem.W.findIn K (.ref C_InvalidNumber) "__setattr__" = some (some (.builtin "object.__setattr__")))
    (xn_InvalidNumber : PySem.W.findIn K (.ref C_InvalidNumber) "__init__" = some (some (.ref f8)))
    (xf_InvalidNumber : PySem.W.typeIn K (.ref f8) = some (.type "function"))
    (xq_InvalidNumber : PySem.W.findIn K (.ref C_InvalidNumber) "value" = some none)
    (xg_InvalidNumber : PySem.W.findIn K (.ref C_InvalidNumber) "__getattribute__" = some (some (.builtin "BaseException.__getattribute__")))
    (xh_InvalidNumber : PySem.W.findIn K (.ref C_InvalidNumber) "__getattr__" = some none)
    (xl_InvalidNumber : PySem.W.findIn K (.ref C_InvalidNumber) "__class__" = some (some (.builtin "object.__class__")))
    (xp_InvalidNumber : PySem.W.specialIn K (.builtin "object.__class__") "__get__" = some (some (.builtin "getset_descriptor.__get__")))
    (xu_InvalidNumber : PySem.W.takesIn K (.builtin "object.__class__") = some true)
    (xw_InvalidNumber : PySem.W.mroIn K C_InvalidNumber (.type "object") = some true)
    (gC_NothingToUndo : PySem.W.nsIn K mainGlobals "NothingToUndo" = some (some (.ref C_NothingToUndo)))
    (xk_NothingToUndo : PySem.W.keepIn K (.ref C_NothingToUndo) = true)
    (xs_NothingToUndo : PySem.W.subIn K (.ref C_NothingToUndo) (.type "BaseException") = some true)
    (xt_NothingToUndo : PySem.W.typeIn K (.ref C_NothingToUndo) = some (.type "type"))
    (xi_NothingToUndo : PySem.W.excInitIn K C_NothingToUndo [.type "RuntimeError", .type "Exception", .type "BaseException", .type "object"] "RuntimeError.__new__" = true)
    (xo_NothingToUndo : PySem.W.excOver K C_NothingToUndo [.type "RuntimeError", .type "Exception", .type "BaseException", .type "object"] = true)
    (xd_NothingToUndo : PySem.W.hasDictIn K C_NothingToUndo = true)
    (xz_NothingToUndo : PySem.W.findIn K (.ref C_NothingToUndo) "__setattr__" = some (some (.builtin "object.__setattr__")))
    (xn_NothingToUndo : PySem.W.findIn K (.ref C_NothingToUndo) "__init__" = some (some (.ref f9)))
    (xf_NothingToUndo : PySem.W.typeIn K (.ref f9) = some (.type "function"))
    (xq_NothingToUndo : PySem.W.findIn K (.ref C_NothingToUndo) "many" = some none)
    (xg_NothingToUndo : PySem.W.findIn K (.ref C_NothingToUndo) "__getattribute__" = some (some (.builtin "BaseException.__getattribute__")))
    (xh_NothingToUndo : PySem.W.findIn K (.ref C_NothingToUndo) "__getattr__" = some none)
    (xl_NothingToUndo : PySem.W.findIn K (.ref C_NothingToUndo) "__class__" = some (some (.builtin "object.__class__")))
    (xp_NothingToUndo : PySem.W.specialIn K (.builtin "object.__class__") "__get__" = some (some (.builtin "getset_descriptor.__get__")))
    (xu_NothingToUndo : PySem.W.takesIn K (.builtin "object.__class__") = some true)
    (xw_NothingToUndo : PySem.W.mroIn K C_NothingToUndo (.type "object") = some true)
    (gC_TooMany : PySem.W.nsIn K mainGlobals "TooMany" = some (some (.ref C_TooMany)))
    (xk_TooMany : PySem.W.keepIn K (.ref C_TooMany) = true)
    (xs_TooMany : PySem.W.subIn K (.ref C_TooMany) (.type "BaseException") = some true)
    (xt_TooMany : PySem.W.typeIn K (.ref C_TooMany) = some (.type "type"))
    (xi_TooMany : PySem.W.excInitIn K C_TooMany [.type "OverflowError", .type "ArithmeticError", .type "Exception", .type "BaseException", .type "object"] "OverflowError.__new__" = true)
    (xo_TooMany : PySem.W.excOver K C_TooMany [.type "OverflowError", .type "ArithmeticError", .type "Exception", .type "BaseException", .type "object"] = true)
    (xd_TooMany : PySem.W.hasDictIn K C_TooMany = true)
    (xz_TooMany : PySem.W.findIn K (.ref C_TooMany) "__setattr__" = some (some (.builtin "object.__setattr__")))
    (xn_TooMany : PySem.W.findIn K (.ref C_TooMany) "__init__" = some (some (.ref f12)))
    (xf_TooMany : PySem.W.typeIn K (.ref f12) = some (.type "function"))
    (xq_TooMany : PySem.W.findIn K (.ref C_TooMany) "limit" = some none)
    (xg_TooMany : PySem.W.findIn K (.ref C_TooMany) "__getattribute__" = some (some (.builtin "BaseException.__getattribute__")))
    (xh_TooMany : PySem.W.findIn K (.ref C_TooMany) "__getattr__" = some none)
    (xl_TooMany : PySem.W.findIn K (.ref C_TooMany) "__class__" = some (some (.builtin "object.__class__")))
    (xp_TooMany : PySem.W.specialIn K (.builtin "object.__class__") "__get__" = some (some (.builtin "getset_descriptor.__get__")))
    (xu_TooMany : PySem.W.takesIn K (.builtin "object.__class__") = some true)
    (xw_TooMany : PySem.W.mroIn K C_TooMany (.type "object") = some true)
    (gC_Refused : PySem.W.nsIn K mainGlobals "Refused" = some (some (.ref C_Refused)))
    (xk_Refused : PySem.W.keepIn K (.ref C_Refused) = true)
    (xs_Refused : PySem.W.subIn K (.ref C_Refused) (.type "BaseException") = some true)
    (xt_Refused : PySem.W.typeIn K (.ref C_Refused) = some (.type "type"))
    (xi_Refused : PySem.W.excInitIn K C_Refused [.type "ArithmeticError", .type "Exception", .type "BaseException", .type "object"] "ArithmeticError.__new__" = true)
    (xo_Refused : PySem.W.excOver K C_Refused [.type "ArithmeticError", .type "Exception", .type "BaseException", .type "object"] = true)
    (xd_Refused : PySem.W.hasDictIn K C_Refused = true)
    (xz_Refused : PySem.W.findIn K (.ref C_Refused) "__setattr__" = some (some (.builtin "object.__setattr__")))
    (xn_Refused : PySem.W.findIn K (.ref C_Refused) "__init__" = some (some (.ref f11)))
    (xf_Refused : PySem.W.typeIn K (.ref f11) = some (.type "function"))
    (xq_Refused : PySem.W.findIn K (.ref C_Refused) "pledge" = some none)
    (xg_Refused : PySem.W.findIn K (.ref C_Refused) "__getattribute__" = some (some (.builtin "BaseException.__getattribute__")))
    (xh_Refused : PySem.W.findIn K (.ref C_Refused) "__getattr__" = some none)
    (xl_Refused : PySem.W.findIn K (.ref C_Refused) "__class__" = some (some (.builtin "object.__class__")))
    (xp_Refused : PySem.W.specialIn K (.builtin "object.__class__") "__get__" = some (some (.builtin "getset_descriptor.__get__")))
    (xu_Refused : PySem.W.takesIn K (.builtin "object.__class__") = some true)
    (xw_Refused : PySem.W.mroIn K C_Refused (.type "object") = some true)
    (gC_NoQuotient : PySem.W.nsIn K mainGlobals "NoQuotient" = some (some (.ref C_NoQuotient)))
    (xk_NoQuotient : PySem.W.keepIn K (.ref C_NoQuotient) = true)
    (xs_NoQuotient : PySem.W.subIn K (.ref C_NoQuotient) (.type "BaseException") = some true)
    (xt_NoQuotient : PySem.W.typeIn K (.ref C_NoQuotient) = some (.type "type"))
    (xi_NoQuotient : PySem.W.excInitIn K C_NoQuotient [.type "ZeroDivisionError", .type "ArithmeticError", .type "Exception", .type "BaseException", .type "object"] "ZeroDivisionError.__new__" = true)
    (xo_NoQuotient : PySem.W.excOver K C_NoQuotient [.type "ZeroDivisionError", .type "ArithmeticError", .type "Exception", .type "BaseException", .type "object"] = true)
    (xd_NoQuotient : PySem.W.hasDictIn K C_NoQuotient = true)
    (xz_NoQuotient : PySem.W.findIn K (.ref C_NoQuotient) "__setattr__" = some (some (.builtin "object.__setattr__")))
    (xn_NoQuotient : PySem.W.findIn K (.ref C_NoQuotient) "__init__" = some (some (.ref f3)))
    (xf_NoQuotient : PySem.W.typeIn K (.ref f3) = some (.type "function"))
    (xq_NoQuotient : PySem.W.findIn K (.ref C_NoQuotient) "divisor" = some none)
    (xg_NoQuotient : PySem.W.findIn K (.ref C_NoQuotient) "__getattribute__" = some (some (.builtin "BaseException.__getattribute__")))
    (xh_NoQuotient : PySem.W.findIn K (.ref C_NoQuotient) "__getattr__" = some none)
    (xl_NoQuotient : PySem.W.findIn K (.ref C_NoQuotient) "__class__" = some (some (.builtin "object.__class__")))
    (xp_NoQuotient : PySem.W.specialIn K (.builtin "object.__class__") "__get__" = some (some (.builtin "getset_descriptor.__get__")))
    (xu_NoQuotient : PySem.W.takesIn K (.builtin "object.__class__") = some true)
    (xw_NoQuotient : PySem.W.mroIn K C_NoQuotient (.type "object") = some true)
    (xj_LineError_InvalidGrid : PySem.W.kitOne K (.ref C_LineError) (.ref C_InvalidGrid) = some false)
    (xj_LineError_InvalidPoint : PySem.W.kitOne K (.ref C_LineError) (.ref C_InvalidPoint) = some false)
    (xj_LineError_InvalidRule : PySem.W.kitOne K (.ref C_LineError) (.ref C_InvalidRule) = some false)
    (xj_LineError_InvalidScheme : PySem.W.kitOne K (.ref C_LineError) (.ref C_InvalidScheme) = some false)
    (xj_LineError_InvalidStand : PySem.W.kitOne K (.ref C_LineError) (.ref C_InvalidStand) = some false)
    (xj_LineError_InvalidPaper : PySem.W.kitOne K (.ref C_LineError) (.ref C_InvalidPaper) = some false)
    (xj_LineError_InvalidOperation : PySem.W.kitOne K (.ref C_LineError) (.ref C_InvalidOperation) = some false)
    (xj_LineError_ParseError : PySem.W.kitOne K (.ref C_LineError) (.ref C_ParseError) = some false)
    (xj_LineError_UnknownLetter : PySem.W.kitOne K (.ref C_LineError) (.ref C_UnknownLetter) = some false)
    (xj_LineError_UnknownAddress : PySem.W.kitOne K (.ref C_LineError) (.ref C_UnknownAddress) = some false)
    (xj_LineError_InvalidNumber : PySem.W.kitOne K (.ref C_LineError) (.ref C_InvalidNumber) = some false)
    (xj_LineError_NothingToUndo : PySem.W.kitOne K (.ref C_LineError) (.ref C_NothingToUndo) = some false)
    (xj_LineError_TooMany : PySem.W.kitOne K (.ref C_LineError) (.ref C_TooMany) = some false)
    (xj_LineError_Refused : PySem.W.kitOne K (.ref C_LineError) (.ref C_Refused) = some false)
    (xj_LineError_NoQuotient : PySem.W.kitOne K (.ref C_LineError) (.ref C_NoQuotient) = some false)
    (xj_LineError_LineError : PySem.W.kitOne K (.ref C_LineError) (.ref C_LineError) = some true)
    (xj_LineError_ValueError : PySem.W.kitOne K (.ref C_LineError) (.type "ValueError") = some true)
    (xj_LineError_KeyError : PySem.W.kitOne K (.ref C_LineError) (.type "KeyError") = some false)
    (xj_LineError_IndexError : PySem.W.kitOne K (.ref C_LineError) (.type "IndexError") = some false)
    (xj_LineError_LookupError : PySem.W.kitOne K (.ref C_LineError) (.type "LookupError") = some false)
    (xj_LineError_RuntimeError : PySem.W.kitOne K (.ref C_LineError) (.type "RuntimeError") = some false)
    (xj_LineError_OverflowError : PySem.W.kitOne K (.ref C_LineError) (.type "OverflowError") = some false)
    (xj_LineError_ZeroDivisionError : PySem.W.kitOne K (.ref C_LineError) (.type "ZeroDivisionError") = some false)
    (xj_LineError_ArithmeticError : PySem.W.kitOne K (.ref C_LineError) (.type "ArithmeticError") = some false)
    (xj_InvalidGrid_InvalidGrid : PySem.W.kitOne K (.ref C_InvalidGrid) (.ref C_InvalidGrid) = some true)
    (xj_InvalidGrid_InvalidPoint : PySem.W.kitOne K (.ref C_InvalidGrid) (.ref C_InvalidPoint) = some false)
    (xj_InvalidGrid_InvalidRule : PySem.W.kitOne K (.ref C_InvalidGrid) (.ref C_InvalidRule) = some false)
    (xj_InvalidGrid_InvalidScheme : PySem.W.kitOne K (.ref C_InvalidGrid) (.ref C_InvalidScheme) = some false)
    (xj_InvalidGrid_InvalidStand : PySem.W.kitOne K (.ref C_InvalidGrid) (.ref C_InvalidStand) = some false)
    (xj_InvalidGrid_InvalidPaper : PySem.W.kitOne K (.ref C_InvalidGrid) (.ref C_InvalidPaper) = some false)
    (xj_InvalidGrid_InvalidOperation : PySem.W.kitOne K (.ref C_InvalidGrid) (.ref C_InvalidOperation) = some false)
    (xj_InvalidGrid_ParseError : PySem.W.kitOne K (.ref C_InvalidGrid) (.ref C_ParseError) = some false)
    (xj_InvalidGrid_UnknownLetter : PySem.W.kitOne K (.ref C_InvalidGrid) (.ref C_UnknownLetter) = some false)
    (xj_InvalidGrid_UnknownAddress : PySem.W.kitOne K (.ref C_InvalidGrid) (.ref C_UnknownAddress) = some false)
    (xj_InvalidGrid_InvalidNumber : PySem.W.kitOne K (.ref C_InvalidGrid) (.ref C_InvalidNumber) = some false)
    (xj_InvalidGrid_NothingToUndo : PySem.W.kitOne K (.ref C_InvalidGrid) (.ref C_NothingToUndo) = some false)
    (xj_InvalidGrid_TooMany : PySem.W.kitOne K (.ref C_InvalidGrid) (.ref C_TooMany) = some false)
    (xj_InvalidGrid_Refused : PySem.W.kitOne K (.ref C_InvalidGrid) (.ref C_Refused) = some false)
    (xj_InvalidGrid_NoQuotient : PySem.W.kitOne K (.ref C_InvalidGrid) (.ref C_NoQuotient) = some false)
    (xj_InvalidGrid_LineError : PySem.W.kitOne K (.ref C_InvalidGrid) (.ref C_LineError) = some true)
    (xj_InvalidGrid_ValueError : PySem.W.kitOne K (.ref C_InvalidGrid) (.type "ValueError") = some true)
    (xj_InvalidGrid_KeyError : PySem.W.kitOne K (.ref C_InvalidGrid) (.type "KeyError") = some false)
    (xj_InvalidGrid_IndexError : PySem.W.kitOne K (.ref C_InvalidGrid) (.type "IndexError") = some false)
    (xj_InvalidGrid_LookupError : PySem.W.kitOne K (.ref C_InvalidGrid) (.type "LookupError") = some false)
    (xj_InvalidGrid_RuntimeError : PySem.W.kitOne K (.ref C_InvalidGrid) (.type "RuntimeError") = some false)
    (xj_InvalidGrid_OverflowError : PySem.W.kitOne K (.ref C_InvalidGrid) (.type "OverflowError") = some false)
    (xj_InvalidGrid_ZeroDivisionError : PySem.W.kitOne K (.ref C_InvalidGrid) (.type "ZeroDivisionError") = some false)
    (xj_InvalidGrid_ArithmeticError : PySem.W.kitOne K (.ref C_InvalidGrid) (.type "ArithmeticError") = some false)
    (xj_InvalidPoint_InvalidGrid : PySem.W.kitOne K (.ref C_InvalidPoint) (.ref C_InvalidGrid) = some false)
    (xj_InvalidPoint_InvalidPoint : PySem.W.kitOne K (.ref C_InvalidPoint) (.ref C_InvalidPoint) = some true)
    (xj_InvalidPoint_InvalidRule : PySem.W.kitOne K (.ref C_InvalidPoint) (.ref C_InvalidRule) = some false)
    (xj_InvalidPoint_InvalidScheme : PySem.W.kitOne K (.ref C_InvalidPoint) (.ref C_InvalidScheme) = some false)
    (xj_InvalidPoint_InvalidStand : PySem.W.kitOne K (.ref C_InvalidPoint) (.ref C_InvalidStand) = some false)
    (xj_InvalidPoint_InvalidPaper : PySem.W.kitOne K (.ref C_InvalidPoint) (.ref C_InvalidPaper) = some false)
    (xj_InvalidPoint_InvalidOperation : PySem.W.kitOne K (.ref C_InvalidPoint) (.ref C_InvalidOperation) = some false)
    (xj_InvalidPoint_ParseError : PySem.W.kitOne K (.ref C_InvalidPoint) (.ref C_ParseError) = some false)
    (xj_InvalidPoint_UnknownLetter : PySem.W.kitOne K (.ref C_InvalidPoint) (.ref C_UnknownLetter) = some false)
    (xj_InvalidPoint_UnknownAddress : PySem.W.kitOne K (.ref C_InvalidPoint) (.ref C_UnknownAddress) = some false)
    (xj_InvalidPoint_InvalidNumber : PySem.W.kitOne K (.ref C_InvalidPoint) (.ref C_InvalidNumber) = some false)
    (xj_InvalidPoint_NothingToUndo : PySem.W.kitOne K (.ref C_InvalidPoint) (.ref C_NothingToUndo) = some false)
    (xj_InvalidPoint_TooMany : PySem.W.kitOne K (.ref C_InvalidPoint) (.ref C_TooMany) = some false)
    (xj_InvalidPoint_Refused : PySem.W.kitOne K (.ref C_InvalidPoint) (.ref C_Refused) = some false)
    (xj_InvalidPoint_NoQuotient : PySem.W.kitOne K (.ref C_InvalidPoint) (.ref C_NoQuotient) = some false)
    (xj_InvalidPoint_LineError : PySem.W.kitOne K (.ref C_InvalidPoint) (.ref C_LineError) = some true)
    (xj_InvalidPoint_ValueError : PySem.W.kitOne K (.ref C_InvalidPoint) (.type "ValueError") = some true)
    (xj_InvalidPoint_KeyError : PySem.W.kitOne K (.ref C_InvalidPoint) (.type "KeyError") = some false)
    (xj_InvalidPoint_IndexError : PySem.W.kitOne K (.ref C_InvalidPoint) (.type "IndexError") = some false)
    (xj_InvalidPoint_LookupError : PySem.W.kitOne K (.ref C_InvalidPoint) (.type "LookupError") = some false)
    (xj_InvalidPoint_RuntimeError : PySem.W.kitOne K (.ref C_InvalidPoint) (.type "RuntimeError") = some false)
    (xj_InvalidPoint_OverflowError : PySem.W.kitOne K (.ref C_InvalidPoint) (.type "OverflowError") = some false)
    (xj_InvalidPoint_ZeroDivisionError : PySem.W.kitOne K (.ref C_InvalidPoint) (.type "ZeroDivisionError") = some false)
    (xj_InvalidPoint_ArithmeticError : PySem.W.kitOne K (.ref C_InvalidPoint) (.type "ArithmeticError") = some false)
    (xj_InvalidRule_InvalidGrid : PySem.W.kitOne K (.ref C_InvalidRule) (.ref C_InvalidGrid) = some false)
    (xj_InvalidRule_InvalidPoint : PySem.W.kitOne K (.ref C_InvalidRule) (.ref C_InvalidPoint) = some false)
    (xj_InvalidRule_InvalidRule : PySem.W.kitOne K (.ref C_InvalidRule) (.ref C_InvalidRule) = some true)
    (xj_InvalidRule_InvalidScheme : PySem.W.kitOne K (.ref C_InvalidRule) (.ref C_InvalidScheme) = some false)
    (xj_InvalidRule_InvalidStand : PySem.W.kitOne K (.ref C_InvalidRule) (.ref C_InvalidStand) = some false)
    (xj_InvalidRule_InvalidPaper : PySem.W.kitOne K (.ref C_InvalidRule) (.ref C_InvalidPaper) = some false)
    (xj_InvalidRule_InvalidOperation : PySem.W.kitOne K (.ref C_InvalidRule) (.ref C_InvalidOperation) = some false)
    (xj_InvalidRule_ParseError : PySem.W.kitOne K (.ref C_InvalidRule) (.ref C_ParseError) = some false)
    (xj_InvalidRule_UnknownLetter : PySem.W.kitOne K (.ref C_InvalidRule) (.ref C_UnknownLetter) = some false)
    (xj_InvalidRule_UnknownAddress : PySem.W.kitOne K (.ref C_InvalidRule) (.ref C_UnknownAddress) = some false)
    (xj_InvalidRule_InvalidNumber : PySem.W.kitOne K (.ref C_InvalidRule) (.ref C_InvalidNumber) = some false)
    (xj_InvalidRule_NothingToUndo : PySem.W.kitOne K (.ref C_InvalidRule) (.ref C_NothingToUndo) = some false)
    (xj_InvalidRule_TooMany : PySem.W.kitOne K (.ref C_InvalidRule) (.ref C_TooMany) = some false)
    (xj_InvalidRule_Refused : PySem.W.kitOne K (.ref C_InvalidRule) (.ref C_Refused) = some false)
    (xj_InvalidRule_NoQuotient : PySem.W.kitOne K (.ref C_InvalidRule) (.ref C_NoQuotient) = some false)
    (xj_InvalidRule_LineError : PySem.W.kitOne K (.ref C_InvalidRule) (.ref C_LineError) = some true)
    (xj_InvalidRule_ValueError : PySem.W.kitOne K (.ref C_InvalidRule) (.type "ValueError") = some true)
    (xj_InvalidRule_KeyError : PySem.W.kitOne K (.ref C_InvalidRule) (.type "KeyError") = some false)
    (xj_InvalidRule_IndexError : PySem.W.kitOne K (.ref C_InvalidRule) (.type "IndexError") = some false)
    (xj_InvalidRule_LookupError : PySem.W.kitOne K (.ref C_InvalidRule) (.type "LookupError") = some false)
    (xj_InvalidRule_RuntimeError : PySem.W.kitOne K (.ref C_InvalidRule) (.type "RuntimeError") = some false)
    (xj_InvalidRule_OverflowError : PySem.W.kitOne K (.ref C_InvalidRule) (.type "OverflowError") = some false)
    (xj_InvalidRule_ZeroDivisionError : PySem.W.kitOne K (.ref C_InvalidRule) (.type "ZeroDivisionError") = some false)
    (xj_InvalidRule_ArithmeticError : PySem.W.kitOne K (.ref C_InvalidRule) (.type "ArithmeticError") = some false)
    (xj_InvalidScheme_InvalidGrid : PySem.W.kitOne K (.ref C_InvalidScheme) (.ref C_InvalidGrid) = some false)
    (xj_InvalidScheme_InvalidPoint : PySem.W.kitOne K (.ref C_InvalidScheme) (.ref C_InvalidPoint) = some false)
    (xj_InvalidScheme_InvalidRule : PySem.W.kitOne K (.ref C_InvalidScheme) (.ref C_InvalidRule) = some false)
    (xj_InvalidScheme_InvalidScheme : PySem.W.kitOne K (.ref C_InvalidScheme) (.ref C_InvalidScheme) = some true)
    (xj_InvalidScheme_InvalidStand : PySem.W.kitOne K (.ref C_InvalidScheme) (.ref C_InvalidStand) = some false)
    (xj_InvalidScheme_InvalidPaper : PySem.W.kitOne K (.ref C_InvalidScheme) (.ref C_InvalidPaper) = some false)
    (xj_InvalidScheme_InvalidOperation : PySem.W.kitOne K (.ref C_InvalidScheme) (.ref C_InvalidOperation) = some false)
    (xj_InvalidScheme_ParseError : PySem.W.kitOne K (.ref C_InvalidScheme) (.ref C_ParseError) = some false)
    (xj_InvalidScheme_UnknownLetter : PySem.W.kitOne K (.ref C_InvalidScheme) (.ref C_UnknownLetter) = some false)
    (xj_InvalidScheme_UnknownAddress : PySem.W.kitOne K (.ref C_InvalidScheme) (.ref C_UnknownAddress) = some false)
    (xj_InvalidScheme_InvalidNumber : PySem.W.kitOne K (.ref C_InvalidScheme) (.ref C_InvalidNumber) = some false)
    (xj_InvalidScheme_NothingToUndo : PySem.W.kitOne K (.ref C_InvalidScheme) (.ref C_NothingToUndo) = some false)
    (xj_InvalidScheme_TooMany : PySem.W.kitOne K (.ref C_InvalidScheme) (.ref C_TooMany) = some false)
    (xj_InvalidScheme_Refused : PySem.W.kitOne K (.ref C_InvalidScheme) (.ref C_Refused) = some false)
    (xj_InvalidScheme_NoQuotient : PySem.W.kitOne K (.ref C_InvalidScheme) (.ref C_NoQuotient) = some false)
    (xj_InvalidScheme_LineError : PySem.W.kitOne K (.ref C_InvalidScheme) (.ref C_LineError) = some true)
    (xj_InvalidScheme_ValueError : PySem.W.kitOne K (.ref C_InvalidScheme) (.type "ValueError") = some true)
    (xj_InvalidScheme_KeyError : PySem.W.kitOne K (.ref C_InvalidScheme) (.type "KeyError") = some false)
    (xj_InvalidScheme_IndexError : PySem.W.kitOne K (.ref C_InvalidScheme) (.type "IndexError") = some false)
    (xj_InvalidScheme_LookupError : PySem.W.kitOne K (.ref C_InvalidScheme) (.type "LookupError") = some false)
    (xj_InvalidScheme_RuntimeError : PySem.W.kitOne K (.ref C_InvalidScheme) (.type "RuntimeError") = some false)
    (xj_InvalidScheme_OverflowError : PySem.W.kitOne K (.ref C_InvalidScheme) (.type "OverflowError") = some false)
    (xj_InvalidScheme_ZeroDivisionError : PySem.W.kitOne K (.ref C_InvalidScheme) (.type "ZeroDivisionError") = some false)
    (xj_InvalidScheme_ArithmeticError : PySem.W.kitOne K (.ref C_InvalidScheme) (.type "ArithmeticError") = some false)
    (xj_InvalidStand_InvalidGrid : PySem.W.kitOne K (.ref C_InvalidStand) (.ref C_InvalidGrid) = some false)
    (xj_InvalidStand_InvalidPoint : PySem.W.kitOne K (.ref C_InvalidStand) (.ref C_InvalidPoint) = some false)
    (xj_InvalidStand_InvalidRule : PySem.W.kitOne K (.ref C_InvalidStand) (.ref C_InvalidRule) = some false)
    (xj_InvalidStand_InvalidScheme : PySem.W.kitOne K (.ref C_InvalidStand) (.ref C_InvalidScheme) = some false)
    (xj_InvalidStand_InvalidStand : PySem.W.kitOne K (.ref C_InvalidStand) (.ref C_InvalidStand) = some true)
    (xj_InvalidStand_InvalidPaper : PySem.W.kitOne K (.ref C_InvalidStand) (.ref C_InvalidPaper) = some false)
    (xj_InvalidStand_InvalidOperation : PySem.W.kitOne K (.ref C_InvalidStand) (.ref C_InvalidOperation) = some false)
    (xj_InvalidStand_ParseError : PySem.W.kitOne K (.ref C_InvalidStand) (.ref C_ParseError) = some false)
    (xj_InvalidStand_UnknownLetter : PySem.W.kitOne K (.ref C_InvalidStand) (.ref C_UnknownLetter) = some false)
    (xj_InvalidStand_UnknownAddress : PySem.W.kitOne K (.ref C_InvalidStand) (.ref C_UnknownAddress) = some false)
    (xj_InvalidStand_InvalidNumber : PySem.W.kitOne K (.ref C_InvalidStand) (.ref C_InvalidNumber) = some false)
    (xj_InvalidStand_NothingToUndo : PySem.W.kitOne K (.ref C_InvalidStand) (.ref C_NothingToUndo) = some false)
    (xj_InvalidStand_TooMany : PySem.W.kitOne K (.ref C_InvalidStand) (.ref C_TooMany) = some false)
    (xj_InvalidStand_Refused : PySem.W.kitOne K (.ref C_InvalidStand) (.ref C_Refused) = some false)
    (xj_InvalidStand_NoQuotient : PySem.W.kitOne K (.ref C_InvalidStand) (.ref C_NoQuotient) = some false)
    (xj_InvalidStand_LineError : PySem.W.kitOne K (.ref C_InvalidStand) (.ref C_LineError) = some true)
    (xj_InvalidStand_ValueError : PySem.W.kitOne K (.ref C_InvalidStand) (.type "ValueError") = some true)
    (xj_InvalidStand_KeyError : PySem.W.kitOne K (.ref C_InvalidStand) (.type "KeyError") = some false)
    (xj_InvalidStand_IndexError : PySem.W.kitOne K (.ref C_InvalidStand) (.type "IndexError") = some false)
    (xj_InvalidStand_LookupError : PySem.W.kitOne K (.ref C_InvalidStand) (.type "LookupError") = some false)
    (xj_InvalidStand_RuntimeError : PySem.W.kitOne K (.ref C_InvalidStand) (.type "RuntimeError") = some false)
    (xj_InvalidStand_OverflowError : PySem.W.kitOne K (.ref C_InvalidStand) (.type "OverflowError") = some false)
    (xj_InvalidStand_ZeroDivisionError : PySem.W.kitOne K (.ref C_InvalidStand) (.type "ZeroDivisionError") = some false)
    (xj_InvalidStand_ArithmeticError : PySem.W.kitOne K (.ref C_InvalidStand) (.type "ArithmeticError") = some false)
    (xj_InvalidPaper_InvalidGrid : PySem.W.kitOne K (.ref C_InvalidPaper) (.ref C_InvalidGrid) = some false)
    (xj_InvalidPaper_InvalidPoint : PySem.W.kitOne K (.ref C_InvalidPaper) (.ref C_InvalidPoint) = some false)
    (xj_InvalidPaper_InvalidRule : PySem.W.kitOne K (.ref C_InvalidPaper) (.ref C_InvalidRule) = some false)
    (xj_InvalidPaper_InvalidScheme : PySem.W.kitOne K (.ref C_InvalidPaper) (.ref C_InvalidScheme) = some false)
    (xj_InvalidPaper_InvalidStand : PySem.W.kitOne K (.ref C_InvalidPaper) (.ref C_InvalidStand) = some false)
    (xj_InvalidPaper_InvalidPaper : PySem.W.kitOne K (.ref C_InvalidPaper) (.ref C_InvalidPaper) = some true)
    (xj_InvalidPaper_InvalidOperation : PySem.W.kitOne K (.ref C_InvalidPaper) (.ref C_InvalidOperation) = some false)
    (xj_InvalidPaper_ParseError : PySem.W.kitOne K (.ref C_InvalidPaper) (.ref C_ParseError) = some false)
    (xj_InvalidPaper_UnknownLetter : PySem.W.kitOne K (.ref C_InvalidPaper) (.ref C_UnknownLetter) = some false)
    (xj_InvalidPaper_UnknownAddress : PySem.W.kitOne K (.ref C_InvalidPaper) (.ref C_UnknownAddress) = some false)
    (xj_InvalidPaper_InvalidNumber : PySem.W.kitOne K (.ref C_InvalidPaper) (.ref C_InvalidNumber) = some false)
    (xj_InvalidPaper_NothingToUndo : PySem.W.kitOne K (.ref C_InvalidPaper) (.ref C_NothingToUndo) = some false)
    (xj_InvalidPaper_TooMany : PySem.W.kitOne K (.ref C_InvalidPaper) (.ref C_TooMany) = some false)
    (xj_InvalidPaper_Refused : PySem.W.kitOne K (.ref C_InvalidPaper) (.ref C_Refused) = some false)
    (xj_InvalidPaper_NoQuotient : PySem.W.kitOne K (.ref C_InvalidPaper) (.ref C_NoQuotient) = some false)
    (xj_InvalidPaper_LineError : PySem.W.kitOne K (.ref C_InvalidPaper) (.ref C_LineError) = some true)
    (xj_InvalidPaper_ValueError : PySem.W.kitOne K (.ref C_InvalidPaper) (.type "ValueError") = some true)
    (xj_InvalidPaper_KeyError : PySem.W.kitOne K (.ref C_InvalidPaper) (.type "KeyError") = some false)
    (xj_InvalidPaper_IndexError : PySem.W.kitOne K (.ref C_InvalidPaper) (.type "IndexError") = some false)
    (xj_InvalidPaper_LookupError : PySem.W.kitOne K (.ref C_InvalidPaper) (.type "LookupError") = some false)
    (xj_InvalidPaper_RuntimeError : PySem.W.kitOne K (.ref C_InvalidPaper) (.type "RuntimeError") = some false)
    (xj_InvalidPaper_OverflowError : PySem.W.kitOne K (.ref C_InvalidPaper) (.type "OverflowError") = some false)
    (xj_InvalidPaper_ZeroDivisionError : PySem.W.kitOne K (.ref C_InvalidPaper) (.type "ZeroDivisionError") = some false)
    (xj_InvalidPaper_ArithmeticError : PySem.W.kitOne K (.ref C_InvalidPaper) (.type "ArithmeticError") = some false)
    (xj_InvalidOperation_InvalidGrid : PySem.W.kitOne K (.ref C_InvalidOperation) (.ref C_InvalidGrid) = some false)
    (xj_InvalidOperation_InvalidPoint : PySem.W.kitOne K (.ref C_InvalidOperation) (.ref C_InvalidPoint) = some false)
    (xj_InvalidOperation_InvalidRule : PySem.W.kitOne K (.ref C_InvalidOperation) (.ref C_InvalidRule) = some false)
    (xj_InvalidOperation_InvalidScheme : PySem.W.kitOne K (.ref C_InvalidOperation) (.ref C_InvalidScheme) = some false)
    (xj_InvalidOperation_InvalidStand : PySem.W.kitOne K (.ref C_InvalidOperation) (.ref C_InvalidStand) = some false)
    (xj_InvalidOperation_InvalidPaper : PySem.W.kitOne K (.ref C_InvalidOperation) (.ref C_InvalidPaper) = some false)
    (xj_InvalidOperation_InvalidOperation : PySem.W.kitOne K (.ref C_InvalidOperation) (.ref C_InvalidOperation) = some true)
    (xj_InvalidOperation_ParseError : PySem.W.kitOne K (.ref C_InvalidOperation) (.ref C_ParseError) = some false)
    (xj_InvalidOperation_UnknownLetter : PySem.W.kitOne K (.ref C_InvalidOperation) (.ref C_UnknownLetter) = some false)
    (xj_InvalidOperation_UnknownAddress : PySem.W.kitOne K (.ref C_InvalidOperation) (.ref C_UnknownAddress) = some false)
    (xj_InvalidOperation_InvalidNumber : PySem.W.kitOne K (.ref C_InvalidOperation) (.ref C_InvalidNumber) = some false)
    (xj_InvalidOperation_NothingToUndo : PySem.W.kitOne K (.ref C_InvalidOperation) (.ref C_NothingToUndo) = some false)
    (xj_InvalidOperation_TooMany : PySem.W.kitOne K (.ref C_InvalidOperation) (.ref C_TooMany) = some false)
    (xj_InvalidOperation_Refused : PySem.W.kitOne K (.ref C_InvalidOperation) (.ref C_Refused) = some false)
    (xj_InvalidOperation_NoQuotient : PySem.W.kitOne K (.ref C_InvalidOperation) (.ref C_NoQuotient) = some false)
    (xj_InvalidOperation_LineError : PySem.W.kitOne K (.ref C_InvalidOperation) (.ref C_LineError) = some true)
    (xj_InvalidOperation_ValueError : PySem.W.kitOne K (.ref C_InvalidOperation) (.type "ValueError") = some true)
    (xj_InvalidOperation_KeyError : PySem.W.kitOne K (.ref C_InvalidOperation) (.type "KeyError") = some false)
    (xj_InvalidOperation_IndexError : PySem.W.kitOne K (.ref C_InvalidOperation) (.type "IndexError") = some false)
    (xj_InvalidOperation_LookupError : PySem.W.kitOne K (.ref C_InvalidOperation) (.type "LookupError") = some false)
    (xj_InvalidOperation_RuntimeError : PySem.W.kitOne K (.ref C_InvalidOperation) (.type "RuntimeError") = some false)
    (xj_InvalidOperation_OverflowError : PySem.W.kitOne K (.ref C_InvalidOperation) (.type "OverflowError") = some false)
    (xj_InvalidOperation_ZeroDivisionError : PySem.W.kitOne K (.ref C_InvalidOperation) (.type "ZeroDivisionError") = some false)
    (xj_InvalidOperation_ArithmeticError : PySem.W.kitOne K (.ref C_InvalidOperation) (.type "ArithmeticError") = some false)
    (xj_ParseError_InvalidGrid : PySem.W.kitOne K (.ref C_ParseError) (.ref C_InvalidGrid) = some false)
    (xj_ParseError_InvalidPoint : PySem.W.kitOne K (.ref C_ParseError) (.ref C_InvalidPoint) = some false)
    (xj_ParseError_InvalidRule : PySem.W.kitOne K (.ref C_ParseError) (.ref C_InvalidRule) = some false)
    (xj_ParseError_InvalidScheme : PySem.W.kitOne K (.ref C_ParseError) (.ref C_InvalidScheme) = some false)
    (xj_ParseError_InvalidStand : PySem.W.kitOne K (.ref C_ParseError) (.ref C_InvalidStand) = some false)
    (xj_ParseError_InvalidPaper : PySem.W.kitOne K (.ref C_ParseError) (.ref C_InvalidPaper) = some false)
    (xj_ParseError_InvalidOperation : PySem.W.kitOne K (.ref C_ParseError) (.ref C_InvalidOperation) = some false)
    (xj_ParseError_ParseError : PySem.W.kitOne K (.ref C_ParseError) (.ref C_ParseError) = some true)
    (xj_ParseError_UnknownLetter : PySem.W.kitOne K (.ref C_ParseError) (.ref C_UnknownLetter) = some false)
    (xj_ParseError_UnknownAddress : PySem.W.kitOne K (.ref C_ParseError) (.ref C_UnknownAddress) = some false)
    (xj_ParseError_InvalidNumber : PySem.W.kitOne K (.ref C_ParseError) (.ref C_InvalidNumber) = some false)
    (xj_ParseError_NothingToUndo : PySem.W.kitOne K (.ref C_ParseError) (.ref C_NothingToUndo) = some false)
    (xj_ParseError_TooMany : PySem.W.kitOne K (.ref C_ParseError) (.ref C_TooMany) = some false)
    (xj_ParseError_Refused : PySem.W.kitOne K (.ref C_ParseError) (.ref C_Refused) = some false)
    (xj_ParseError_NoQuotient : PySem.W.kitOne K (.ref C_ParseError) (.ref C_NoQuotient) = some false)
    (xj_ParseError_LineError : PySem.W.kitOne K (.ref C_ParseError) (.ref C_LineError) = some true)
    (xj_ParseError_ValueError : PySem.W.kitOne K (.ref C_ParseError) (.type "ValueError") = some true)
    (xj_ParseError_KeyError : PySem.W.kitOne K (.ref C_ParseError) (.type "KeyError") = some false)
    (xj_ParseError_IndexError : PySem.W.kitOne K (.ref C_ParseError) (.type "IndexError") = some false)
    (xj_ParseError_LookupError : PySem.W.kitOne K (.ref C_ParseError) (.type "LookupError") = some false)
    (xj_ParseError_RuntimeError : PySem.W.kitOne K (.ref C_ParseError) (.type "RuntimeError") = some false)
    (xj_ParseError_OverflowError : PySem.W.kitOne K (.ref C_ParseError) (.type "OverflowError") = some false)
    (xj_ParseError_ZeroDivisionError : PySem.W.kitOne K (.ref C_ParseError) (.type "ZeroDivisionError") = some false)
    (xj_ParseError_ArithmeticError : PySem.W.kitOne K (.ref C_ParseError) (.type "ArithmeticError") = some false)
    (xj_UnknownLetter_InvalidGrid : PySem.W.kitOne K (.ref C_UnknownLetter) (.ref C_InvalidGrid) = some false)
    (xj_UnknownLetter_InvalidPoint : PySem.W.kitOne K (.ref C_UnknownLetter) (.ref C_InvalidPoint) = some false)
    (xj_UnknownLetter_InvalidRule : PySem.W.kitOne K (.ref C_UnknownLetter) (.ref C_InvalidRule) = some false)
    (xj_UnknownLetter_InvalidScheme : PySem.W.kitOne K (.ref C_UnknownLetter) (.ref C_InvalidScheme) = some false)
    (xj_UnknownLetter_InvalidStand : PySem.W.kitOne K (.ref C_UnknownLetter) (.ref C_InvalidStand) = some false)
    (xj_UnknownLetter_InvalidPaper : PySem.W.kitOne K (.ref C_UnknownLetter) (.ref C_InvalidPaper) = some false)
    (xj_UnknownLetter_InvalidOperation : PySem.W.kitOne K (.ref C_UnknownLetter) (.ref C_InvalidOperation) = some false)
    (xj_UnknownLetter_ParseError : PySem.W.kitOne K (.ref C_UnknownLetter) (.ref C_ParseError) = some false)
    (xj_UnknownLetter_UnknownLetter : PySem.W.kitOne K (.ref C_UnknownLetter) (.ref C_UnknownLetter) = some true)
    (xj_UnknownLetter_UnknownAddress : PySem.W.kitOne K (.ref C_UnknownLetter) (.ref C_UnknownAddress) = some false)
    (xj_UnknownLetter_InvalidNumber : PySem.W.kitOne K (.ref C_UnknownLetter) (.ref C_InvalidNumber) = some false)
    (xj_UnknownLetter_NothingToUndo : PySem.W.kitOne K (.ref C_UnknownLetter) (.ref C_NothingToUndo) = some false)
    (xj_UnknownLetter_TooMany : PySem.W.kitOne K (.ref C_UnknownLetter) (.ref C_TooMany) = some false)
    (xj_UnknownLetter_Refused : PySem.W.kitOne K (.ref C_UnknownLetter) (.ref C_Refused) = some false)
    (xj_UnknownLetter_NoQuotient : PySem.W.kitOne K (.ref C_UnknownLetter) (.ref C_NoQuotient) = some false)
    (xj_UnknownLetter_LineError : PySem.W.kitOne K (.ref C_UnknownLetter) (.ref C_LineError) = some false)
    (xj_UnknownLetter_ValueError : PySem.W.kitOne K (.ref C_UnknownLetter) (.type "ValueError") = some false)
    (xj_UnknownLetter_KeyError : PySem.W.kitOne K (.ref C_UnknownLetter) (.type "KeyError") = some true)
    (xj_UnknownLetter_IndexError : PySem.W.kitOne K (.ref C_UnknownLetter) (.type "IndexError") = some false)
    (xj_UnknownLetter_LookupError : PySem.W.kitOne K (.ref C_UnknownLetter) (.type "LookupError") = some true)
    (xj_UnknownLetter_RuntimeError : PySem.W.kitOne K (.ref C_UnknownLetter) (.type "RuntimeError") = some false)
    (xj_UnknownLetter_OverflowError : PySem.W.kitOne K (.ref C_UnknownLetter) (.type "OverflowError") = some false)
    (xj_UnknownLetter_ZeroDivisionError : PySem.W.kitOne K (.ref C_UnknownLetter) (.type "ZeroDivisionError") = some false)
    (xj_UnknownLetter_ArithmeticError : PySem.W.kitOne K (.ref C_UnknownLetter) (.type "ArithmeticError") = some false)
    (xj_UnknownAddress_InvalidGrid : PySem.W.kitOne K (.ref C_UnknownAddress) (.ref C_InvalidGrid) = some false)
    (xj_UnknownAddress_InvalidPoint : PySem.W.kitOne K (.ref C_UnknownAddress) (.ref C_InvalidPoint) = some false)
    (xj_UnknownAddress_InvalidRule : PySem.W.kitOne K (.ref C_UnknownAddress) (.ref C_InvalidRule) = some false)
    (xj_UnknownAddress_InvalidScheme : PySem.W.kitOne K (.ref C_UnknownAddress) (.ref C_InvalidScheme) = some false)
    (xj_UnknownAddress_InvalidStand : PySem.W.kitOne K (.ref C_UnknownAddress) (.ref C_InvalidStand) = some false)
    (xj_UnknownAddress_InvalidPaper : PySem.W.kitOne K (.ref C_UnknownAddress) (.ref C_InvalidPaper) = some false)
    (xj_UnknownAddress_InvalidOperation : PySem.W.kitOne K (.ref C_UnknownAddress) (.ref C_InvalidOperation) = some false)
    (xj_UnknownAddress_ParseError : PySem.W.kitOne K (.ref C_UnknownAddress) (.ref C_ParseError) = some false)
    (xj_UnknownAddress_UnknownLetter : PySem.W.kitOne K (.ref C_UnknownAddress) (.ref C_UnknownLetter) = some false)
    (xj_UnknownAddress_UnknownAddress : PySem.W.kitOne K (.ref C_UnknownAddress) (.ref C_UnknownAddress) = some true)
    (xj_UnknownAddress_InvalidNumber : PySem.W.kitOne K (.ref C_UnknownAddress) (.ref C_InvalidNumber) = some false)
    (xj_UnknownAddress_NothingToUndo : PySem.W.kitOne K (.ref C_UnknownAddress) (.ref C_NothingToUndo) = some false)
    (xj_UnknownAddress_TooMany : PySem.W.kitOne K (.ref C_UnknownAddress) (.ref C_TooMany) = some false)
    (xj_UnknownAddress_Refused : PySem.W.kitOne K (.ref C_UnknownAddress) (.ref C_Refused) = some false)
    (xj_UnknownAddress_NoQuotient : PySem.W.kitOne K (.ref C_UnknownAddress) (.ref C_NoQuotient) = some false)
    (xj_UnknownAddress_LineError : PySem.W.kitOne K (.ref C_UnknownAddress) (.ref C_LineError) = some false)
    (xj_UnknownAddress_ValueError : PySem.W.kitOne K (.ref C_UnknownAddress) (.type "ValueError") = some false)
    (xj_UnknownAddress_KeyError : PySem.W.kitOne K (.ref C_UnknownAddress) (.type "KeyError") = some false)
    (xj_UnknownAddress_IndexError : PySem.W.kitOne K (.ref C_UnknownAddress) (.type "IndexError") = some false)
    (xj_UnknownAddress_LookupError : PySem.W.kitOne K (.ref C_UnknownAddress) (.type "LookupError") = some true)
    (xj_UnknownAddress_RuntimeError : PySem.W.kitOne K (.ref C_UnknownAddress) (.type "RuntimeError") = some false)
    (xj_UnknownAddress_OverflowError : PySem.W.kitOne K (.ref C_UnknownAddress) (.type "OverflowError") = some false)
    (xj_UnknownAddress_ZeroDivisionError : PySem.W.kitOne K (.ref C_UnknownAddress) (.type "ZeroDivisionError") = some false)
    (xj_UnknownAddress_ArithmeticError : PySem.W.kitOne K (.ref C_UnknownAddress) (.type "ArithmeticError") = some false)
    (xj_InvalidNumber_InvalidGrid : PySem.W.kitOne K (.ref C_InvalidNumber) (.ref C_InvalidGrid) = some false)
    (xj_InvalidNumber_InvalidPoint : PySem.W.kitOne K (.ref C_InvalidNumber) (.ref C_InvalidPoint) = some false)
    (xj_InvalidNumber_InvalidRule : PySem.W.kitOne K (.ref C_InvalidNumber) (.ref C_InvalidRule) = some false)
    (xj_InvalidNumber_InvalidScheme : PySem.W.kitOne K (.ref C_InvalidNumber) (.ref C_InvalidScheme) = some false)
    (xj_InvalidNumber_InvalidStand : PySem.W.kitOne K (.ref C_InvalidNumber) (.ref C_InvalidStand) = some false)
    (xj_InvalidNumber_InvalidPaper : PySem.W.kitOne K (.ref C_InvalidNumber) (.ref C_InvalidPaper) = some false)
    (xj_InvalidNumber_InvalidOperation : PySem.W.kitOne K (.ref C_InvalidNumber) (.ref C_InvalidOperation) = some false)
    (xj_InvalidNumber_ParseError : PySem.W.kitOne K (.ref C_InvalidNumber) (.ref C_ParseError) = some false)
    (xj_InvalidNumber_UnknownLetter : PySem.W.kitOne K (.ref C_InvalidNumber) (.ref C_UnknownLetter) = some false)
    (xj_InvalidNumber_UnknownAddress : PySem.W.kitOne K (.ref C_InvalidNumber) (.ref C_UnknownAddress) = some false)
    (xj_InvalidNumber_InvalidNumber : PySem.W.kitOne K (.ref C_InvalidNumber) (.ref C_InvalidNumber) = some true)
    (xj_InvalidNumber_NothingToUndo : PySem.W.kitOne K (.ref C_InvalidNumber) (.ref C_NothingToUndo) = some false)
    (xj_InvalidNumber_TooMany : PySem.W.kitOne K (.ref C_InvalidNumber) (.ref C_TooMany) = some false)
    (xj_InvalidNumber_Refused : PySem.W.kitOne K (.ref C_InvalidNumber) (.ref C_Refused) = some false)
    (xj_InvalidNumber_NoQuotient : PySem.W.kitOne K (.ref C_InvalidNumber) (.ref C_NoQuotient) = some false)
    (xj_InvalidNumber_LineError : PySem.W.kitOne K (.ref C_InvalidNumber) (.ref C_LineError) = some false)
    (xj_InvalidNumber_ValueError : PySem.W.kitOne K (.ref C_InvalidNumber) (.type "ValueError") = some false)
    (xj_InvalidNumber_KeyError : PySem.W.kitOne K (.ref C_InvalidNumber) (.type "KeyError") = some false)
    (xj_InvalidNumber_IndexError : PySem.W.kitOne K (.ref C_InvalidNumber) (.type "IndexError") = some true)
    (xj_InvalidNumber_LookupError : PySem.W.kitOne K (.ref C_InvalidNumber) (.type "LookupError") = some true)
    (xj_InvalidNumber_RuntimeError : PySem.W.kitOne K (.ref C_InvalidNumber) (.type "RuntimeError") = some false)
    (xj_InvalidNumber_OverflowError : PySem.W.kitOne K (.ref C_InvalidNumber) (.type "OverflowError") = some false)
    (xj_InvalidNumber_ZeroDivisionError : PySem.W.kitOne K (.ref C_InvalidNumber) (.type "ZeroDivisionError") = some false)
    (xj_InvalidNumber_ArithmeticError : PySem.W.kitOne K (.ref C_InvalidNumber) (.type "ArithmeticError") = some false)
    (xj_NothingToUndo_InvalidGrid : PySem.W.kitOne K (.ref C_NothingToUndo) (.ref C_InvalidGrid) = some false)
    (xj_NothingToUndo_InvalidPoint : PySem.W.kitOne K (.ref C_NothingToUndo) (.ref C_InvalidPoint) = some false)
    (xj_NothingToUndo_InvalidRule : PySem.W.kitOne K (.ref C_NothingToUndo) (.ref C_InvalidRule) = some false)
    (xj_NothingToUndo_InvalidScheme : PySem.W.kitOne K (.ref C_NothingToUndo) (.ref C_InvalidScheme) = some false)
    (xj_NothingToUndo_InvalidStand : PySem.W.kitOne K (.ref C_NothingToUndo) (.ref C_InvalidStand) = some false)
    (xj_NothingToUndo_InvalidPaper : PySem.W.kitOne K (.ref C_NothingToUndo) (.ref C_InvalidPaper) = some false)
    (xj_NothingToUndo_InvalidOperation : PySem.W.kitOne K (.ref C_NothingToUndo) (.ref C_InvalidOperation) = some false)
    (xj_NothingToUndo_ParseError : PySem.W.kitOne K (.ref C_NothingToUndo) (.ref C_ParseError) = some false)
    (xj_NothingToUndo_UnknownLetter : PySem.W.kitOne K (.ref C_NothingToUndo) (.ref C_UnknownLetter) = some false)
    (xj_NothingToUndo_UnknownAddress : PySem.W.kitOne K (.ref C_NothingToUndo) (.ref C_UnknownAddress) = some false)
    (xj_NothingToUndo_InvalidNumber : PySem.W.kitOne K (.ref C_NothingToUndo) (.ref C_InvalidNumber) = some false)
    (xj_NothingToUndo_NothingToUndo : PySem.W.kitOne K (.ref C_NothingToUndo) (.ref C_NothingToUndo) = some true)
    (xj_NothingToUndo_TooMany : PySem.W.kitOne K (.ref C_NothingToUndo) (.ref C_TooMany) = some false)
    (xj_NothingToUndo_Refused : PySem.W.kitOne K (.ref C_NothingToUndo) (.ref C_Refused) = some false)
    (xj_NothingToUndo_NoQuotient : PySem.W.kitOne K (.ref C_NothingToUndo) (.ref C_NoQuotient) = some false)
    (xj_NothingToUndo_LineError : PySem.W.kitOne K (.ref C_NothingToUndo) (.ref C_LineError) = some false)
    (xj_NothingToUndo_ValueError : PySem.W.kitOne K (.ref C_NothingToUndo) (.type "ValueError") = some false)
    (xj_NothingToUndo_KeyError : PySem.W.kitOne K (.ref C_NothingToUndo) (.type "KeyError") = some false)
    (xj_NothingToUndo_IndexError : PySem.W.kitOne K (.ref C_NothingToUndo) (.type "IndexError") = some false)
    (xj_NothingToUndo_LookupError : PySem.W.kitOne K (.ref C_NothingToUndo) (.type "LookupError") = some false)
    (xj_NothingToUndo_RuntimeError : PySem.W.kitOne K (.ref C_NothingToUndo) (.type "RuntimeError") = some true)
    (xj_NothingToUndo_OverflowError : PySem.W.kitOne K (.ref C_NothingToUndo) (.type "OverflowError") = some false)
    (xj_NothingToUndo_ZeroDivisionError : PySem.W.kitOne K (.ref C_NothingToUndo) (.type "ZeroDivisionError") = some false)
    (xj_NothingToUndo_ArithmeticError : PySem.W.kitOne K (.ref C_NothingToUndo) (.type "ArithmeticError") = some false)
    (xj_TooMany_InvalidGrid : PySem.W.kitOne K (.ref C_TooMany) (.ref C_InvalidGrid) = some false)
    (xj_TooMany_InvalidPoint : PySem.W.kitOne K (.ref C_TooMany) (.ref C_InvalidPoint) = some false)
    (xj_TooMany_InvalidRule : PySem.W.kitOne K (.ref C_TooMany) (.ref C_InvalidRule) = some false)
    (xj_TooMany_InvalidScheme : PySem.W.kitOne K (.ref C_TooMany) (.ref C_InvalidScheme) = some false)
    (xj_TooMany_InvalidStand : PySem.W.kitOne K (.ref C_TooMany) (.ref C_InvalidStand) = some false)
    (xj_TooMany_InvalidPaper : PySem.W.kitOne K (.ref C_TooMany) (.ref C_InvalidPaper) = some false)
    (xj_TooMany_InvalidOperation : PySem.W.kitOne K (.ref C_TooMany) (.ref C_InvalidOperation) = some false)
    (xj_TooMany_ParseError : PySem.W.kitOne K (.ref C_TooMany) (.ref C_ParseError) = some false)
    (xj_TooMany_UnknownLetter : PySem.W.kitOne K (.ref C_TooMany) (.ref C_UnknownLetter) = some false)
    (xj_TooMany_UnknownAddress : PySem.W.kitOne K (.ref C_TooMany) (.ref C_UnknownAddress) = some false)
    (xj_TooMany_InvalidNumber : PySem.W.kitOne K (.ref C_TooMany) (.ref C_InvalidNumber) = some false)
    (xj_TooMany_NothingToUndo : PySem.W.kitOne K (.ref C_TooMany) (.ref C_NothingToUndo) = some false)
    (xj_TooMany_TooMany : PySem.W.kitOne K (.ref C_TooMany) (.ref C_TooMany) = some true)
    (xj_TooMany_Refused : PySem.W.kitOne K (.ref C_TooMany) (.ref C_Refused) = some false)
    (xj_TooMany_NoQuotient : PySem.W.kitOne K (.ref C_TooMany) (.ref C_NoQuotient) = some false)
    (xj_TooMany_LineError : PySem.W.kitOne K (.ref C_TooMany) (.ref C_LineError) = some false)
    (xj_TooMany_ValueError : PySem.W.kitOne K (.ref C_TooMany) (.type "ValueError") = some false)
    (xj_TooMany_KeyError : PySem.W.kitOne K (.ref C_TooMany) (.type "KeyError") = some false)
    (xj_TooMany_IndexError : PySem.W.kitOne K (.ref C_TooMany) (.type "IndexError") = some false)
    (xj_TooMany_LookupError : PySem.W.kitOne K (.ref C_TooMany) (.type "LookupError") = some false)
    (xj_TooMany_RuntimeError : PySem.W.kitOne K (.ref C_TooMany) (.type "RuntimeError") = some false)
    (xj_TooMany_OverflowError : PySem.W.kitOne K (.ref C_TooMany) (.type "OverflowError") = some true)
    (xj_TooMany_ZeroDivisionError : PySem.W.kitOne K (.ref C_TooMany) (.type "ZeroDivisionError") = some false)
    (xj_TooMany_ArithmeticError : PySem.W.kitOne K (.ref C_TooMany) (.type "ArithmeticError") = some true)
    (xj_Refused_InvalidGrid : PySem.W.kitOne K (.ref C_Refused) (.ref C_InvalidGrid) = some false)
    (xj_Refused_InvalidPoint : PySem.W.kitOne K (.ref C_Refused) (.ref C_InvalidPoint) = some false)
    (xj_Refused_InvalidRule : PySem.W.kitOne K (.ref C_Refused) (.ref C_InvalidRule) = some false)
    (xj_Refused_InvalidScheme : PySem.W.kitOne K (.ref C_Refused) (.ref C_InvalidScheme) = some false)
    (xj_Refused_InvalidStand : PySem.W.kitOne K (.ref C_Refused) (.ref C_InvalidStand) = some false)
    (xj_Refused_InvalidPaper : PySem.W.kitOne K (.ref C_Refused) (.ref C_InvalidPaper) = some false)
    (xj_Refused_InvalidOperation : PySem.W.kitOne K (.ref C_Refused) (.ref C_InvalidOperation) = some false)
    (xj_Refused_ParseError : PySem.W.kitOne K (.ref C_Refused) (.ref C_ParseError) = some false)
    (xj_Refused_UnknownLetter : PySem.W.kitOne K (.ref C_Refused) (.ref C_UnknownLetter) = some false)
    (xj_Refused_UnknownAddress : PySem.W.kitOne K (.ref C_Refused) (.ref C_UnknownAddress) = some false)
    (xj_Refused_InvalidNumber : PySem.W.kitOne K (.ref C_Refused) (.ref C_InvalidNumber) = some false)
    (xj_Refused_NothingToUndo : PySem.W.kitOne K (.ref C_Refused) (.ref C_NothingToUndo) = some false)
    (xj_Refused_TooMany : PySem.W.kitOne K (.ref C_Refused) (.ref C_TooMany) = some false)
    (xj_Refused_Refused : PySem.W.kitOne K (.ref C_Refused) (.ref C_Refused) = some true)
    (xj_Refused_NoQuotient : PySem.W.kitOne K (.ref C_Refused) (.ref C_NoQuotient) = some false)
    (xj_Refused_LineError : PySem.W.kitOne K (.ref C_Refused) (.ref C_LineError) = some false)
    (xj_Refused_ValueError : PySem.W.kitOne K (.ref C_Refused) (.type "ValueError") = some false)
    (xj_Refused_KeyError : PySem.W.kitOne K (.ref C_Refused) (.type "KeyError") = some false)
    (xj_Refused_IndexError : PySem.W.kitOne K (.ref C_Refused) (.type "IndexError") = some false)
    (xj_Refused_LookupError : PySem.W.kitOne K (.ref C_Refused) (.type "LookupError") = some false)
    (xj_Refused_RuntimeError : PySem.W.kitOne K (.ref C_Refused) (.type "RuntimeError") = some false)
    (xj_Refused_OverflowError : PySem.W.kitOne K (.ref C_Refused) (.type "OverflowError") = some false)
    (xj_Refused_ZeroDivisionError : PySem.W.kitOne K (.ref C_Refused) (.type "ZeroDivisionError") = some false)
    (xj_Refused_ArithmeticError : PySem.W.kitOne K (.ref C_Refused) (.type "ArithmeticError") = some true)
    (xj_NoQuotient_InvalidGrid : PySem.W.kitOne K (.ref C_NoQuotient) (.ref C_InvalidGrid) = some false)
    (xj_NoQuotient_InvalidPoint : PySem.W.kitOne K (.ref C_NoQuotient) (.ref C_InvalidPoint) = some false)
    (xj_NoQuotient_InvalidRule : PySem.W.kitOne K (.ref C_NoQuotient) (.ref C_InvalidRule) = some false)
    (xj_NoQuotient_InvalidScheme : PySem.W.kitOne K (.ref C_NoQuotient) (.ref C_InvalidScheme) = some false)
    (xj_NoQuotient_InvalidStand : PySem.W.kitOne K (.ref C_NoQuotient) (.ref C_InvalidStand) = some false)
    (xj_NoQuotient_InvalidPaper : PySem.W.kitOne K (.ref C_NoQuotient) (.ref C_InvalidPaper) = some false)
    (xj_NoQuotient_InvalidOperation : PySem.W.kitOne K (.ref C_NoQuotient) (.ref C_InvalidOperation) = some false)
    (xj_NoQuotient_ParseError : PySem.W.kitOne K (.ref C_NoQuotient) (.ref C_ParseError) = some false)
    (xj_NoQuotient_UnknownLetter : PySem.W.kitOne K (.ref C_NoQuotient) (.ref C_UnknownLetter) = some false)
    (xj_NoQuotient_UnknownAddress : PySem.W.kitOne K (.ref C_NoQuotient) (.ref C_UnknownAddress) = some false)
    (xj_NoQuotient_InvalidNumber : PySem.W.kitOne K (.ref C_NoQuotient) (.ref C_InvalidNumber) = some false)
    (xj_NoQuotient_NothingToUndo : PySem.W.kitOne K (.ref C_NoQuotient) (.ref C_NothingToUndo) = some false)
    (xj_NoQuotient_TooMany : PySem.W.kitOne K (.ref C_NoQuotient) (.ref C_TooMany) = some false)
    (xj_NoQuotient_Refused : PySem.W.kitOne K (.ref C_NoQuotient) (.ref C_Refused) = some false)
    (xj_NoQuotient_NoQuotient : PySem.W.kitOne K (.ref C_NoQuotient) (.ref C_NoQuotient) = some true)
    (xj_NoQuotient_LineError : PySem.W.kitOne K (.ref C_NoQuotient) (.ref C_LineError) = some false)
    (xj_NoQuotient_ValueError : PySem.W.kitOne K (.ref C_NoQuotient) (.type "ValueError") = some false)
    (xj_NoQuotient_KeyError : PySem.W.kitOne K (.ref C_NoQuotient) (.type "KeyError") = some false)
    (xj_NoQuotient_IndexError : PySem.W.kitOne K (.ref C_NoQuotient) (.type "IndexError") = some false)
    (xj_NoQuotient_LookupError : PySem.W.kitOne K (.ref C_NoQuotient) (.type "LookupError") = some false)
    (xj_NoQuotient_RuntimeError : PySem.W.kitOne K (.ref C_NoQuotient) (.type "RuntimeError") = some false)
    (xj_NoQuotient_OverflowError : PySem.W.kitOne K (.ref C_NoQuotient) (.type "OverflowError") = some false)
    (xj_NoQuotient_ZeroDivisionError : PySem.W.kitOne K (.ref C_NoQuotient) (.type "ZeroDivisionError") = some true)
    (xj_NoQuotient_ArithmeticError : PySem.W.kitOne K (.ref C_NoQuotient) (.type "ArithmeticError") = some true)
    (xm_LineError_LineError : PySem.W.subIn K (.ref C_LineError) (.ref C_LineError) = some true)
    (xm_LineError_UnknownAddress : PySem.W.subIn K (.ref C_LineError) (.ref C_UnknownAddress) = some false)
    (xm_LineError_NoQuotient : PySem.W.subIn K (.ref C_LineError) (.ref C_NoQuotient) = some false)
    (xm_InvalidGrid_LineError : PySem.W.subIn K (.ref C_InvalidGrid) (.ref C_LineError) = some true)
    (xm_InvalidGrid_UnknownAddress : PySem.W.subIn K (.ref C_InvalidGrid) (.ref C_UnknownAddress) = some false)
    (xm_InvalidGrid_NoQuotient : PySem.W.subIn K (.ref C_InvalidGrid) (.ref C_NoQuotient) = some false)
    (xm_InvalidPoint_LineError : PySem.W.subIn K (.ref C_InvalidPoint) (.ref C_LineError) = some true)
    (xm_InvalidPoint_UnknownAddress : PySem.W.subIn K (.ref C_InvalidPoint) (.ref C_UnknownAddress) = some false)
    (xm_InvalidPoint_NoQuotient : PySem.W.subIn K (.ref C_InvalidPoint) (.ref C_NoQuotient) = some false)
    (xm_InvalidRule_LineError : PySem.W.subIn K (.ref C_InvalidRule) (.ref C_LineError) = some true)
    (xm_InvalidRule_UnknownAddress : PySem.W.subIn K (.ref C_InvalidRule) (.ref C_UnknownAddress) = some false)
    (xm_InvalidRule_NoQuotient : PySem.W.subIn K (.ref C_InvalidRule) (.ref C_NoQuotient) = some false)
    (xm_InvalidScheme_LineError : PySem.W.subIn K (.ref C_InvalidScheme) (.ref C_LineError) = some true)
    (xm_InvalidScheme_UnknownAddress : PySem.W.subIn K (.ref C_InvalidScheme) (.ref C_UnknownAddress) = some false)
    (xm_InvalidScheme_NoQuotient : PySem.W.subIn K (.ref C_InvalidScheme) (.ref C_NoQuotient) = some false)
    (xm_InvalidStand_LineError : PySem.W.subIn K (.ref C_InvalidStand) (.ref C_LineError) = some true)
    (xm_InvalidStand_UnknownAddress : PySem.W.subIn K (.ref C_InvalidStand) (.ref C_UnknownAddress) = some false)
    (xm_InvalidStand_NoQuotient : PySem.W.subIn K (.ref C_InvalidStand) (.ref C_NoQuotient) = some false)
    (xm_InvalidPaper_LineError : PySem.W.subIn K (.ref C_InvalidPaper) (.ref C_LineError) = some true)
    (xm_InvalidPaper_UnknownAddress : PySem.W.subIn K (.ref C_InvalidPaper) (.ref C_UnknownAddress) = some false)
    (xm_InvalidPaper_NoQuotient : PySem.W.subIn K (.ref C_InvalidPaper) (.ref C_NoQuotient) = some false)
    (xm_InvalidOperation_LineError : PySem.W.subIn K (.ref C_InvalidOperation) (.ref C_LineError) = some true)
    (xm_InvalidOperation_UnknownAddress : PySem.W.subIn K (.ref C_InvalidOperation) (.ref C_UnknownAddress) = some false)
    (xm_InvalidOperation_NoQuotient : PySem.W.subIn K (.ref C_InvalidOperation) (.ref C_NoQuotient) = some false)
    (xm_ParseError_LineError : PySem.W.subIn K (.ref C_ParseError) (.ref C_LineError) = some true)
    (xm_ParseError_UnknownAddress : PySem.W.subIn K (.ref C_ParseError) (.ref C_UnknownAddress) = some false)
    (xm_ParseError_NoQuotient : PySem.W.subIn K (.ref C_ParseError) (.ref C_NoQuotient) = some false)
    (xm_UnknownLetter_LineError : PySem.W.subIn K (.ref C_UnknownLetter) (.ref C_LineError) = some false)
    (xm_UnknownLetter_UnknownAddress : PySem.W.subIn K (.ref C_UnknownLetter) (.ref C_UnknownAddress) = some false)
    (xm_UnknownLetter_NoQuotient : PySem.W.subIn K (.ref C_UnknownLetter) (.ref C_NoQuotient) = some false)
    (xm_UnknownAddress_LineError : PySem.W.subIn K (.ref C_UnknownAddress) (.ref C_LineError) = some false)
    (xm_UnknownAddress_UnknownAddress : PySem.W.subIn K (.ref C_UnknownAddress) (.ref C_UnknownAddress) = some true)
    (xm_UnknownAddress_NoQuotient : PySem.W.subIn K (.ref C_UnknownAddress) (.ref C_NoQuotient) = some false)
    (xm_InvalidNumber_LineError : PySem.W.subIn K (.ref C_InvalidNumber) (.ref C_LineError) = some false)
    (xm_InvalidNumber_UnknownAddress : PySem.W.subIn K (.ref C_InvalidNumber) (.ref C_UnknownAddress) = some false)
    (xm_InvalidNumber_NoQuotient : PySem.W.subIn K (.ref C_InvalidNumber) (.ref C_NoQuotient) = some false)
    (xm_NothingToUndo_LineError : PySem.W.subIn K (.ref C_NothingToUndo) (.ref C_LineError) = some false)
    (xm_NothingToUndo_UnknownAddress : PySem.W.subIn K (.ref C_NothingToUndo) (.ref C_UnknownAddress) = some false)
    (xm_NothingToUndo_NoQuotient : PySem.W.subIn K (.ref C_NothingToUndo) (.ref C_NoQuotient) = some false)
    (xm_TooMany_LineError : PySem.W.subIn K (.ref C_TooMany) (.ref C_LineError) = some false)
    (xm_TooMany_UnknownAddress : PySem.W.subIn K (.ref C_TooMany) (.ref C_UnknownAddress) = some false)
    (xm_TooMany_NoQuotient : PySem.W.subIn K (.ref C_TooMany) (.ref C_NoQuotient) = some false)
    (xm_Refused_LineError : PySem.W.subIn K (.ref C_Refused) (.ref C_LineError) = some false)
    (xm_Refused_UnknownAddress : PySem.W.subIn K (.ref C_Refused) (.ref C_UnknownAddress) = some false)
    (xm_Refused_NoQuotient : PySem.W.subIn K (.ref C_Refused) (.ref C_NoQuotient) = some false)
    (xm_NoQuotient_LineError : PySem.W.subIn K (.ref C_NoQuotient) (.ref C_LineError) = some false)
    (xm_NoQuotient_UnknownAddress : PySem.W.subIn K (.ref C_NoQuotient) (.ref C_UnknownAddress) = some false)
    (xm_NoQuotient_NoQuotient : PySem.W.subIn K (.ref C_NoQuotient) (.ref C_NoQuotient) = some true)
    (xc_LineError : PySem.W.isClsIn K C_LineError = true)
    (xc_UnknownAddress : PySem.W.isClsIn K C_UnknownAddress = true)
    (xc_NoQuotient : PySem.W.isClsIn K C_NoQuotient = true)
    (z_ArithmeticError : PySem.W.nsIn K mainGlobals "ArithmeticError" = some none)
    (z_IndexError : PySem.W.nsIn K mainGlobals "IndexError" = some none)
    (z_KeyError : PySem.W.nsIn K mainGlobals "KeyError" = some none)
    (z_LookupError : PySem.W.nsIn K mainGlobals "LookupError" = some none)
    (z_OverflowError : PySem.W.nsIn K mainGlobals "OverflowError" = some none)
    (z_RuntimeError : PySem.W.nsIn K mainGlobals "RuntimeError" = some none)
    (z_ValueError : PySem.W.nsIn K mainGlobals "ValueError" = some none)
    (z_ZeroDivisionError : PySem.W.nsIn K mainGlobals "ZeroDivisionError" = some none)
    (z_abs : PySem.W.nsIn K mainGlobals "abs" = some none)
    (z_int : PySem.W.nsIn K mainGlobals "int" = some none)
    (z_isinstance : PySem.W.nsIn K mainGlobals "isinstance" = some none)
    (z_len : PySem.W.nsIn K mainGlobals "len" = some none)
    (z_max : PySem.W.nsIn K mainGlobals "max" = some none)
    (z_min : PySem.W.nsIn K mainGlobals "min" = some none)
    (z_range : PySem.W.nsIn K mainGlobals "range" = some none)
    (z_repr : PySem.W.nsIn K mainGlobals "repr" = some none) :
    ∃ fd : FuncData, (∀ (s : Shared) (v : Value), BindsTo s fd ⟨[v], []⟩ [("_law_script", v)]) ∧ ∀ base : Heap, K.In base → base.Ns mainGlobals mg → base.NoDigits → FnG l.prog w K mg base CX0 5 fa fd ["_law_script"] (sp_law K) := by
  have e := hfa.symm.trans (PySem.W.mg_of X G a18)
  cases e
  have T : Txt K mg ⟨f0, f1, f2, f3, f4, f5, f6, f7, f8, f9, f10, f11, f12, f13, f14, f15, f16, f17, fa, C_LineError, C_InvalidGrid, C_InvalidPoint, C_InvalidRule, C_InvalidScheme, C_InvalidStand, C_InvalidPaper, C_InvalidOperation, C_ParseError, C_UnknownLetter, C_UnknownAddress, C_InvalidNumber, C_NothingToUndo, C_TooMany, C_Refused, C_NoQuotient⟩ ⟨(PySem.W.fnOf "_law_dice" "_law_dice" (defArgs s__law_dice) (defBody s__law_dice) (defScope s__law_dice) .none kV0 dc0 pm0 an0 cd0 ct0), (PySem.W.fnOf "_law_roll" "_law_roll" (defArgs s__law_roll) (defBody s__law_roll) (defScope s__law_roll) .none kV1 dc1 pm1 an1 cd1 ct1), (PySem.W.fnOf "_law_pick" "_law_pick" (defArgs s__law_pick) (defBody s__law_pick) (defScope s__law_pick) .none kV2 dc2 pm2 an2 cd2 ct2), (PySem.W.fnOf "__init__" "NoQuotient.__init__" (defArgs s_NoQuotient___init__) (defBody s_NoQuotient___init__) (defScope s_NoQuotient___init__) .none kV3 dc3 pm3 an3 cd3 ct3), (PySem.W.fnOf "__init__" "UnknownAddress.__init__" (defArgs s_UnknownAddress___init__) (defBody s_UnknownAddress___init__) (defScope s_UnknownAddress___init__) .none kV4 dc4 pm4 an4 cd4 ct4), (PySem.W.fnOf "_law_own" "_law_own" (defArgs s__law_own) (defBody s__law_own) (defScope s__law_own) .none kV5 dc5 pm5 an5 cd5 ct5), (PySem.W.fnOf "_law_caught" "_law_caught" (defArgs s__law_caught) (defBody s__law_caught) (defScope s__law_caught) .none kV6 dc6 pm6 an6 cd6 ct6), (PySem.W.fnOf "_law_due_messages" "_law_due_messages" (defArgs s__law_due_messages) (defBody s__law_due_messages) (defScope s__law_due_messages) .none kV7 dc7 pm7 an7 cd7 ct7), (PySem.W.fnOf "__init__" "InvalidNumber.__init__" (defArgs s_InvalidNumber___init__) (defBody s_InvalidNumber___init__) (defScope s_InvalidNumber___init__) .none kV8 dc8 pm8 an8 cd8 ct8), (PySem.W.fnOf "__init__" "NothingToUndo.__init__" (defArgs s_NothingToUndo___init__) (defBody s_NothingToUndo___init__) (defScope s_NothingToUndo___init__) .none kV9 dc9 pm9 an9 cd9 ct9), (PySem.W.fnOf "__init__" "ParseError.__init__" (defArgs s_ParseError___init__) (defBody s_ParseError___init__) (defScope s_ParseError___init__) .none kV10 dc10 pm10 an10 cd10 ct10), (PySem.W.fnOf "__init__" "Refused.__init__" (defArgs s_Refused___init__) (defBody s_Refused___init__) (defScope s_Refused___init__) .none kV11 dc11 pm11 an11 cd11 ct11), (PySem.W.fnOf "__init__" "TooMany.__init__" (defArgs s_TooMany___init__) (defBody s_TooMany___init__) (defScope s_TooMany___init__) .none kV12 dc12 pm12 an12 cd12 ct12), (PySem.W.fnOf "__init__" "UnknownLetter.__init__" (defArgs s_UnknownLetter___init__) (defBody s_UnknownLetter___init__) (defScope s_UnknownLetter___init__) .none kV13 dc13 pm13 an13 cd13 ct13), (PySem.W.fnOf "_law_all" "_law_all" (defArgs s__law_all) (defBody s__law_all) (defScope s__law_all) .none kV14 dc14 pm14 an14 cd14 ct14), (PySem.W.fnOf "_law_kept" "_law_kept" (defArgs s__law_kept) (defBody s__law_kept) (defScope s__law_kept) .none kV15 dc15 pm15 an15 cd15 ct15), (PySem.W.fnOf "_law_messages" "_law_messages" (defArgs s__law_messages) (defBody s__law_messages) (defScope s__law_messages) .none kV16 dc16 pm16 an16 cd16 ct16), (PySem.W.fnOf "_law_right" "_law_right" (defArgs s__law_right) (defBody s__law_right) (defScope s__law_right) .none kV17 dc17 pm17 an17 cd17 ct17), (PySem.W.fnOf "law" "law" (defArgs s_law) (defBody s_law) (defScope s_law) .none kV18 dc18 pm18 an18 cd18 ct18)⟩ := ⟨PySem.W.mg_none_of X G z_ArithmeticError,
    PySem.W.mg_none_of X G z_IndexError,
    PySem.W.mg_none_of X G z_KeyError,
    PySem.W.mg_none_of X G z_LookupError,
    PySem.W.mg_none_of X G z_OverflowError,
    PySem.W.mg_none_of X G z_RuntimeError,
    PySem.W.mg_none_of X G z_ValueError,
    PySem.W.mg_none_of X G z_ZeroDivisionError,
    PySem.W.mg_none_of X G z_abs,
    PySem.W.mg_none_of X G z_int,
    PySem.W.mg_none_of X G z_isinstance,
    PySem.W.mg_none_of X G z_len,
    PySem.W.mg_none_of X G z_max,
    PySem.W.mg_none_of X G z_min,
    PySem.W.mg_none_of X G z_range,
    PySem.W.mg_none_of X G z_repr,
    PySem.W.mg_of X G a0,
    fun_mk (st := s__law_dice) l0 c0 k0,
    (fun_mk (st := s__law_dice) l0 c0 k0).binds (ps := ["_law_script", "_law_spot"]) fun _ _ _ _ _ _ us hl => match us, hl with | [_, _], _ => rfl,
    PySem.W.mg_of X G a1,
    fun_mk (st := s__law_roll) l1 c1 k1,
    (fun_mk (st := s__law_roll) l1 c1 k1).binds (ps := ["_law_dice_here", "_law_total"]) fun _ _ _ _ _ _ us hl => match us, hl with | [_, _], _ => rfl,
    PySem.W.mg_of X G a2,
    fun_mk (st := s__law_pick) l2 c2 k2,
    (fun_mk (st := s__law_pick) l2 c2 k2).binds (ps := ["_law_dice_here", "_law_items"]) fun _ _ _ _ _ _ us hl => match us, hl with | [_, _], _ => rfl,
    fun_mk (st := s_NoQuotient___init__) l3 c3 k3,
    (fun_mk (st := s_NoQuotient___init__) l3 c3 k3).binds (ps := ["self", "divisor"]) fun _ _ _ _ _ _ us hl => match us, hl with | [_, _], _ => rfl,
    fun_mk (st := s_UnknownAddress___init__) l4 c4 k4,
    (fun_mk (st := s_UnknownAddress___init__) l4 c4 k4).binds (ps := ["self", "lost"]) fun _ _ _ _ _ _ us hl => match us, hl with | [_, _], _ => rfl,
    PySem.W.mg_of X G a5,
    fun_mk (st := s__law_own) l5 c5 k5,
    (fun_mk (st := s__law_own) l5 c5 k5).binds (ps := ["_law_error"]) fun _ _ _ _ _ _ us hl => match us, hl with | [_], _ => rfl,
    PySem.W.mg_of X G a6,
    fun_mk (st := s__law_caught) l6 c6 k6,
    (fun_mk (st := s__law_caught) l6 c6 k6).binds (ps := ["_law_value", "_law_way"]) fun _ _ _ _ _ _ us hl => match us, hl with | [_, _], _ => rfl,
    PySem.W.mg_of X G a7,
    fun_mk (st := s__law_due_messages) l7 c7 k7,
    (fun_mk (st := s__law_due_messages) l7 c7 k7).binds (ps := []) fun _ _ _ _ _ _ us hl => match us, hl with | [], _ => rfl,
    fun_mk (st := s_InvalidNumber___init__) l8 c8 k8,
    (fun_mk (st := s_InvalidNumber___init__) l8 c8 k8).binds (ps := ["self", "value"]) fun _ _ _ _ _ _ us hl => match us, hl with | [_, _], _ => rfl,
    fun_mk (st := s_NothingToUndo___init__) l9 c9 k9,
    (fun_mk (st := s_NothingToUndo___init__) l9 c9 k9).binds (ps := ["self", "many"]) fun _ _ _ _ _ _ us hl => match us, hl with | [_, _], _ => rfl,
    fun_mk (st := s_ParseError___init__) l10 c10 k10,
    (fun_mk (st := s_ParseError___init__) l10 c10 k10).binds (ps := ["self", "number"]) fun _ _ _ _ _ _ us hl => match us, hl with | [_, _], _ => rfl,
    fun_mk (st := s_Refused___init__) l11 c11 k11,
    (fun_mk (st := s_Refused___init__) l11 c11 k11).binds (ps := ["self", "pledge"]) fun _ _ _ _ _ _ us hl => match us, hl with | [_, _], _ => rfl,
    fun_mk (st := s_TooMany___init__) l12 c12 k12,
    (fun_mk (st := s_TooMany___init__) l12 c12 k12).binds (ps := ["self", "limit"]) fun _ _ _ _ _ _ us hl => match us, hl with | [_, _], _ => rfl,
    fun_mk (st := s_UnknownLetter___init__) l13 c13 k13,
    (fun_mk (st := s_UnknownLetter___init__) l13 c13 k13).binds (ps := ["self", "word"]) fun _ _ _ _ _ _ us hl => match us, hl with | [_, _], _ => rfl,
    PySem.W.mg_of X G a14,
    fun_mk (st := s__law_all) l14 c14 k14,
    (fun_mk (st := s__law_all) l14 c14 k14).binds (ps := ["_law_error"]) fun _ _ _ _ _ _ us hl => match us, hl with | [_], _ => rfl,
    PySem.W.mg_of X G a15,
    fun_mk (st := s__law_kept) l15 c15 k15,
    (fun_mk (st := s__law_kept) l15 c15 k15).binds (ps := ["_law_value", "_law_index"]) fun _ _ _ _ _ _ us hl => match us, hl with | [_, _], _ => rfl,
    PySem.W.mg_of X G a16,
    fun_mk (st := s__law_messages) l16 c16 k16,
    (fun_mk (st := s__law_messages) l16 c16 k16).binds (ps := []) fun _ _ _ _ _ _ us hl => match us, hl with | [], _ => rfl,
    PySem.W.mg_of X G a17,
    fun_mk (st := s__law_right) l17 c17 k17,
    (fun_mk (st := s__law_right) l17 c17 k17).binds (ps := ["_law_value", "_law_index"]) fun _ _ _ _ _ _ us hl => match us, hl with | [_, _], _ => rfl,
    PySem.W.mg_of X G a18,
    fun_mk (st := s_law) l18 c18 k18,
    (fun_mk (st := s_law) l18 c18 k18).binds (ps := ["_law_script"]) fun _ _ _ _ _ _ us hl => match us, hl with | [_], _ => rfl,
    PySem.W.mg_of X G gC_LineError,
    ⟨⟨_, _, _, _, PySem.F.excBase_ValueError, xi_LineError⟩, xk_LineError, xs_LineError, xt_LineError⟩,
    PySem.W.mg_of X G gC_InvalidGrid,
    ⟨⟨_, _, _, _, PySem.F.excBase_ValueError, xi_InvalidGrid⟩, xk_InvalidGrid, xs_InvalidGrid, xt_InvalidGrid⟩,
    PySem.W.mg_of X G gC_InvalidPoint,
    ⟨⟨_, _, _, _, PySem.F.excBase_ValueError, xi_InvalidPoint⟩, xk_InvalidPoint, xs_InvalidPoint, xt_InvalidPoint⟩,
    PySem.W.mg_of X G gC_InvalidRule,
    ⟨⟨_, _, _, _, PySem.F.excBase_ValueError, xi_InvalidRule⟩, xk_InvalidRule, xs_InvalidRule, xt_InvalidRule⟩,
    PySem.W.mg_of X G gC_InvalidScheme,
    ⟨⟨_, _, _, _, PySem.F.excBase_ValueError, xi_InvalidScheme⟩, xk_InvalidScheme, xs_InvalidScheme, xt_InvalidScheme⟩,
    PySem.W.mg_of X G gC_InvalidStand,
    ⟨⟨_, _, _, _, PySem.F.excBase_ValueError, xi_InvalidStand⟩, xk_InvalidStand, xs_InvalidStand, xt_InvalidStand⟩,
    PySem.W.mg_of X G gC_InvalidPaper,
    ⟨⟨_, _, _, _, PySem.F.excBase_ValueError, xi_InvalidPaper⟩, xk_InvalidPaper, xs_InvalidPaper, xt_InvalidPaper⟩,
    PySem.W.mg_of X G gC_InvalidOperation,
    ⟨⟨_, _, _, _, PySem.F.excBase_ValueError, xi_InvalidOperation⟩, xk_InvalidOperation, xs_InvalidOperation, xt_InvalidOperation⟩,
    PySem.W.mg_of X G gC_ParseError,
    ⟨⟨⟨_, _, _, _, _, _, PySem.F.excBase_ValueError, ⟨by decide +kernel, by decide +kernel, by decide +kernel⟩, PySem.F.store_ValueError, xi_ParseError, xo_ParseError⟩, xd_ParseError, xz_ParseError, xs_ParseError, xt_ParseError, xk_ParseError⟩, xn_ParseError, xf_ParseError, xq_ParseError, ⟨xg_ParseError, xh_ParseError, xs_ParseError, xd_ParseError⟩⟩,
    PySem.W.mg_of X G gC_UnknownLetter,
    ⟨⟨⟨_, _, _, _, _, _, PySem.F.excBase_LookupError, ⟨by decide +kernel, by decide +kernel, by decide +kernel⟩, Ex.store_KeyError, xi_UnknownLetter, xo_UnknownLetter⟩, xd_UnknownLetter, xz_UnknownLetter, xs_UnknownLetter, xt_UnknownLetter, xk_UnknownLetter⟩, xn_UnknownLetter, xf_UnknownLetter, xq_UnknownLetter, ⟨xg_UnknownLetter, xh_UnknownLetter, xs_UnknownLetter, xd_UnknownLetter⟩⟩,
    PySem.W.mg_of X G gC_UnknownAddress,
    ⟨⟨⟨_, _, _, _, _, _, PySem.F.excBase_LookupError, ⟨by decide +kernel, by decide +kernel, by decide +kernel⟩, PySem.F.store_LookupError, xi_UnknownAddress, xo_UnknownAddress⟩, xd_UnknownAddress, xz_UnknownAddress, xs_UnknownAddress, xt_UnknownAddress, xk_UnknownAddress⟩, xn_UnknownAddress, xf_UnknownAddress, xq_UnknownAddress, ⟨xg_UnknownAddress, xh_UnknownAddress, xs_UnknownAddress, xd_UnknownAddress⟩⟩,
    PySem.W.mg_of X G gC_InvalidNumber,
    ⟨⟨⟨_, _, _, _, _, _, PySem.F.excBase_IndexError, ⟨by decide +kernel, by decide +kernel, by decide +kernel⟩, PySem.F.store_IndexError, xi_InvalidNumber, xo_InvalidNumber⟩, xd_InvalidNumber, xz_InvalidNumber, xs_InvalidNumber, xt_InvalidNumber, xk_InvalidNumber⟩, xn_InvalidNumber, xf_InvalidNumber, xq_InvalidNumber, ⟨xg_InvalidNumber, xh_InvalidNumber, xs_InvalidNumber, xd_InvalidNumber⟩⟩,
    PySem.W.mg_of X G gC_NothingToUndo,
    ⟨⟨⟨_, _, _, _, _, _, PySem.F.excBase_RuntimeError, ⟨by decide +kernel, by decide +kernel, by decide +kernel⟩, PySem.F.store_RuntimeError, xi_NothingToUndo, xo_NothingToUndo⟩, xd_NothingToUndo, xz_NothingToUndo, xs_NothingToUndo, xt_NothingToUndo, xk_NothingToUndo⟩, xn_NothingToUndo, xf_NothingToUndo, xq_NothingToUndo, ⟨xg_NothingToUndo, xh_NothingToUndo, xs_NothingToUndo, xd_NothingToUndo⟩⟩,
    PySem.W.mg_of X G gC_TooMany,
    ⟨⟨⟨_, _, _, _, _, _, PySem.F.excBase_OverflowError, ⟨by decide +kernel, by decide +kernel, by decide +kernel⟩, PySem.F.store_OverflowError, xi_TooMany, xo_TooMany⟩, xd_TooMany, xz_TooMany, xs_TooMany, xt_TooMany, xk_TooMany⟩, xn_TooMany, xf_TooMany, xq_TooMany, ⟨xg_TooMany, xh_TooMany, xs_TooMany, xd_TooMany⟩⟩,
    PySem.W.mg_of X G gC_Refused,
    ⟨⟨⟨_, _, _, _, _, _, PySem.F.excBase_ArithmeticError, ⟨by decide +kernel, by decide +kernel, by decide +kernel⟩, PySem.F.store_ArithmeticError, xi_Refused, xo_Refused⟩, xd_Refused, xz_Refused, xs_Refused, xt_Refused, xk_Refused⟩, xn_Refused, xf_Refused, xq_Refused, ⟨xg_Refused, xh_Refused, xs_Refused, xd_Refused⟩⟩,
    PySem.W.mg_of X G gC_NoQuotient,
    ⟨⟨⟨_, _, _, _, _, _, PySem.F.excBase_ZeroDivisionError, ⟨by decide +kernel, by decide +kernel, by decide +kernel⟩, PySem.F.store_ZeroDivisionError, xi_NoQuotient, xo_NoQuotient⟩, xd_NoQuotient, xz_NoQuotient, xs_NoQuotient, xt_NoQuotient, xk_NoQuotient⟩, xn_NoQuotient, xf_NoQuotient, xq_NoQuotient, ⟨xg_NoQuotient, xh_NoQuotient, xs_NoQuotient, xd_NoQuotient⟩⟩,
    ⟨xg_LineError, xh_LineError, xs_LineError, xd_LineError, xl_LineError, xp_LineError, xu_LineError, xw_LineError⟩,
    xj_LineError_InvalidGrid,
    xj_LineError_InvalidPoint,
    xj_LineError_InvalidRule,
    xj_LineError_InvalidScheme,
    xj_LineError_InvalidStand,
    xj_LineError_InvalidPaper,
    xj_LineError_InvalidOperation,
    xj_LineError_ParseError,
    xj_LineError_UnknownLetter,
    xj_LineError_UnknownAddress,
    xj_LineError_InvalidNumber,
    xj_LineError_NothingToUndo,
    xj_LineError_TooMany,
    xj_LineError_Refused,
    xj_LineError_NoQuotient,
    xj_LineError_LineError,
    xj_LineError_ValueError,
    xj_LineError_KeyError,
    xj_LineError_IndexError,
    xj_LineError_LookupError,
    xj_LineError_RuntimeError,
    xj_LineError_OverflowError,
    xj_LineError_ZeroDivisionError,
    xj_LineError_ArithmeticError,
    ⟨xg_InvalidGrid, xh_InvalidGrid, xs_InvalidGrid, xd_InvalidGrid, xl_InvalidGrid, xp_InvalidGrid, xu_InvalidGrid, xw_InvalidGrid⟩,
    xj_InvalidGrid_InvalidGrid,
    xj_InvalidGrid_InvalidPoint,
    xj_InvalidGrid_InvalidRule,
    xj_InvalidGrid_InvalidScheme,
    xj_InvalidGrid_InvalidStand,
    xj_InvalidGrid_InvalidPaper,
    xj_InvalidGrid_InvalidOperation,
    xj_InvalidGrid_ParseError,
    xj_InvalidGrid_UnknownLetter,
    xj_InvalidGrid_UnknownAddress,
    xj_InvalidGrid_InvalidNumber,
    xj_InvalidGrid_NothingToUndo,
    xj_InvalidGrid_TooMany,
    xj_InvalidGrid_Refused,
    xj_InvalidGrid_NoQuotient,
    xj_InvalidGrid_LineError,
    xj_InvalidGrid_ValueError,
    xj_InvalidGrid_KeyError,
    xj_InvalidGrid_IndexError,
    xj_InvalidGrid_LookupError,
    xj_InvalidGrid_RuntimeError,
    xj_InvalidGrid_OverflowError,
    xj_InvalidGrid_ZeroDivisionError,
    xj_InvalidGrid_ArithmeticError,
    ⟨xg_InvalidPoint, xh_InvalidPoint, xs_InvalidPoint, xd_InvalidPoint, xl_InvalidPoint, xp_InvalidPoint, xu_InvalidPoint, xw_InvalidPoint⟩,
    xj_InvalidPoint_InvalidGrid,
    xj_InvalidPoint_InvalidPoint,
    xj_InvalidPoint_InvalidRule,
    xj_InvalidPoint_InvalidScheme,
    xj_InvalidPoint_InvalidStand,
    xj_InvalidPoint_InvalidPaper,
    xj_InvalidPoint_InvalidOperation,
    xj_InvalidPoint_ParseError,
    xj_InvalidPoint_UnknownLetter,
    xj_InvalidPoint_UnknownAddress,
    xj_InvalidPoint_InvalidNumber,
    xj_InvalidPoint_NothingToUndo,
    xj_InvalidPoint_TooMany,
    xj_InvalidPoint_Refused,
    xj_InvalidPoint_NoQuotient,
    xj_InvalidPoint_LineError,
    xj_InvalidPoint_ValueError,
    xj_InvalidPoint_KeyError,
    xj_InvalidPoint_IndexError,
    xj_InvalidPoint_LookupError,
    xj_InvalidPoint_RuntimeError,
    xj_InvalidPoint_OverflowError,
    xj_InvalidPoint_ZeroDivisionError,
    xj_InvalidPoint_ArithmeticError,
    ⟨xg_InvalidRule, xh_InvalidRule, xs_InvalidRule, xd_InvalidRule, xl_InvalidRule, xp_InvalidRule, xu_InvalidRule, xw_InvalidRule⟩,
    xj_InvalidRule_InvalidGrid,
    xj_InvalidRule_InvalidPoint,
    xj_InvalidRule_InvalidRule,
    xj_InvalidRule_InvalidScheme,
    xj_InvalidRule_InvalidStand,
    xj_InvalidRule_InvalidPaper,
    xj_InvalidRule_InvalidOperation,
    xj_InvalidRule_ParseError,
    xj_InvalidRule_UnknownLetter,
    xj_InvalidRule_UnknownAddress,
    xj_InvalidRule_InvalidNumber,
    xj_InvalidRule_NothingToUndo,
    xj_InvalidRule_TooMany,
    xj_InvalidRule_Refused,
    xj_InvalidRule_NoQuotient,
    xj_InvalidRule_LineError,
    xj_InvalidRule_ValueError,
    xj_InvalidRule_KeyError,
    xj_InvalidRule_IndexError,
    xj_InvalidRule_LookupError,
    xj_InvalidRule_RuntimeError,
    xj_InvalidRule_OverflowError,
    xj_InvalidRule_ZeroDivisionError,
    xj_InvalidRule_ArithmeticError,
    ⟨xg_InvalidScheme, xh_InvalidScheme, xs_InvalidScheme, xd_InvalidScheme, xl_InvalidScheme, xp_InvalidScheme, xu_InvalidScheme, xw_InvalidScheme⟩,
    xj_InvalidScheme_InvalidGrid,
    xj_InvalidScheme_InvalidPoint,
    xj_InvalidScheme_InvalidRule,
    xj_InvalidScheme_InvalidScheme,
    xj_InvalidScheme_InvalidStand,
    xj_InvalidScheme_InvalidPaper,
    xj_InvalidScheme_InvalidOperation,
    xj_InvalidScheme_ParseError,
    xj_InvalidScheme_UnknownLetter,
    xj_InvalidScheme_UnknownAddress,
    xj_InvalidScheme_InvalidNumber,
    xj_InvalidScheme_NothingToUndo,
    xj_InvalidScheme_TooMany,
    xj_InvalidScheme_Refused,
    xj_InvalidScheme_NoQuotient,
    xj_InvalidScheme_LineError,
    xj_InvalidScheme_ValueError,
    xj_InvalidScheme_KeyError,
    xj_InvalidScheme_IndexError,
    xj_InvalidScheme_LookupError,
    xj_InvalidScheme_RuntimeError,
    xj_InvalidScheme_OverflowError,
    xj_InvalidScheme_ZeroDivisionError,
    xj_InvalidScheme_ArithmeticError,
    ⟨xg_InvalidStand, xh_InvalidStand, xs_InvalidStand, xd_InvalidStand, xl_InvalidStand, xp_InvalidStand, xu_InvalidStand, xw_InvalidStand⟩,
    xj_InvalidStand_InvalidGrid,
    xj_InvalidStand_InvalidPoint,
    xj_InvalidStand_InvalidRule,
    xj_InvalidStand_InvalidScheme,
    xj_InvalidStand_InvalidStand,
    xj_InvalidStand_InvalidPaper,
    xj_InvalidStand_InvalidOperation,
    xj_InvalidStand_ParseError,
    xj_InvalidStand_UnknownLetter,
    xj_InvalidStand_UnknownAddress,
    xj_InvalidStand_InvalidNumber,
    xj_InvalidStand_NothingToUndo,
    xj_InvalidStand_TooMany,
    xj_InvalidStand_Refused,
    xj_InvalidStand_NoQuotient,
    xj_InvalidStand_LineError,
    xj_InvalidStand_ValueError,
    xj_InvalidStand_KeyError,
    xj_InvalidStand_IndexError,
    xj_InvalidStand_LookupError,
    xj_InvalidStand_RuntimeError,
    xj_InvalidStand_OverflowError,
    xj_InvalidStand_ZeroDivisionError,
    xj_InvalidStand_ArithmeticError,
    ⟨xg_InvalidPaper, xh_InvalidPaper, xs_InvalidPaper, xd_InvalidPaper, xl_InvalidPaper, xp_InvalidPaper, xu_InvalidPaper, xw_InvalidPaper⟩,
    xj_InvalidPaper_InvalidGrid,
    xj_InvalidPaper_InvalidPoint,
    xj_InvalidPaper_InvalidRule,
    xj_InvalidPaper_InvalidScheme,
    xj_InvalidPaper_InvalidStand,
    xj_InvalidPaper_InvalidPaper,
    xj_InvalidPaper_InvalidOperation,
    xj_InvalidPaper_ParseError,
    xj_InvalidPaper_UnknownLetter,
    xj_InvalidPaper_UnknownAddress,
    xj_InvalidPaper_InvalidNumber,
    xj_InvalidPaper_NothingToUndo,
    xj_InvalidPaper_TooMany,
    xj_InvalidPaper_Refused,
    xj_InvalidPaper_NoQuotient,
    xj_InvalidPaper_LineError,
    xj_InvalidPaper_ValueError,
    xj_InvalidPaper_KeyError,
    xj_InvalidPaper_IndexError,
    xj_InvalidPaper_LookupError,
    xj_InvalidPaper_RuntimeError,
    xj_InvalidPaper_OverflowError,
    xj_InvalidPaper_ZeroDivisionError,
    xj_InvalidPaper_ArithmeticError,
    ⟨xg_InvalidOperation, xh_InvalidOperation, xs_InvalidOperation, xd_InvalidOperation, xl_InvalidOperation, xp_InvalidOperation, xu_InvalidOperation, xw_InvalidOperation⟩,
    xj_InvalidOperation_InvalidGrid,
    xj_InvalidOperation_InvalidPoint,
    xj_InvalidOperation_InvalidRule,
    xj_InvalidOperation_InvalidScheme,
    xj_InvalidOperation_InvalidStand,
    xj_InvalidOperation_InvalidPaper,
    xj_InvalidOperation_InvalidOperation,
    xj_InvalidOperation_ParseError,
    xj_InvalidOperation_UnknownLetter,
    xj_InvalidOperation_UnknownAddress,
    xj_InvalidOperation_InvalidNumber,
    xj_InvalidOperation_NothingToUndo,
    xj_InvalidOperation_TooMany,
    xj_InvalidOperation_Refused,
    xj_InvalidOperation_NoQuotient,
    xj_InvalidOperation_LineError,
    xj_InvalidOperation_ValueError,
    xj_InvalidOperation_KeyError,
    xj_InvalidOperation_IndexError,
    xj_InvalidOperation_LookupError,
    xj_InvalidOperation_RuntimeError,
    xj_InvalidOperation_OverflowError,
    xj_InvalidOperation_ZeroDivisionError,
    xj_InvalidOperation_ArithmeticError,
    ⟨xg_ParseError, xh_ParseError, xs_ParseError, xd_ParseError, xl_ParseError, xp_ParseError, xu_ParseError, xw_ParseError⟩,
    xj_ParseError_InvalidGrid,
    xj_ParseError_InvalidPoint,
    xj_ParseError_InvalidRule,
    xj_ParseError_InvalidScheme,
    xj_ParseError_InvalidStand,
    xj_ParseError_InvalidPaper,
    xj_ParseError_InvalidOperation,
    xj_ParseError_ParseError,
    xj_ParseError_UnknownLetter,
    xj_ParseError_UnknownAddress,
    xj_ParseError_InvalidNumber,
    xj_ParseError_NothingToUndo,
    xj_ParseError_TooMany,
    xj_ParseError_Refused,
    xj_ParseError_NoQuotient,
    xj_ParseError_LineError,
    xj_ParseError_ValueError,
    xj_ParseError_KeyError,
    xj_ParseError_IndexError,
    xj_ParseError_LookupError,
    xj_ParseError_RuntimeError,
    xj_ParseError_OverflowError,
    xj_ParseError_ZeroDivisionError,
    xj_ParseError_ArithmeticError,
    ⟨xg_UnknownLetter, xh_UnknownLetter, xs_UnknownLetter, xd_UnknownLetter, xl_UnknownLetter, xp_UnknownLetter, xu_UnknownLetter, xw_UnknownLetter⟩,
    xj_UnknownLetter_InvalidGrid,
    xj_UnknownLetter_InvalidPoint,
    xj_UnknownLetter_InvalidRule,
    xj_UnknownLetter_InvalidScheme,
    xj_UnknownLetter_InvalidStand,
    xj_UnknownLetter_InvalidPaper,
    xj_UnknownLetter_InvalidOperation,
    xj_UnknownLetter_ParseError,
    xj_UnknownLetter_UnknownLetter,
    xj_UnknownLetter_UnknownAddress,
    xj_UnknownLetter_InvalidNumber,
    xj_UnknownLetter_NothingToUndo,
    xj_UnknownLetter_TooMany,
    xj_UnknownLetter_Refused,
    xj_UnknownLetter_NoQuotient,
    xj_UnknownLetter_LineError,
    xj_UnknownLetter_ValueError,
    xj_UnknownLetter_KeyError,
    xj_UnknownLetter_IndexError,
    xj_UnknownLetter_LookupError,
    xj_UnknownLetter_RuntimeError,
    xj_UnknownLetter_OverflowError,
    xj_UnknownLetter_ZeroDivisionError,
    xj_UnknownLetter_ArithmeticError,
    ⟨xg_UnknownAddress, xh_UnknownAddress, xs_UnknownAddress, xd_UnknownAddress, xl_UnknownAddress, xp_UnknownAddress, xu_UnknownAddress, xw_UnknownAddress⟩,
    xj_UnknownAddress_InvalidGrid,
    xj_UnknownAddress_InvalidPoint,
    xj_UnknownAddress_InvalidRule,
    xj_UnknownAddress_InvalidScheme,
    xj_UnknownAddress_InvalidStand,
    xj_UnknownAddress_InvalidPaper,
    xj_UnknownAddress_InvalidOperation,
    xj_UnknownAddress_ParseError,
    xj_UnknownAddress_UnknownLetter,
    xj_UnknownAddress_UnknownAddress,
    xj_UnknownAddress_InvalidNumber,
    xj_UnknownAddress_NothingToUndo,
    xj_UnknownAddress_TooMany,
    xj_UnknownAddress_Refused,
    xj_UnknownAddress_NoQuotient,
    xj_UnknownAddress_LineError,
    xj_UnknownAddress_ValueError,
    xj_UnknownAddress_KeyError,
    xj_UnknownAddress_IndexError,
    xj_UnknownAddress_LookupError,
    xj_UnknownAddress_RuntimeError,
    xj_UnknownAddress_OverflowError,
    xj_UnknownAddress_ZeroDivisionError,
    xj_UnknownAddress_ArithmeticError,
    ⟨xg_InvalidNumber, xh_InvalidNumber, xs_InvalidNumber, xd_InvalidNumber, xl_InvalidNumber, xp_InvalidNumber, xu_InvalidNumber, xw_InvalidNumber⟩,
    xj_InvalidNumber_InvalidGrid,
    xj_InvalidNumber_InvalidPoint,
    xj_InvalidNumber_InvalidRule,
    xj_InvalidNumber_InvalidScheme,
    xj_InvalidNumber_InvalidStand,
    xj_InvalidNumber_InvalidPaper,
    xj_InvalidNumber_InvalidOperation,
    xj_InvalidNumber_ParseError,
    xj_InvalidNumber_UnknownLetter,
    xj_InvalidNumber_UnknownAddress,
    xj_InvalidNumber_InvalidNumber,
    xj_InvalidNumber_NothingToUndo,
    xj_InvalidNumber_TooMany,
    xj_InvalidNumber_Refused,
    xj_InvalidNumber_NoQuotient,
    xj_InvalidNumber_LineError,
    xj_InvalidNumber_ValueError,
    xj_InvalidNumber_KeyError,
    xj_InvalidNumber_IndexError,
    xj_InvalidNumber_LookupError,
    xj_InvalidNumber_RuntimeError,
    xj_InvalidNumber_OverflowError,
    xj_InvalidNumber_ZeroDivisionError,
    xj_InvalidNumber_ArithmeticError,
    ⟨xg_NothingToUndo, xh_NothingToUndo, xs_NothingToUndo, xd_NothingToUndo, xl_NothingToUndo, xp_NothingToUndo, xu_NothingToUndo, xw_NothingToUndo⟩,
    xj_NothingToUndo_InvalidGrid,
    xj_NothingToUndo_InvalidPoint,
    xj_NothingToUndo_InvalidRule,
    xj_NothingToUndo_InvalidScheme,
    xj_NothingToUndo_InvalidStand,
    xj_NothingToUndo_InvalidPaper,
    xj_NothingToUndo_InvalidOperation,
    xj_NothingToUndo_ParseError,
    xj_NothingToUndo_UnknownLetter,
    xj_NothingToUndo_UnknownAddress,
    xj_NothingToUndo_InvalidNumber,
    xj_NothingToUndo_NothingToUndo,
    xj_NothingToUndo_TooMany,
    xj_NothingToUndo_Refused,
    xj_NothingToUndo_NoQuotient,
    xj_NothingToUndo_LineError,
    xj_NothingToUndo_ValueError,
    xj_NothingToUndo_KeyError,
    xj_NothingToUndo_IndexError,
    xj_NothingToUndo_LookupError,
    xj_NothingToUndo_RuntimeError,
    xj_NothingToUndo_OverflowError,
    xj_NothingToUndo_ZeroDivisionError,
    xj_NothingToUndo_ArithmeticError,
    ⟨xg_TooMany, xh_TooMany, xs_TooMany, xd_TooMany, xl_TooMany, xp_TooMany, xu_TooMany, xw_TooMany⟩,
    xj_TooMany_InvalidGrid,
    xj_TooMany_InvalidPoint,
    xj_TooMany_InvalidRule,
    xj_TooMany_InvalidScheme,
    xj_TooMany_InvalidStand,
    xj_TooMany_InvalidPaper,
    xj_TooMany_InvalidOperation,
    xj_TooMany_ParseError,
    xj_TooMany_UnknownLetter,
    xj_TooMany_UnknownAddress,
    xj_TooMany_InvalidNumber,
    xj_TooMany_NothingToUndo,
    xj_TooMany_TooMany,
    xj_TooMany_Refused,
    xj_TooMany_NoQuotient,
    xj_TooMany_LineError,
    xj_TooMany_ValueError,
    xj_TooMany_KeyError,
    xj_TooMany_IndexError,
    xj_TooMany_LookupError,
    xj_TooMany_RuntimeError,
    xj_TooMany_OverflowError,
    xj_TooMany_ZeroDivisionError,
    xj_TooMany_ArithmeticError,
    ⟨xg_Refused, xh_Refused, xs_Refused, xd_Refused, xl_Refused, xp_Refused, xu_Refused, xw_Refused⟩,
    xj_Refused_InvalidGrid,
    xj_Refused_InvalidPoint,
    xj_Refused_InvalidRule,
    xj_Refused_InvalidScheme,
    xj_Refused_InvalidStand,
    xj_Refused_InvalidPaper,
    xj_Refused_InvalidOperation,
    xj_Refused_ParseError,
    xj_Refused_UnknownLetter,
    xj_Refused_UnknownAddress,
    xj_Refused_InvalidNumber,
    xj_Refused_NothingToUndo,
    xj_Refused_TooMany,
    xj_Refused_Refused,
    xj_Refused_NoQuotient,
    xj_Refused_LineError,
    xj_Refused_ValueError,
    xj_Refused_KeyError,
    xj_Refused_IndexError,
    xj_Refused_LookupError,
    xj_Refused_RuntimeError,
    xj_Refused_OverflowError,
    xj_Refused_ZeroDivisionError,
    xj_Refused_ArithmeticError,
    ⟨xg_NoQuotient, xh_NoQuotient, xs_NoQuotient, xd_NoQuotient, xl_NoQuotient, xp_NoQuotient, xu_NoQuotient, xw_NoQuotient⟩,
    xj_NoQuotient_InvalidGrid,
    xj_NoQuotient_InvalidPoint,
    xj_NoQuotient_InvalidRule,
    xj_NoQuotient_InvalidScheme,
    xj_NoQuotient_InvalidStand,
    xj_NoQuotient_InvalidPaper,
    xj_NoQuotient_InvalidOperation,
    xj_NoQuotient_ParseError,
    xj_NoQuotient_UnknownLetter,
    xj_NoQuotient_UnknownAddress,
    xj_NoQuotient_InvalidNumber,
    xj_NoQuotient_NothingToUndo,
    xj_NoQuotient_TooMany,
    xj_NoQuotient_Refused,
    xj_NoQuotient_NoQuotient,
    xj_NoQuotient_LineError,
    xj_NoQuotient_ValueError,
    xj_NoQuotient_KeyError,
    xj_NoQuotient_IndexError,
    xj_NoQuotient_LookupError,
    xj_NoQuotient_RuntimeError,
    xj_NoQuotient_OverflowError,
    xj_NoQuotient_ZeroDivisionError,
    xj_NoQuotient_ArithmeticError,
    Md.exm_of xs_LineError xc_LineError xt_LineError xm_LineError_LineError,
    Md.exm_of xs_UnknownAddress xc_UnknownAddress xt_UnknownAddress xm_LineError_UnknownAddress,
    Md.exm_of xs_NoQuotient xc_NoQuotient xt_NoQuotient xm_LineError_NoQuotient,
    Md.exm_of xs_LineError xc_LineError xt_LineError xm_InvalidGrid_LineError,
    Md.exm_of xs_UnknownAddress xc_UnknownAddress xt_UnknownAddress xm_InvalidGrid_UnknownAddress,
    Md.exm_of xs_NoQuotient xc_NoQuotient xt_NoQuotient xm_InvalidGrid_NoQuotient,
    Md.exm_of xs_LineError xc_LineError xt_LineError xm_InvalidPoint_LineError,
    Md.exm_of xs_UnknownAddress xc_UnknownAddress xt_UnknownAddress xm_InvalidPoint_UnknownAddress,
    Md.exm_of xs_NoQuotient xc_NoQuotient xt_NoQuotient xm_InvalidPoint_NoQuotient,
    Md.exm_of xs_LineError xc_LineError xt_LineError xm_InvalidRule_LineError,
    Md.exm_of xs_UnknownAddress xc_UnknownAddress xt_UnknownAddress xm_InvalidRule_UnknownAddress,
    Md.exm_of xs_NoQuotient xc_NoQuotient xt_NoQuotient xm_InvalidRule_NoQuotient,
    Md.exm_of xs_LineError xc_LineError xt_LineError xm_InvalidScheme_LineError,
    Md.exm_of xs_UnknownAddress xc_UnknownAddress xt_UnknownAddress xm_InvalidScheme_UnknownAddress,
    Md.exm_of xs_NoQuotient xc_NoQuotient xt_NoQuotient xm_InvalidScheme_NoQuotient,
    Md.exm_of xs_LineError xc_LineError xt_LineError xm_InvalidStand_LineError,
    Md.exm_of xs_UnknownAddress xc_UnknownAddress xt_UnknownAddress xm_InvalidStand_UnknownAddress,
    Md.exm_of xs_NoQuotient xc_NoQuotient xt_NoQuotient xm_InvalidStand_NoQuotient,
    Md.exm_of xs_LineError xc_LineError xt_LineError xm_InvalidPaper_LineError,
    Md.exm_of xs_UnknownAddress xc_UnknownAddress xt_UnknownAddress xm_InvalidPaper_UnknownAddress,
    Md.exm_of xs_NoQuotient xc_NoQuotient xt_NoQuotient xm_InvalidPaper_NoQuotient,
    Md.exm_of xs_LineError xc_LineError xt_LineError xm_InvalidOperation_LineError,
    Md.exm_of xs_UnknownAddress xc_UnknownAddress xt_UnknownAddress xm_InvalidOperation_UnknownAddress,
    Md.exm_of xs_NoQuotient xc_NoQuotient xt_NoQuotient xm_InvalidOperation_NoQuotient,
    Md.exm_of xs_LineError xc_LineError xt_LineError xm_ParseError_LineError,
    Md.exm_of xs_UnknownAddress xc_UnknownAddress xt_UnknownAddress xm_ParseError_UnknownAddress,
    Md.exm_of xs_NoQuotient xc_NoQuotient xt_NoQuotient xm_ParseError_NoQuotient,
    Md.exm_of xs_LineError xc_LineError xt_LineError xm_UnknownLetter_LineError,
    Md.exm_of xs_UnknownAddress xc_UnknownAddress xt_UnknownAddress xm_UnknownLetter_UnknownAddress,
    Md.exm_of xs_NoQuotient xc_NoQuotient xt_NoQuotient xm_UnknownLetter_NoQuotient,
    Md.exm_of xs_LineError xc_LineError xt_LineError xm_UnknownAddress_LineError,
    Md.exm_of xs_UnknownAddress xc_UnknownAddress xt_UnknownAddress xm_UnknownAddress_UnknownAddress,
    Md.exm_of xs_NoQuotient xc_NoQuotient xt_NoQuotient xm_UnknownAddress_NoQuotient,
    Md.exm_of xs_LineError xc_LineError xt_LineError xm_InvalidNumber_LineError,
    Md.exm_of xs_UnknownAddress xc_UnknownAddress xt_UnknownAddress xm_InvalidNumber_UnknownAddress,
    Md.exm_of xs_NoQuotient xc_NoQuotient xt_NoQuotient xm_InvalidNumber_NoQuotient,
    Md.exm_of xs_LineError xc_LineError xt_LineError xm_NothingToUndo_LineError,
    Md.exm_of xs_UnknownAddress xc_UnknownAddress xt_UnknownAddress xm_NothingToUndo_UnknownAddress,
    Md.exm_of xs_NoQuotient xc_NoQuotient xt_NoQuotient xm_NothingToUndo_NoQuotient,
    Md.exm_of xs_LineError xc_LineError xt_LineError xm_TooMany_LineError,
    Md.exm_of xs_UnknownAddress xc_UnknownAddress xt_UnknownAddress xm_TooMany_UnknownAddress,
    Md.exm_of xs_NoQuotient xc_NoQuotient xt_NoQuotient xm_TooMany_NoQuotient,
    Md.exm_of xs_LineError xc_LineError xt_LineError xm_Refused_LineError,
    Md.exm_of xs_UnknownAddress xc_UnknownAddress xt_UnknownAddress xm_Refused_UnknownAddress,
    Md.exm_of xs_NoQuotient xc_NoQuotient xt_NoQuotient xm_Refused_NoQuotient,
    Md.exm_of xs_LineError xc_LineError xt_LineError xm_NoQuotient_LineError,
    Md.exm_of xs_UnknownAddress xc_UnknownAddress xt_UnknownAddress xm_NoQuotient_UnknownAddress,
    Md.exm_of xs_NoQuotient xc_NoQuotient xt_NoQuotient xm_NoQuotient_NoQuotient⟩
  exact ⟨_, fun s v => .of_eq rfl, fun base _ _ nd => okL_law T nd⟩

end Law
open PySem PySem.W PyProof.Rows in
set_option maxRecDepth 100000 in
set_option maxHeartbeats 0 in
theorem PySem.Challenge.cw_grownlines_k01_errors_and_what_they_keep_holds : PySem.Challenge.rw_grownlines_k01_errors_and_what_they_keep.Holds := by
  w_on; o_law; k_head; (case hw => w_witness2)
  k_fill
  refine Gl.walkG (l := PySem.Challenge.rw_grownlines_k01_errors_and_what_they_keep) (n := 63) (k := 5) (x := "_law_script") (sp := Law.sp_law) rfl (by decide) rfl ⟨rfl, by decide, by decide⟩ (fun w h Y => PySem.W.kIn_of Y) ?F (fun _ _ a ns hl hO hS => ⟨a, ns, rfl, hS, hl, fun b => (hO b).elim Or.inl fun z => Or.inr (Or.inr z), (fun _ hp => nomatch hp), fun _ => rfl⟩)
  case F =>
    intro w mg fa h KX G hmg
    refine' Law.all_mk KX G hmg ?a0 ?l0 ?c0 ?k0 ?a1 ?l1 ?c1 ?k1 ?a2 ?l2 ?c2 ?k2 ?l3 ?c3 ?k3 ?l4 ?c4 ?k4 ?a5 ?l5 ?c5 ?k5 ?a6 ?l6 ?c6 ?k6 ?a7 ?l7 ?c7 ?k7 ?l8 ?c8 ?k8 ?l9 ?c9 ?k9 ?l10 ?c10 ?k10 ?l11 ?c11 ?k11 ?l12 ?c12 ?k12 ?l13 ?c13 ?k13 ?a14 ?l14 ?c14 ?k14 ?a15 ?l15 ?c15 ?k15 ?a16 ?l16 ?c16 ?k16 ?a17 ?l17 ?c17 ?k17 ?a18 ?l18 ?c18 ?k18 ?gC_LineError ?xk_LineError ?xs_LineError ?xt_LineError ?xi_LineError ?xd_LineError ?xg_LineError ?xh_LineError ?xl_LineError ?xp_LineError ?xu_LineError ?xw_LineError ?gC_InvalidGrid ?xk_InvalidGrid ?xs_InvalidGrid ?xt_InvalidGrid ?xi_InvalidGrid ?xd_InvalidGrid ?xg_InvalidGrid ?xh_InvalidGrid ?xl_InvalidGrid ?xp_InvalidGrid ?xu_InvalidGrid ?xw_InvalidGrid ?gC_InvalidPoint ?xk_InvalidPoint ?xs_InvalidPoint ?xt_InvalidPoint ?xi_InvalidPoint ?xd_InvalidPoint ?xg_InvalidPoint ?xh_InvalidPoint ?xl_InvalidPoint ?xp_InvalidPoint ?xu_InvalidPoint ?xw_InvalidPoint ?gC_InvalidRule ?xk_InvalidRule ?xs_InvalidRule ?xt_InvalidRule ?xi_InvalidRule ?xd_InvalidRule ?xg_InvalidRule ?xh_InvalidRule ?xl_InvalidRule ?xp_InvalidRule ?xu_InvalidRule ?xw_InvalidRule ?gC_InvalidScheme ?xk_InvalidScheme ?xs_InvalidScheme ?xt_InvalidScheme ?xi_InvalidScheme ?xd_InvalidScheme ?xg_InvalidScheme ?xh_InvalidScheme ?xl_InvalidScheme ?xp_InvalidScheme ?xu_InvalidScheme ?xw_InvalidScheme ?gC_InvalidStand ?xk_InvalidStand ?xs_InvalidStand ?xt_InvalidStand ?xi_InvalidStand ?xd_InvalidStand ?xg_InvalidStand ?xh_InvalidStand ?xl_InvalidStand ?xp_InvalidStand ?xu_InvalidStand ?xw_InvalidStand ?gC_InvalidPaper ?xk_InvalidPaper ?xs_InvalidPaper ?xt_InvalidPaper ?xi_InvalidPaper ?xd_InvalidPaper ?xg_InvalidPaper ?xh_InvalidPaper ?xl_InvalidPaper ?xp_InvalidPaper ?xu_InvalidPaper ?xw_InvalidPaper ?gC_InvalidOperation ?xk_InvalidOperation ?xs_InvalidOperation ?xt_InvalidOperation ?xi_InvalidOperation ?xd_InvalidOperation ?xg_InvalidOperation ?xh_InvalidOperation ?xl_InvalidOperation ?xp_InvalidOperation ?xu_InvalidOperation ?xw_InvalidOperation ?gC_ParseError ?xk_ParseError ?xs_ParseError ?xt_ParseError ?xi_ParseError ?xo_ParseError ?xd_ParseError ?xz_ParseError ?xn_ParseError ?xf_ParseError ?xq_ParseError ?xg_ParseError ?xh_ParseError ?xl_ParseError ?xp_ParseError ?xu_ParseError ?xw_ParseError ?gC_UnknownLetter ?xk_UnknownLetter ?xs_UnknownLetter ?xt_UnknownLetter ?xi_UnknownLetter ?xo_UnknownLetter ?xd_UnknownLetter ?xz_UnknownLetter ?xn_UnknownLetter ?xf_UnknownLetter ?xq_UnknownLetter ?xg_UnknownLetter ?xh_UnknownLetter ?xl_UnknownLetter ?xp_UnknownLetter ?xu_UnknownLetter ?xw_UnknownLetter ?gC_UnknownAddress ?xk_UnknownAddress ?xs_UnknownAddress ?xt_UnknownAddress ?xi_UnknownAddress ?xo_UnknownAddress ?xd_UnknownAddress ?xz_UnknownAddress ?xn_UnknownAddress ?xf_UnknownAddress ?xq_UnknownAddress ?xg_UnknownAddress ?xh_UnknownAddress ?xl_UnknownAddress ?xp_UnknownAddress ?xu_UnknownAddress ?xw_UnknownAddress ?gC_InvalidNumber ?xk_InvalidNumber ?xs_InvalidNumber ?xt_InvalidNumber ?xi_InvalidNumber ?xo_InvalidNumber ?xd_InvalidNumber ?xz_InvalidNumber ?xn_InvalidNumber ?xf_InvalidNumber ?xq_InvalidNumber ?xg_InvalidNumber ?xh_InvalidNumber ?xl_InvalidNumber ?xp_InvalidNumber ?xu_InvalidNumber ?xw_InvalidNumber ?gC_NothingToUndo ?xk_NothingToUndo ?xs_NothingToUndo ?xt_NothingToUndo ?xi_NothingToUndo ?xo_NothingToUndo ?xd_NothingToUndo ?xz_NothingToUndo ?xn_NothingToUndo ?xf_NothingToUndo ?xq_NothingToUndo ?xg_NothingToUndo ?xh_NothingToUndo ?xl_NothingToUndo ?xp_NothingToUndo ?xu_NothingToUndo ?xw_NothingToUndo ?gC_TooMany ?xk_TooMany ?xs_TooMany ?xt_TooMany ?xi_TooMany ?xo_TooMany ?xd_TooMany ?xz_TooMany ?xn_TooMany ?xf_TooMany ?xq_TooMany ?xg_TooMany ?xh_TooMany ?xl_TooMany ?xp_TooMany ?xu_TooMany ?xw_TooMany ?gC_Refused ?xk_Refused ?xs_Refused ?xt_Refused ?xi_Refused ?xo_Refused ?xd_Refused ?xz_Refused ?xn_Refused ?xf_Refused ?xq_Refused ?xg_Refused ?xh_Refused ?xl_Refused ?xp_Refused ?xu_Refused ?xw_Refused ?gC_NoQuotient ?xk_NoQuotient ?xs_NoQuotient ?xt_NoQuotient ?xi_NoQuotient ?xo_NoQuotient ?xd_NoQuotient ?xz_NoQuotient ?xn_NoQuotient ?xf_NoQuotient ?xq_NoQuotient ?xg_NoQuotient ?xh_NoQuotient ?xl_NoQuotient ?xp_NoQuotient ?xu_NoQuotient ?xw_NoQuotient ?xj_LineError_InvalidGrid ?xj_LineError_InvalidPoint ?xj_LineError_InvalidRule ?xj_LineError_InvalidScheme ?xj_LineError_InvalidStand ?xj_LineError_InvalidPaper ?xj_LineError_InvalidOperation ?xj_LineError_ParseError ?xj_LineError_UnknownLetter ?xj_LineError_UnknownAddress ?xj_LineError_InvalidNumber ?xj_LineError_NothingToUndo ?xj_LineError_TooMany ?xj_LineError_Refused ?xj_LineError_NoQuotient ?xj_LineError_LineError ?xj_LineError_ValueError ?xj_LineError_KeyError ?xj_LineError_IndexError ?xj_LineError_LookupError ?xj_LineError_RuntimeError ?xj_LineError_OverflowError ?xj_LineError_ZeroDivisionError ?xj_LineError_ArithmeticError ?xj_InvalidGrid_InvalidGrid ?xj_InvalidGrid_InvalidPoint ?xj_InvalidGrid_InvalidRule ?xj_InvalidGrid_InvalidScheme ?xj_InvalidGrid_InvalidStand ?xj_InvalidGrid_InvalidPaper ?xj_InvalidGrid_InvalidOperation ?xj_InvalidGrid_ParseError ?xj_InvalidGrid_UnknownLetter ?xj_InvalidGrid_UnknownAddress ?xj_InvalidGrid_InvalidNumber ?xj_InvalidGrid_NothingToUndo ?xj_InvalidGrid_TooMany ?xj_InvalidGrid_Refused ?xj_InvalidGrid_NoQuotient ?xj_InvalidGrid_LineError ?xj_InvalidGrid_ValueError ?xj_InvalidGrid_KeyError ?xj_InvalidGrid_IndexError ?xj_InvalidGrid_LookupError ?xj_InvalidGrid_RuntimeError ?xj_InvalidGrid_OverflowError ?xj_InvalidGrid_ZeroDivisionError ?xj_InvalidGrid_ArithmeticError ?xj_InvalidPoint_InvalidGrid ?xj_InvalidPoint_InvalidPoint ?xj_InvalidPoint_InvalidRule ?xj_InvalidPoint_InvalidScheme ?xj_InvalidPoint_InvalidStand ?xj_InvalidPoint_InvalidPaper ?xj_InvalidPoint_InvalidOperation ?xj_InvalidPoint_ParseError ?xj_InvalidPoint_UnknownLetter ?xj_InvalidPoint_UnknownAddress ?xj_InvalidPoint_InvalidNumber ?xj_InvalidPoint_NothingToUndo ?xj_InvalidPoint_TooMany ?xj_InvalidPoint_Refused ?xj_InvalidPoint_NoQuotient ?xj_InvalidPoint_LineError ?xj_InvalidPoint_ValueError ?xj_InvalidPoint_KeyError ?xj_InvalidPoint_IndexError ?xj_InvalidPoint_LookupError ?xj_InvalidPoint_RuntimeError ?xj_InvalidPoint_OverflowError ?xj_InvalidPoint_ZeroDivisionError ?xj_InvalidPoint_ArithmeticError ?xj_InvalidRule_InvalidGrid ?xj_InvalidRule_InvalidPoint ?xj_InvalidRule_InvalidRule ?xj_InvalidRule_InvalidScheme ?xj_InvalidRule_InvalidStand ?xj_InvalidRule_InvalidPaper ?xj_InvalidRule_InvalidOperation ?xj_InvalidRule_ParseError ?xj_InvalidRule_UnknownLetter ?xj_InvalidRule_UnknownAddress ?xj_InvalidRule_InvalidNumber ?xj_InvalidRule_NothingToUndo ?xj_InvalidRule_TooMany ?xj_InvalidRule_Refused ?xj_InvalidRule_NoQuotient ?xj_InvalidRule_LineError ?xj_InvalidRule_ValueError ?xj_InvalidRule_KeyError ?xj_InvalidRule_IndexError ?xj_InvalidRule_LookupError ?xj_InvalidRule_RuntimeError ?xj_InvalidRule_OverflowError ?xj_InvalidRule_ZeroDivisionError ?xj_InvalidRule_ArithmeticError ?xj_InvalidScheme_InvalidGrid ?xj_InvalidScheme_InvalidPoint ?xj_InvalidScheme_InvalidRule ?xj_InvalidScheme_InvalidScheme ?xj_InvalidScheme_InvalidStand ?xj_InvalidScheme_InvalidPaper ?xj_InvalidScheme_InvalidOperation ?xj_InvalidScheme_ParseError ?xj_InvalidScheme_UnknownLetter ?xj_InvalidScheme_UnknownAddress ?xj_InvalidScheme_InvalidNumber ?xj_InvalidScheme_NothingToUndo ?xj_InvalidScheme_TooMany ?xj_InvalidScheme_Refused ?xj_InvalidScheme_NoQuotient ?xj_InvalidScheme_LineError ?xj_InvalidScheme_ValueError ?xj_InvalidScheme_KeyError ?xj_InvalidScheme_IndexError ?xj_InvalidScheme_LookupError ?xj_InvalidScheme_RuntimeError ?xj_InvalidScheme_OverflowError ?xj_InvalidScheme_ZeroDivisionError ?xj_InvalidScheme_ArithmeticError ?xj_InvalidStand_InvalidGrid ?xj_InvalidStand_InvalidPoint ?xj_InvalidStand_InvalidRule ?xj_InvalidStand_InvalidScheme ?xj_InvalidStand_InvalidStand ?xj_InvalidStand_InvalidPaper ?xj_InvalidStand_InvalidOperation ?xj_InvalidStand_ParseError ?xj_InvalidStand_UnknownLetter ?xj_InvalidStand_UnknownAddress ?xj_InvalidStand_InvalidNumber ?xj_InvalidStand_NothingToUndo ?xj_InvalidStand_TooMany ?xj_InvalidStand_Refused ?xj_InvalidStand_NoQuotient ?xj_InvalidStand_LineError ?xj_InvalidStand_ValueError ?xj_InvalidStand_KeyError ?xj_InvalidStand_IndexError ?xj_InvalidStand_LookupError ?xj_InvalidStand_RuntimeError ?xj_InvalidStand_OverflowError ?xj_InvalidStand_ZeroDivisionError ?xj_InvalidStand_ArithmeticError ?xj_InvalidPaper_InvalidGrid ?xj_InvalidPaper_InvalidPoint ?xj_InvalidPaper_InvalidRule ?xj_InvalidPaper_InvalidScheme ?xj_InvalidPaper_InvalidStand ?xj_InvalidPaper_InvalidPaper ?xj_InvalidPaper_InvalidOperation ?xj_InvalidPaper_ParseError ?xj_InvalidPaper_UnknownLetter ?xj_InvalidPaper_UnknownAddress ?xj_InvalidPaper_InvalidNumber ?xj_InvalidPaper_NothingToUndo ?xj_InvalidPaper_TooMany ?xj_InvalidPaper_Refused ?xj_InvalidPaper_NoQuotient ?xj_InvalidPaper_LineError ?xj_InvalidPaper_ValueError ?xj_InvalidPaper_KeyError ?xj_InvalidPaper_IndexError ?xj_InvalidPaper_LookupError ?xj_InvalidPaper_RuntimeError ?xj_InvalidPaper_OverflowError ?xj_InvalidPaper_ZeroDivisionError ?xj_InvalidPaper_ArithmeticError ?xj_InvalidOperation_InvalidGrid ?xj_InvalidOperation_InvalidPoint ?xj_InvalidOperation_InvalidRule ?xj_InvalidOperation_InvalidScheme ?xj_InvalidOperation_InvalidStand ?xj_InvalidOperation_InvalidPaper ?xj_InvalidOperation_InvalidOperation ?xj_InvalidOperation_ParseError ?xj_InvalidOperation_UnknownLetter ?xj_InvalidOperation_UnknownAddress ?xj_InvalidOperation_InvalidNumber ?xj_InvalidOperation_NothingToUndo ?xj_InvalidOperation_TooMany ?xj_InvalidOperation_Refused ?xj_InvalidOperation_NoQuotient ?xj_InvalidOperation_LineError ?xj_InvalidOperation_ValueError ?xj_InvalidOperation_KeyError ?xj_InvalidOperation_IndexError ?xj_InvalidOperation_LookupError ?xj_InvalidOperation_RuntimeError ?xj_InvalidOperation_OverflowError ?xj_InvalidOperation_ZeroDivisionError ?xj_InvalidOperation_ArithmeticError ?xj_ParseError_InvalidGrid ?xj_ParseError_InvalidPoint ?xj_ParseError_InvalidRule ?xj_ParseError_InvalidScheme ?xj_ParseError_InvalidStand ?xj_ParseError_InvalidPaper ?xj_ParseError_InvalidOperation ?xj_ParseError_ParseError ?xj_ParseError_UnknownLetter ?xj_ParseError_UnknownAddress ?xj_ParseError_InvalidNumber ?xj_ParseError_NothingToUndo ?xj_ParseError_TooMany ?xj_ParseError_Refused ?xj_ParseError_NoQuotient ?xj_ParseError_LineError ?xj_ParseError_ValueError ?xj_ParseError_KeyError ?xj_ParseError_IndexError ?xj_ParseError_LookupError ?xj_ParseError_RuntimeError ?xj_ParseError_OverflowError ?xj_ParseError_ZeroDivisionError ?xj_ParseError_ArithmeticError ?xj_UnknownLetter_InvalidGrid ?xj_UnknownLetter_InvalidPoint ?xj_UnknownLetter_InvalidRule ?xj_UnknownLetter_InvalidScheme ?xj_UnknownLetter_InvalidStand ?xj_UnknownLetter_InvalidPaper ?xj_UnknownLetter_InvalidOperation ?xj_UnknownLetter_ParseError ?xj_UnknownLetter_UnknownLetter ?xj_UnknownLetter_UnknownAddress ?xj_UnknownLetter_InvalidNumber ?xj_UnknownLetter_NothingToUndo ?xj_UnknownLetter_TooMany ?xj_UnknownLetter_Refused ?xj_UnknownLetter_NoQuotient ?xj_UnknownLetter_LineError ?xj_UnknownLetter_ValueError ?xj_UnknownLetter_KeyError ?xj_UnknownLetter_IndexError ?xj_UnknownLetter_LookupError ?xj_UnknownLetter_RuntimeError ?xj_UnknownLetter_OverflowError ?xj_UnknownLetter_ZeroDivisionError ?xj_UnknownLetter_ArithmeticError ?xj_UnknownAddress_InvalidGrid ?xj_UnknownAddress_InvalidPoint ?xj_UnknownAddress_InvalidRule ?xj_UnknownAddress_InvalidScheme ?xj_UnknownAddress_InvalidStand ?xj_UnknownAddress_InvalidPaper ?xj_UnknownAddress_InvalidOperation ?xj_UnknownAddress_ParseError ?xj_UnknownAddress_UnknownLetter ?xj_UnknownAddress_UnknownAddress ?xj_UnknownAddress_InvalidNumber ?xj_UnknownAddress_NothingToUndo ?xj_UnknownAddress_TooMany ?xj_UnknownAddress_Refused ?xj_UnknownAddress_NoQuotient ?xj_UnknownAddress_LineError ?xj_UnknownAddress_ValueError ?xj_UnknownAddress_KeyError ?xj_UnknownAddress_IndexError ?xj_UnknownAddress_LookupError ?xj_UnknownAddress_RuntimeError ?xj_UnknownAddress_OverflowError ?xj_UnknownAddress_ZeroDivisionError ?xj_UnknownAddress_ArithmeticError ?xj_InvalidNumber_InvalidGrid ?xj_InvalidNumber_InvalidPoint ?xj_InvalidNumber_InvalidRule ?xj_InvalidNumber_InvalidScheme ?xj_InvalidNumber_InvalidStand ?xj_InvalidNumber_InvalidPaper ?xj_InvalidNumber_InvalidOperation ?xj_InvalidNumber_ParseError ?xj_InvalidNumber_UnknownLetter ?xj_InvalidNumber_UnknownAddress ?xj_InvalidNumber_InvalidNumber ?xj_InvalidNumber_NothingToUndo ?xj_InvalidNumber_TooMany ?xj_InvalidNumber_Refused ?xj_InvalidNumber_NoQuotient ?xj_InvalidNumber_LineError ?xj_InvalidNumber_ValueError ?xj_InvalidNumber_KeyError ?xj_InvalidNumber_IndexError ?xj_InvalidNumber_LookupError ?xj_InvalidNumber_RuntimeError ?xj_InvalidNumber_OverflowError ?xj_InvalidNumber_ZeroDivisionError ?xj_InvalidNumber_ArithmeticError ?xj_NothingToUndo_InvalidGrid ?xj_NothingToUndo_InvalidPoint ?xj_NothingToUndo_InvalidRule ?xj_NothingToUndo_InvalidScheme ?xj_NothingToUndo_InvalidStand ?xj_NothingToUndo_InvalidPaper ?xj_NothingToUndo_InvalidOperation ?xj_NothingToUndo_ParseError ?xj_NothingToUndo_UnknownLetter ?xj_NothingToUndo_UnknownAddress ?xj_NothingToUndo_InvalidNumber ?xj_NothingToUndo_NothingToUndo ?xj_NothingToUndo_TooMany ?xj_NothingToUndo_Refused ?xj_NothingToUndo_NoQuotient ?xj_NothingToUndo_LineError ?xj_NothingToUndo_ValueError ?xj_NothingToUndo_KeyError ?xj_NothingToUndo_IndexError ?xj_NothingToUndo_LookupError ?xj_NothingToUndo_RuntimeError ?xj_NothingToUndo_OverflowError ?xj_NothingToUndo_ZeroDivisionError ?xj_NothingToUndo_ArithmeticError ?xj_TooMany_InvalidGrid ?xj_TooMany_InvalidPoint ?xj_TooMany_InvalidRule ?xj_TooMany_InvalidScheme ?xj_TooMany_InvalidStand ?xj_TooMany_InvalidPaper ?xj_TooMany_InvalidOperation ?xj_TooMany_ParseError ?xj_TooMany_UnknownLetter ?xj_TooMany_UnknownAddress ?xj_TooMany_InvalidNumber ?xj_TooMany_NothingToUndo ?xj_TooMany_TooMany ?xj_TooMany_Refused ?xj_TooMany_NoQuotient ?xj_TooMany_LineError ?xj_TooMany_ValueError ?xj_TooMany_KeyError ?xj_TooMany_IndexError ?xj_TooMany_LookupError ?xj_TooMany_RuntimeError ?xj_TooMany_OverflowError ?xj_TooMany_ZeroDivisionError ?xj_TooMany_ArithmeticError ?xj_Refused_InvalidGrid ?xj_Refused_InvalidPoint ?xj_Refused_InvalidRule ?xj_Refused_InvalidScheme ?xj_Refused_InvalidStand ?xj_Refused_InvalidPaper ?xj_Refused_InvalidOperation ?xj_Refused_ParseError ?xj_Refused_UnknownLetter ?xj_Refused_UnknownAddress ?xj_Refused_InvalidNumber ?xj_Refused_NothingToUndo ?xj_Refused_TooMany ?xj_Refused_Refused ?xj_Refused_NoQuotient ?xj_Refused_LineError ?xj_Refused_ValueError ?xj_Refused_KeyError ?xj_Refused_IndexError ?xj_Refused_LookupError ?xj_Refused_RuntimeError ?xj_Refused_OverflowError ?xj_Refused_ZeroDivisionError ?xj_Refused_ArithmeticError ?xj_NoQuotient_InvalidGrid ?xj_NoQuotient_InvalidPoint ?xj_NoQuotient_InvalidRule ?xj_NoQuotient_InvalidScheme ?xj_NoQuotient_InvalidStand ?xj_NoQuotient_InvalidPaper ?xj_NoQuotient_InvalidOperation ?xj_NoQuotient_ParseError ?xj_NoQuotient_UnknownLetter ?xj_NoQuotient_UnknownAddress ?xj_NoQuotient_InvalidNumber ?xj_NoQuotient_NothingToUndo ?xj_NoQuotient_TooMany ?xj_NoQuotient_Refused ?xj_NoQuotient_NoQuotient ?xj_NoQuotient_LineError ?xj_NoQuotient_ValueError ?xj_NoQuotient_KeyError ?xj_NoQuotient_IndexError ?xj_NoQuotient_LookupError ?xj_NoQuotient_RuntimeError ?xj_NoQuotient_OverflowError ?xj_NoQuotient_ZeroDivisionError ?xj_NoQuotient_ArithmeticError ?xm_LineError_LineError ?xm_LineError_UnknownAddress ?xm_LineError_NoQuotient ?xm_InvalidGrid_LineError ?xm_InvalidGrid_UnknownAddress ?xm_InvalidGrid_NoQuotient ?xm_InvalidPoint_LineError ?xm_InvalidPoint_UnknownAddress ?xm_InvalidPoint_NoQuotient ?xm_InvalidRule_LineError ?xm_InvalidRule_UnknownAddress ?xm_InvalidRule_NoQuotient ?xm_InvalidScheme_LineError ?xm_InvalidScheme_UnknownAddress ?xm_InvalidScheme_NoQuotient ?xm_InvalidStand_LineError ?xm_InvalidStand_UnknownAddress ?xm_InvalidStand_NoQuotient ?xm_InvalidPaper_LineError ?xm_InvalidPaper_UnknownAddress ?xm_InvalidPaper_NoQuotient ?xm_InvalidOperation_LineError ?xm_InvalidOperation_UnknownAddress ?xm_InvalidOperation_NoQuotient ?xm_ParseError_LineError ?xm_ParseError_UnknownAddress ?xm_ParseError_NoQuotient ?xm_UnknownLetter_LineError ?xm_UnknownLetter_UnknownAddress ?xm_UnknownLetter_NoQuotient ?xm_UnknownAddress_LineError ?xm_UnknownAddress_UnknownAddress ?xm_UnknownAddress_NoQuotient ?xm_InvalidNumber_LineError ?xm_InvalidNumber_UnknownAddress ?xm_InvalidNumber_NoQuotient ?xm_NothingToUndo_LineError ?xm_NothingToUndo_UnknownAddress ?xm_NothingToUndo_NoQuotient ?xm_TooMany_LineError ?xm_TooMany_UnknownAddress ?xm_TooMany_NoQuotient ?xm_Refused_LineError ?xm_Refused_UnknownAddress ?xm_Refused_NoQuotient ?xm_NoQuotient_LineError ?xm_NoQuotient_UnknownAddress ?xm_NoQuotient_NoQuotient ?xc_LineError ?xc_UnknownAddress ?xc_NoQuotient ?z_ArithmeticError ?z_IndexError ?z_KeyError ?z_LookupError ?z_OverflowError ?z_RuntimeError ?z_ValueError ?z_ZeroDivisionError ?z_abs ?z_int ?z_isinstance ?z_len ?z_max ?z_min ?z_range ?z_repr
    (case gC_LineError => k_is)
    (case gC_InvalidGrid => k_is)
    (case gC_InvalidPoint => k_is)
    (case gC_InvalidRule => k_is)
    (case gC_InvalidScheme => k_is)
    (case gC_InvalidStand => k_is)
    (case gC_InvalidPaper => k_is)
    (case gC_InvalidOperation => k_is)
    (case gC_ParseError => k_is)
    (case gC_UnknownLetter => k_is)
    (case gC_UnknownAddress => k_is)
    (case gC_InvalidNumber => k_is)
    (case gC_NothingToUndo => k_is)
    (case gC_TooMany => k_is)
    (case gC_Refused => k_is)
    (case gC_NoQuotient => k_is)
    (case xn_ParseError => k_is)
    (case xn_UnknownLetter => k_is)
    (case xn_UnknownAddress => k_is)
    (case xn_InvalidNumber => k_is)
    (case xn_NothingToUndo => k_is)
    (case xn_TooMany => k_is)
    (case xn_Refused => k_is)
    (case xn_NoQuotient => k_is)
    (case a0 => k_is)
    (case l0 => k_is)
    (case c0 => k_is)
    (case k0 => k_is)
    (case a1 => k_is)
    (case l1 => k_is)
    (case c1 => k_is)
    (case k1 => k_is)
    (case a2 => k_is)
    (case l2 => k_is)
    (case c2 => k_is)
    (case k2 => k_is)
    (case l3 => k_is)
    (case c3 => k_is)
    (case k3 => k_is)
    (case l4 => k_is)
    (case c4 => k_is)
    (case k4 => k_is)
    (case a5 => k_is)
    (case l5 => k_is)
    (case c5 => k_is)
    (case k5 => k_is)
    (case a6 => k_is)
    (case l6 => k_is)
    (case c6 => k_is)
    (case k6 => k_is)
    (case a7 => k_is)
    (case l7 => k_is)
    (case c7 => k_is)
    (case k7 => k_is)
    (case l8 => k_is)
    (case c8 => k_is)
    (case k8 => k_is)
    (case l9 => k_is)
    (case c9 => k_is)
    (case k9 => k_is)
    (case l10 => k_is)
    (case c10 => k_is)
    (case k10 => k_is)
    (case l11 => k_is)
    (case c11 => k_is)
    (case k11 => k_is)
    (case l12 => k_is)
    (case c12 => k_is)
    (case k12 => k_is)
    (case l13 => k_is)
    (case c13 => k_is)
    (case k13 => k_is)
    (case a14 => k_is)
    (case l14 => k_is)
    (case c14 => k_is)
    (case k14 => k_is)
    (case a15 => k_is)
    (case l15 => k_is)
    (case c15 => k_is)
    (case k15 => k_is)
    (case a16 => k_is)
    (case l16 => k_is)
    (case c16 => k_is)
    (case k16 => k_is)
    (case a17 => k_is)
    (case l17 => k_is)
    (case c17 => k_is)
    (case k17 => k_is)
    (case a18 => k_is)
    (case l18 => k_is)
    (case c18 => k_is)
    (case k18 => k_is)
    (case xk_LineError => k_is)
    (case xs_LineError => k_is)
    (case xt_LineError => k_is)
    (case xi_LineError => k_exc)
    (case xd_LineError => k_is)
    (case xg_LineError => k_is)
    (case xh_LineError => k_is)
    (case xl_LineError => k_is)
    (case xp_LineError => k_is)
    (case xu_LineError => k_is)
    (case xw_LineError => k_is)
    (case xk_InvalidGrid => k_is)
    (case xs_InvalidGrid => k_is)
    (case xt_InvalidGrid => k_is)
    (case xi_InvalidGrid => k_exc)
    (case xd_InvalidGrid => k_is)
    (case xg_InvalidGrid => k_is)
    (case xh_InvalidGrid => k_is)
    (case xl_InvalidGrid => k_is)
    (case xp_InvalidGrid => k_is)
    (case xu_InvalidGrid => k_is)
    (case xw_InvalidGrid => k_is)
    (case xk_InvalidPoint => k_is)
    (case xs_InvalidPoint => k_is)
    (case xt_InvalidPoint => k_is)
    (case xi_InvalidPoint => k_exc)
    (case xd_InvalidPoint => k_is)
    (case xg_InvalidPoint => k_is)
    (case xh_InvalidPoint => k_is)
    (case xl_InvalidPoint => k_is)
    (case xp_InvalidPoint => k_is)
    (case xu_InvalidPoint => k_is)
    (case xw_InvalidPoint => k_is)
    (case xk_InvalidRule => k_is)
    (case xs_InvalidRule => k_is)
    (case xt_InvalidRule => k_is)
    (case xi_InvalidRule => k_exc)
    (case xd_InvalidRule => k_is)
    (case xg_InvalidRule => k_is)
    (case xh_InvalidRule => k_is)
    (case xl_InvalidRule => k_is)
    (case xp_InvalidRule => k_is)
    (case xu_InvalidRule => k_is)
    (case xw_InvalidRule => k_is)
    (case xk_InvalidScheme => k_is)
    (case xs_InvalidScheme => k_is)
    (case xt_InvalidScheme => k_is)
    (case xi_InvalidScheme => k_exc)
    (case xd_InvalidScheme => k_is)
    (case xg_InvalidScheme => k_is)
    (case xh_InvalidScheme => k_is)
    (case xl_InvalidScheme => k_is)
    (case xp_InvalidScheme => k_is)
    (case xu_InvalidScheme => k_is)
    (case xw_InvalidScheme => k_is)
    (case xk_InvalidStand => k_is)
    (case xs_InvalidStand => k_is)
    (case xt_InvalidStand => k_is)
    (case xi_InvalidStand => k_exc)
    (case xd_InvalidStand => k_is)
    (case xg_InvalidStand => k_is)
    (case xh_InvalidStand => k_is)
    (case xl_InvalidStand => k_is)
    (case xp_InvalidStand => k_is)
    (case xu_InvalidStand => k_is)
    (case xw_InvalidStand => k_is)
    (case xk_InvalidPaper => k_is)
    (case xs_InvalidPaper => k_is)
    (case xt_InvalidPaper => k_is)
    (case xi_InvalidPaper => k_exc)
    (case xd_InvalidPaper => k_is)
    (case xg_InvalidPaper => k_is)
    (case xh_InvalidPaper => k_is)
    (case xl_InvalidPaper => k_is)
    (case xp_InvalidPaper => k_is)
    (case xu_InvalidPaper => k_is)
    (case xw_InvalidPaper => k_is)
    (case xk_InvalidOperation => k_is)
    (case xs_InvalidOperation => k_is)
    (case xt_InvalidOperation => k_is)
    (case xi_InvalidOperation => k_exc)
    (case xd_InvalidOperation => k_is)
    (case xg_InvalidOperation => k_is)
    (case xh_InvalidOperation => k_is)
    (case xl_InvalidOperation => k_is)
    (case xp_InvalidOperation => k_is)
    (case xu_InvalidOperation => k_is)
    (case xw_InvalidOperation => k_is)
    (case xk_ParseError => k_is)
    (case xs_ParseError => k_is)
    (case xt_ParseError => k_is)
    (case xi_ParseError => kx_is)
    (case xo_ParseError => kx_is)
    (case xd_ParseError => k_is)
    (case xz_ParseError => k_is)
    (case xf_ParseError => k_is)
    (case xq_ParseError => k_is)
    (case xg_ParseError => k_is)
    (case xh_ParseError => k_is)
    (case xl_ParseError => k_is)
    (case xp_ParseError => k_is)
    (case xu_ParseError => k_is)
    (case xw_ParseError => k_is)
    (case xk_UnknownLetter => k_is)
    (case xs_UnknownLetter => k_is)
    (case xt_UnknownLetter => k_is)
    (case xi_UnknownLetter => kx_is)
    (case xo_UnknownLetter => kx_is)
    (case xd_UnknownLetter => k_is)
    (case xz_UnknownLetter => k_is)
    (case xf_UnknownLetter => k_is)
    (case xq_UnknownLetter => k_is)
    (case xg_UnknownLetter => k_is)
    (case xh_UnknownLetter => k_is)
    (case xl_UnknownLetter => k_is)
    (case xp_UnknownLetter => k_is)
    (case xu_UnknownLetter => k_is)
    (case xw_UnknownLetter => k_is)
    (case xk_UnknownAddress => k_is)
    (case xs_UnknownAddress => k_is)
    (case xt_UnknownAddress => k_is)
    (case xi_UnknownAddress => kx_is)
    (case xo_UnknownAddress => kx_is)
    (case xd_UnknownAddress => k_is)
    (case xz_UnknownAddress => k_is)
    (case xf_UnknownAddress => k_is)
    (case xq_UnknownAddress => k_is)
    (case xg_UnknownAddress => k_is)
    (case xh_UnknownAddress => k_is)
    (case xl_UnknownAddress => k_is)
    (case xp_UnknownAddress => k_is)
    (case xu_UnknownAddress => k_is)
    (case xw_UnknownAddress => k_is)
    (case xk_InvalidNumber => k_is)
    (case xs_InvalidNumber => k_is)
    (case xt_InvalidNumber => k_is)
    (case xi_InvalidNumber => kx_is)
    (case xo_InvalidNumber => kx_is)
    (case xd_InvalidNumber => k_is)
    (case xz_InvalidNumber => k_is)
    (case xf_InvalidNumber => k_is)
    (case xq_InvalidNumber => k_is)
    (case xg_InvalidNumber => k_is)
    (case xh_InvalidNumber => k_is)
    (case xl_InvalidNumber => k_is)
    (case xp_InvalidNumber => k_is)
    (case xu_InvalidNumber => k_is)
    (case xw_InvalidNumber => k_is)
    (case xk_NothingToUndo => k_is)
    (case xs_NothingToUndo => k_is)
    (case xt_NothingToUndo => k_is)
    (case xi_NothingToUndo => kx_is)
    (case xo_NothingToUndo => kx_is)
    (case xd_NothingToUndo => k_is)
    (case xz_NothingToUndo => k_is)
    (case xf_NothingToUndo => k_is)
    (case xq_NothingToUndo => k_is)
    (case xg_NothingToUndo => k_is)
    (case xh_NothingToUndo => k_is)
    (case xl_NothingToUndo => k_is)
    (case xp_NothingToUndo => k_is)
    (case xu_NothingToUndo => k_is)
    (case xw_NothingToUndo => k_is)
    (case xk_TooMany => k_is)
    (case xs_TooMany => k_is)
    (case xt_TooMany => k_is)
    (case xi_TooMany => kx_is)
    (case xo_TooMany => kx_is)
    (case xd_TooMany => k_is)
    (case xz_TooMany => k_is)
    (case xf_TooMany => k_is)
    (case xq_TooMany => k_is)
    (case xg_TooMany => k_is)
    (case xh_TooMany => k_is)
    (case xl_TooMany => k_is)
    (case xp_TooMany => k_is)
    (case xu_TooMany => k_is)
    (case xw_TooMany => k_is)
    (case xk_Refused => k_is)
    (case xs_Refused => k_is)
    (case xt_Refused => k_is)
    (case xi_Refused => kx_is)
    (case xo_Refused => kx_is)
    (case xd_Refused => k_is)
    (case xz_Refused => k_is)
    (case xf_Refused => k_is)
    (case xq_Refused => k_is)
    (case xg_Refused => k_is)
    (case xh_Refused => k_is)
    (case xl_Refused => k_is)
    (case xp_Refused => k_is)
    (case xu_Refused => k_is)
    (case xw_Refused => k_is)
    (case xk_NoQuotient => k_is)
    (case xs_NoQuotient => k_is)
    (case xt_NoQuotient => k_is)
    (case xi_NoQuotient => kx_is)
    (case xo_NoQuotient => kx_is)
    (case xd_NoQuotient => k_is)
    (case xz_NoQuotient => k_is)
    (case xf_NoQuotient => k_is)
    (case xq_NoQuotient => k_is)
    (case xg_NoQuotient => k_is)
    (case xh_NoQuotient => k_is)
    (case xl_NoQuotient => k_is)
    (case xp_NoQuotient => k_is)
    (case xu_NoQuotient => k_is)
    (case xw_NoQuotient => k_is)
    (case xj_LineError_InvalidGrid => kit_is)
    (case xj_LineError_InvalidPoint => kit_is)
    (case xj_LineError_InvalidRule => kit_is)
    (case xj_LineError_InvalidScheme => kit_is)
    (case xj_LineError_InvalidStand => kit_is)
    (case xj_LineError_InvalidPaper => kit_is)
    (case xj_LineError_InvalidOperation => kit_is)
    (case xj_LineError_ParseError => kit_is)
    (case xj_LineError_UnknownLetter => kit_is)
    (case xj_LineError_UnknownAddress => kit_is)
    (case xj_LineError_InvalidNumber => kit_is)
    (case xj_LineError_NothingToUndo => kit_is)
    (case xj_LineError_TooMany => kit_is)
    (case xj_LineError_Refused => kit_is)
    (case xj_LineError_NoQuotient => kit_is)
    (case xj_LineError_LineError => kit_is)
    (case xj_LineError_ValueError => kit_is)
    (case xj_LineError_KeyError => kit_is)
    (case xj_LineError_IndexError => kit_is)
    (case xj_LineError_LookupError => kit_is)
    (case xj_LineError_RuntimeError => kit_is)
    (case xj_LineError_OverflowError => kit_is)
    (case xj_LineError_ZeroDivisionError => kit_is)
    (case xj_LineError_ArithmeticError => kit_is)
    (case xj_InvalidGrid_InvalidGrid => kit_is)
    (case xj_InvalidGrid_InvalidPoint => kit_is)
    (case xj_InvalidGrid_InvalidRule => kit_is)
    (case xj_InvalidGrid_InvalidScheme => kit_is)
    (case xj_InvalidGrid_InvalidStand => kit_is)
    (case xj_InvalidGrid_InvalidPaper => kit_is)
    (case xj_InvalidGrid_InvalidOperation => kit_is)
    (case xj_InvalidGrid_ParseError => kit_is)
    (case xj_InvalidGrid_UnknownLetter => kit_is)
    (case xj_InvalidGrid_UnknownAddress => kit_is)
    (case xj_InvalidGrid_InvalidNumber => kit_is)
    (case xj_InvalidGrid_NothingToUndo => kit_is)
    (case xj_InvalidGrid_TooMany => kit_is)
    (case xj_InvalidGrid_Refused => kit_is)
    (case xj_InvalidGrid_NoQuotient => kit_is)
    (case xj_InvalidGrid_LineError => kit_is)
    (case xj_InvalidGrid_ValueError => kit_is)
    (case xj_InvalidGrid_KeyError => kit_is)
    (case xj_InvalidGrid_IndexError => kit_is)
    (case xj_InvalidGrid_LookupError => kit_is)
    (case xj_InvalidGrid_RuntimeError => kit_is)
    (case xj_InvalidGrid_OverflowError => kit_is)
    (case xj_InvalidGrid_ZeroDivisionError => kit_is)
    (case xj_InvalidGrid_ArithmeticError => kit_is)
    (case xj_InvalidPoint_InvalidGrid => kit_is)
    (case xj_InvalidPoint_InvalidPoint => kit_is)
    (case xj_InvalidPoint_InvalidRule => kit_is)
    (case xj_InvalidPoint_InvalidScheme => kit_is)
    (case xj_InvalidPoint_InvalidStand => kit_is)
    (case xj_InvalidPoint_InvalidPaper => kit_is)
    (case xj_InvalidPoint_InvalidOperation => kit_is)
    (case xj_InvalidPoint_ParseError => kit_is)
    (case xj_InvalidPoint_UnknownLetter => kit_is)
    (case xj_InvalidPoint_UnknownAddress => kit_is)
    (case xj_InvalidPoint_InvalidNumber => kit_is)
    (case xj_InvalidPoint_NothingToUndo => kit_is)
    (case xj_InvalidPoint_TooMany => kit_is)
    (case xj_InvalidPoint_Refused => kit_is)
    (case xj_InvalidPoint_NoQuotient => kit_is)
    (case xj_InvalidPoint_LineError => kit_is)
    (case xj_InvalidPoint_ValueError => kit_is)
    (case xj_InvalidPoint_KeyError => kit_is)
    (case xj_InvalidPoint_IndexError => kit_is)
    (case xj_InvalidPoint_LookupError => kit_is)
    (case xj_InvalidPoint_RuntimeError => kit_is)
    (case xj_InvalidPoint_OverflowError => kit_is)
    (case xj_InvalidPoint_ZeroDivisionError => kit_is)
    (case xj_InvalidPoint_ArithmeticError => kit_is)
    (case xj_InvalidRule_InvalidGrid => kit_is)
    (case xj_InvalidRule_InvalidPoint => kit_is)
    (case xj_InvalidRule_InvalidRule => kit_is)
    (case xj_InvalidRule_InvalidScheme => kit_is)
    (case xj_InvalidRule_InvalidStand => kit_is)
    (case xj_InvalidRule_InvalidPaper => kit_is)
    (case xj_InvalidRule_InvalidOperation => kit_is)
    (case xj_InvalidRule_ParseError => kit_is)
    (case xj_InvalidRule_UnknownLetter => kit_is)
    (case xj_InvalidRule_UnknownAddress => kit_is)
    (case xj_InvalidRule_InvalidNumber => kit_is)
    (case xj_InvalidRule_NothingToUndo => kit_is)
    (case xj_InvalidRule_TooMany => kit_is)
    (case xj_InvalidRule_Refused => kit_is)
    (case xj_InvalidRule_NoQuotient => kit_is)
    (case xj_InvalidRule_LineError => kit_is)
    (case xj_InvalidRule_ValueError => kit_is)
    (case xj_InvalidRule_KeyError => kit_is)
    (case xj_InvalidRule_IndexError => kit_is)
    (case xj_InvalidRule_LookupError => kit_is)
    (case xj_InvalidRule_RuntimeError => kit_is)
    (case xj_InvalidRule_OverflowError => kit_is)
    (case xj_InvalidRule_ZeroDivisionError => kit_is)
    (case xj_InvalidRule_ArithmeticError => kit_is)
    (case xj_InvalidScheme_InvalidGrid => kit_is)
    (case xj_InvalidScheme_InvalidPoint => kit_is)
    (case xj_InvalidScheme_InvalidRule => kit_is)
    (case xj_InvalidScheme_InvalidScheme => kit_is)
    (case xj_InvalidScheme_InvalidStand => kit_is)
    (case xj_InvalidScheme_InvalidPaper => kit_is)
    (case xj_InvalidScheme_InvalidOperation => kit_is)
    (case xj_InvalidScheme_ParseError => kit_is)
    (case xj_InvalidScheme_UnknownLetter => kit_is)
    (case xj_InvalidScheme_UnknownAddress => kit_is)
    (case xj_InvalidScheme_InvalidNumber => kit_is)
    (case xj_InvalidScheme_NothingToUndo => kit_is)
    (case xj_InvalidScheme_TooMany => kit_is)
    (case xj_InvalidScheme_Refused => kit_is)
    (case xj_InvalidScheme_NoQuotient => kit_is)
    (case xj_InvalidScheme_LineError => kit_is)
    (case xj_InvalidScheme_ValueError => kit_is)
    (case xj_InvalidScheme_KeyError => kit_is)
    (case xj_InvalidScheme_IndexError => kit_is)
    (case xj_InvalidScheme_LookupError => kit_is)
    (case xj_InvalidScheme_RuntimeError => kit_is)
    (case xj_InvalidScheme_OverflowError => kit_is)
    (case xj_InvalidScheme_ZeroDivisionError => kit_is)
    (case xj_InvalidScheme_ArithmeticError => kit_is)
    (case xj_InvalidStand_InvalidGrid => kit_is)
    (case xj_InvalidStand_InvalidPoint => kit_is)
    (case xj_InvalidStand_InvalidRule => kit_is)
    (case xj_InvalidStand_InvalidScheme => kit_is)
    (case xj_InvalidStand_InvalidStand => kit_is)
    (case xj_InvalidStand_InvalidPaper => kit_is)
    (case xj_InvalidStand_InvalidOperation => kit_is)
    (case xj_InvalidStand_ParseError => kit_is)
    (case xj_InvalidStand_UnknownLetter => kit_is)
    (case xj_InvalidStand_UnknownAddress => kit_is)
    (case xj_InvalidStand_InvalidNumber => kit_is)
    (case xj_InvalidStand_NothingToUndo => kit_is)
    (case xj_InvalidStand_TooMany => kit_is)
    (case xj_InvalidStand_Refused => kit_is)
    (case xj_InvalidStand_NoQuotient => kit_is)
    (case xj_InvalidStand_LineError => kit_is)
    (case xj_InvalidStand_ValueError => kit_is)
    (case xj_InvalidStand_KeyError => kit_is)
    (case xj_InvalidStand_IndexError => kit_is)
    (case xj_InvalidStand_LookupError => kit_is)
    (case xj_InvalidStand_RuntimeError => kit_is)
    (case xj_InvalidStand_OverflowError => kit_is)
    (case xj_InvalidStand_ZeroDivisionError => kit_is)
    (case xj_InvalidStand_ArithmeticError => kit_is)
    (case xj_InvalidPaper_InvalidGrid => kit_is)
    (case xj_InvalidPaper_InvalidPoint => kit_is)
    (case xj_InvalidPaper_InvalidRule => kit_is)
    (case xj_InvalidPaper_InvalidScheme => kit_is)
    (case xj_InvalidPaper_InvalidStand => kit_is)
    (case xj_InvalidPaper_InvalidPaper => kit_is)
    (case xj_InvalidPaper_InvalidOperation => kit_is)
    (case xj_InvalidPaper_ParseError => kit_is)
    (case xj_InvalidPaper_UnknownLetter => kit_is)
    (case xj_InvalidPaper_UnknownAddress => kit_is)
    (case xj_InvalidPaper_InvalidNumber => kit_is)
    (case xj_InvalidPaper_NothingToUndo => kit_is)
    (case xj_InvalidPaper_TooMany => kit_is)
    (case xj_InvalidPaper_Refused => kit_is)
    (case xj_InvalidPaper_NoQuotient => kit_is)
    (case xj_InvalidPaper_LineError => kit_is)
    (case xj_InvalidPaper_ValueError => kit_is)
    (case xj_InvalidPaper_KeyError => kit_is)
    (case xj_InvalidPaper_IndexError => kit_is)
    (case xj_InvalidPaper_LookupError => kit_is)
    (case xj_InvalidPaper_RuntimeError => kit_is)
    (case xj_InvalidPaper_OverflowError => kit_is)
    (case xj_InvalidPaper_ZeroDivisionError => kit_is)
    (case xj_InvalidPaper_ArithmeticError => kit_is)
    (case xj_InvalidOperation_InvalidGrid => kit_is)
    (case xj_InvalidOperation_InvalidPoint => kit_is)
    (case xj_InvalidOperation_InvalidRule => kit_is)
    (case xj_InvalidOperation_InvalidScheme => kit_is)
    (case xj_InvalidOperation_InvalidStand => kit_is)
    (case xj_InvalidOperation_InvalidPaper => kit_is)
    (case xj_InvalidOperation_InvalidOperation => kit_is)
    (case xj_InvalidOperation_ParseError => kit_is)
    (case xj_InvalidOperation_UnknownLetter => kit_is)
    (case xj_InvalidOperation_UnknownAddress => kit_is)
    (case xj_InvalidOperation_InvalidNumber => kit_is)
    (case xj_InvalidOperation_NothingToUndo => kit_is)
    (case xj_InvalidOperation_TooMany => kit_is)
    (case xj_InvalidOperation_Refused => kit_is)
    (case xj_InvalidOperation_NoQuotient => kit_is)
    (case xj_InvalidOperation_LineError => kit_is)
    (case xj_InvalidOperation_ValueError => kit_is)
    (case xj_InvalidOperation_KeyError => kit_is)
    (case xj_InvalidOperation_IndexError => kit_is)
    (case xj_InvalidOperation_LookupError => kit_is)
    (case xj_InvalidOperation_RuntimeError => kit_is)
    (case xj_InvalidOperation_OverflowError => kit_is)
    (case xj_InvalidOperation_ZeroDivisionError => kit_is)
    (case xj_InvalidOperation_ArithmeticError => kit_is)
    (case xj_ParseError_InvalidGrid => kit_is)
    (case xj_ParseError_InvalidPoint => kit_is)
    (case xj_ParseError_InvalidRule => kit_is)
    (case xj_ParseError_InvalidScheme => kit_is)
    (case xj_ParseError_InvalidStand => kit_is)
    (case xj_ParseError_InvalidPaper => kit_is)
    (case xj_ParseError_InvalidOperation => kit_is)
    (case xj_ParseError_ParseError => kit_is)
    (case xj_ParseError_UnknownLetter => kit_is)
    (case xj_ParseError_UnknownAddress => kit_is)
    (case xj_ParseError_InvalidNumber => kit_is)
    (case xj_ParseError_NothingToUndo => kit_is)
    (case xj_ParseError_TooMany => kit_is)
    (case xj_ParseError_Refused => kit_is)
    (case xj_ParseError_NoQuotient => kit_is)
    (case xj_ParseError_LineError => kit_is)
    (case xj_ParseError_ValueError => kit_is)
    (case xj_ParseError_KeyError => kit_is)
    (case xj_ParseError_IndexError => kit_is)
    (case xj_ParseError_LookupError => kit_is)
    (case xj_ParseError_RuntimeError => kit_is)
    (case xj_ParseError_OverflowError => kit_is)
    (case xj_ParseError_ZeroDivisionError => kit_is)
    (case xj_ParseError_ArithmeticError => kit_is)
    (case xj_UnknownLetter_InvalidGrid => kit_is)
    (case xj_UnknownLetter_InvalidPoint => kit_is)
    (case xj_UnknownLetter_InvalidRule => kit_is)
    (case xj_UnknownLetter_InvalidScheme => kit_is)
    (case xj_UnknownLetter_InvalidStand => kit_is)
    (case xj_UnknownLetter_InvalidPaper => kit_is)
    (case xj_UnknownLetter_InvalidOperation => kit_is)
    (case xj_UnknownLetter_ParseError => kit_is)
    (case xj_UnknownLetter_UnknownLetter => kit_is)
    (case xj_UnknownLetter_UnknownAddress => kit_is)
    (case xj_UnknownLetter_InvalidNumber => kit_is)
    (case xj_UnknownLetter_NothingToUndo => kit_is)
    (case xj_UnknownLetter_TooMany => kit_is)
    (case xj_UnknownLetter_Refused => kit_is)
    (case xj_UnknownLetter_NoQuotient => kit_is)
    (case xj_UnknownLetter_LineError => kit_is)
    (case xj_UnknownLetter_ValueError => kit_is)
    (case xj_UnknownLetter_KeyError => kit_is)
    (case xj_UnknownLetter_IndexError => kit_is)
    (case xj_UnknownLetter_LookupError => kit_is)
    (case xj_UnknownLetter_RuntimeError => kit_is)
    (case xj_UnknownLetter_OverflowError => kit_is)
    (case xj_UnknownLetter_ZeroDivisionError => kit_is)
    (case xj_UnknownLetter_ArithmeticError => kit_is)
    (case xj_UnknownAddress_InvalidGrid => kit_is)
    (case xj_UnknownAddress_InvalidPoint => kit_is)
    (case xj_UnknownAddress_InvalidRule => kit_is)
    (case xj_UnknownAddress_InvalidScheme => kit_is)
    (case xj_UnknownAddress_InvalidStand => kit_is)
    (case xj_UnknownAddress_InvalidPaper => kit_is)
    (case xj_UnknownAddress_InvalidOperation => kit_is)
    (case xj_UnknownAddress_ParseError => kit_is)
    (case xj_UnknownAddress_UnknownLetter => kit_is)
    (case xj_UnknownAddress_UnknownAddress => kit_is)
    (case xj_UnknownAddress_InvalidNumber => kit_is)
    (case xj_UnknownAddress_NothingToUndo => kit_is)
    (case xj_UnknownAddress_TooMany => kit_is)
    (case xj_UnknownAddress_Refused => kit_is)
    (case xj_UnknownAddress_NoQuotient => kit_is)
    (case xj_UnknownAddress_LineError => kit_is)
    (case xj_UnknownAddress_ValueError => kit_is)
    (case xj_UnknownAddress_KeyError => kit_is)
    (case xj_UnknownAddress_IndexError => kit_is)
    (case xj_UnknownAddress_LookupError => kit_is)
    (case xj_UnknownAddress_RuntimeError => kit_is)
    (case xj_UnknownAddress_OverflowError => kit_is)
    (case xj_UnknownAddress_ZeroDivisionError => kit_is)
    (case xj_UnknownAddress_ArithmeticError => kit_is)
    (case xj_InvalidNumber_InvalidGrid => kit_is)
    (case xj_InvalidNumber_InvalidPoint => kit_is)
    (case xj_InvalidNumber_InvalidRule => kit_is)
    (case xj_InvalidNumber_InvalidScheme => kit_is)
    (case xj_InvalidNumber_InvalidStand => kit_is)
    (case xj_InvalidNumber_InvalidPaper => kit_is)
    (case xj_InvalidNumber_InvalidOperation => kit_is)
    (case xj_InvalidNumber_ParseError => kit_is)
    (case xj_InvalidNumber_UnknownLetter => kit_is)
    (case xj_InvalidNumber_UnknownAddress => kit_is)
    (case xj_InvalidNumber_InvalidNumber => kit_is)
    (case xj_InvalidNumber_NothingToUndo => kit_is)
    (case xj_InvalidNumber_TooMany => kit_is)
    (case xj_InvalidNumber_Refused => kit_is)
    (case xj_InvalidNumber_NoQuotient => kit_is)
    (case xj_InvalidNumber_LineError => kit_is)
    (case xj_InvalidNumber_ValueError => kit_is)
    (case xj_InvalidNumber_KeyError => kit_is)
    (case xj_InvalidNumber_IndexError => kit_is)
    (case xj_InvalidNumber_LookupError => kit_is)
    (case xj_InvalidNumber_RuntimeError => kit_is)
    (case xj_InvalidNumber_OverflowError => kit_is)
    (case xj_InvalidNumber_ZeroDivisionError => kit_is)
    (case xj_InvalidNumber_ArithmeticError => kit_is)
    (case xj_NothingToUndo_InvalidGrid => kit_is)
    (case xj_NothingToUndo_InvalidPoint => kit_is)
    (case xj_NothingToUndo_InvalidRule => kit_is)
    (case xj_NothingToUndo_InvalidScheme => kit_is)
    (case xj_NothingToUndo_InvalidStand => kit_is)
    (case xj_NothingToUndo_InvalidPaper => kit_is)
    (case xj_NothingToUndo_InvalidOperation => kit_is)
    (case xj_NothingToUndo_ParseError => kit_is)
    (case xj_NothingToUndo_UnknownLetter => kit_is)
    (case xj_NothingToUndo_UnknownAddress => kit_is)
    (case xj_NothingToUndo_InvalidNumber => kit_is)
    (case xj_NothingToUndo_NothingToUndo => kit_is)
    (case xj_NothingToUndo_TooMany => kit_is)
    (case xj_NothingToUndo_Refused => kit_is)
    (case xj_NothingToUndo_NoQuotient => kit_is)
    (case xj_NothingToUndo_LineError => kit_is)
    (case xj_NothingToUndo_ValueError => kit_is)
    (case xj_NothingToUndo_KeyError => kit_is)
    (case xj_NothingToUndo_IndexError => kit_is)
    (case xj_NothingToUndo_LookupError => kit_is)
    (case xj_NothingToUndo_RuntimeError => kit_is)
    (case xj_NothingToUndo_OverflowError => kit_is)
    (case xj_NothingToUndo_ZeroDivisionError => kit_is)
    (case xj_NothingToUndo_ArithmeticError => kit_is)
    (case xj_TooMany_InvalidGrid => kit_is)
    (case xj_TooMany_InvalidPoint => kit_is)
    (case xj_TooMany_InvalidRule => kit_is)
    (case xj_TooMany_InvalidScheme => kit_is)
    (case xj_TooMany_InvalidStand => kit_is)
    (case xj_TooMany_InvalidPaper => kit_is)
    (case xj_TooMany_InvalidOperation => kit_is)
    (case xj_TooMany_ParseError => kit_is)
    (case xj_TooMany_UnknownLetter => kit_is)
    (case xj_TooMany_UnknownAddress => kit_is)
    (case xj_TooMany_InvalidNumber => kit_is)
    (case xj_TooMany_NothingToUndo => kit_is)
    (case xj_TooMany_TooMany => kit_is)
    (case xj_TooMany_Refused => kit_is)
    (case xj_TooMany_NoQuotient => kit_is)
    (case xj_TooMany_LineError => kit_is)
    (case xj_TooMany_ValueError => kit_is)
    (case xj_TooMany_KeyError => kit_is)
    (case xj_TooMany_IndexError => kit_is)
    (case xj_TooMany_LookupError => kit_is)
    (case xj_TooMany_RuntimeError => kit_is)
    (case xj_TooMany_OverflowError => kit_is)
    (case xj_TooMany_ZeroDivisionError => kit_is)
    (case xj_TooMany_ArithmeticError => kit_is)
    (case xj_Refused_InvalidGrid => kit_is)
    (case xj_Refused_InvalidPoint => kit_is)
    (case xj_Refused_InvalidRule => kit_is)
    (case xj_Refused_InvalidScheme => kit_is)
    (case xj_Refused_InvalidStand => kit_is)
    (case xj_Refused_InvalidPaper => kit_is)
    (case xj_Refused_InvalidOperation => kit_is)
    (case xj_Refused_ParseError => kit_is)
    (case xj_Refused_UnknownLetter => kit_is)
    (case xj_Refused_UnknownAddress => kit_is)
    (case xj_Refused_InvalidNumber => kit_is)
    (case xj_Refused_NothingToUndo => kit_is)
    (case xj_Refused_TooMany => kit_is)
    (case xj_Refused_Refused => kit_is)
    (case xj_Refused_NoQuotient => kit_is)
    (case xj_Refused_LineError => kit_is)
    (case xj_Refused_ValueError => kit_is)
    (case xj_Refused_KeyError => kit_is)
    (case xj_Refused_IndexError => kit_is)
    (case xj_Refused_LookupError => kit_is)
    (case xj_Refused_RuntimeError => kit_is)
    (case xj_Refused_OverflowError => kit_is)
    (case xj_Refused_ZeroDivisionError => kit_is)
    (case xj_Refused_ArithmeticError => kit_is)
    (case xj_NoQuotient_InvalidGrid => kit_is)
    (case xj_NoQuotient_InvalidPoint => kit_is)
    (case xj_NoQuotient_InvalidRule => kit_is)
    (case xj_NoQuotient_InvalidScheme => kit_is)
    (case xj_NoQuotient_InvalidStand => kit_is)
    (case xj_NoQuotient_InvalidPaper => kit_is)
    (case xj_NoQuotient_InvalidOperation => kit_is)
    (case xj_NoQuotient_ParseError => kit_is)
    (case xj_NoQuotient_UnknownLetter => kit_is)
    (case xj_NoQuotient_UnknownAddress => kit_is)
    (case xj_NoQuotient_InvalidNumber => kit_is)
    (case xj_NoQuotient_NothingToUndo => kit_is)
    (case xj_NoQuotient_TooMany => kit_is)
    (case xj_NoQuotient_Refused => kit_is)
    (case xj_NoQuotient_NoQuotient => kit_is)
    (case xj_NoQuotient_LineError => kit_is)
    (case xj_NoQuotient_ValueError => kit_is)
    (case xj_NoQuotient_KeyError => kit_is)
    (case xj_NoQuotient_IndexError => kit_is)
    (case xj_NoQuotient_LookupError => kit_is)
    (case xj_NoQuotient_RuntimeError => kit_is)
    (case xj_NoQuotient_OverflowError => kit_is)
    (case xj_NoQuotient_ZeroDivisionError => kit_is)
    (case xj_NoQuotient_ArithmeticError => kit_is)
    (case xm_LineError_LineError => k_is)
    (case xm_LineError_UnknownAddress => k_is)
    (case xm_LineError_NoQuotient => k_is)
    (case xm_InvalidGrid_LineError => k_is)
    (case xm_InvalidGrid_UnknownAddress => k_is)
    (case xm_InvalidGrid_NoQuotient => k_is)
    (case xm_InvalidPoint_LineError => k_is)
    (case xm_InvalidPoint_UnknownAddress => k_is)
    (case xm_InvalidPoint_NoQuotient => k_is)
    (case xm_InvalidRule_LineError => k_is)
    (case xm_InvalidRule_UnknownAddress => k_is)
    (case xm_InvalidRule_NoQuotient => k_is)
    (case xm_InvalidScheme_LineError => k_is)
    (case xm_InvalidScheme_UnknownAddress => k_is)
    (case xm_InvalidScheme_NoQuotient => k_is)
    (case xm_InvalidStand_LineError => k_is)
    (case xm_InvalidStand_UnknownAddress => k_is)
    (case xm_InvalidStand_NoQuotient => k_is)
    (case xm_InvalidPaper_LineError => k_is)
    (case xm_InvalidPaper_UnknownAddress => k_is)
    (case xm_InvalidPaper_NoQuotient => k_is)
    (case xm_InvalidOperation_LineError => k_is)
    (case xm_InvalidOperation_UnknownAddress => k_is)
    (case xm_InvalidOperation_NoQuotient => k_is)
    (case xm_ParseError_LineError => k_is)
    (case xm_ParseError_UnknownAddress => k_is)
    (case xm_ParseError_NoQuotient => k_is)
    (case xm_UnknownLetter_LineError => k_is)
    (case xm_UnknownLetter_UnknownAddress => k_is)
    (case xm_UnknownLetter_NoQuotient => k_is)
    (case xm_UnknownAddress_LineError => k_is)
    (case xm_UnknownAddress_UnknownAddress => k_is)
    (case xm_UnknownAddress_NoQuotient => k_is)
    (case xm_InvalidNumber_LineError => k_is)
    (case xm_InvalidNumber_UnknownAddress => k_is)
    (case xm_InvalidNumber_NoQuotient => k_is)
    (case xm_NothingToUndo_LineError => k_is)
    (case xm_NothingToUndo_UnknownAddress => k_is)
    (case xm_NothingToUndo_NoQuotient => k_is)
    (case xm_TooMany_LineError => k_is)
    (case xm_TooMany_UnknownAddress => k_is)
    (case xm_TooMany_NoQuotient => k_is)
    (case xm_Refused_LineError => k_is)
    (case xm_Refused_UnknownAddress => k_is)
    (case xm_Refused_NoQuotient => k_is)
    (case xm_NoQuotient_LineError => k_is)
    (case xm_NoQuotient_UnknownAddress => k_is)
    (case xm_NoQuotient_NoQuotient => k_is)
    (case xc_LineError => k_is)
    (case xc_UnknownAddress => k_is)
    (case xc_NoQuotient => k_is)
    (case z_ArithmeticError => k_is)
    (case z_IndexError => k_is)
    (case z_KeyError => k_is)
    (case z_LookupError => k_is)
    (case z_OverflowError => k_is)
    (case z_RuntimeError => k_is)
    (case z_ValueError => k_is)
    (case z_ZeroDivisionError => k_is)
    (case z_abs => k_is)
    (case z_int => k_is)
    (case z_isinstance => k_is)
    (case z_len => k_is)
    (case z_max => k_is)
    (case z_min => k_is)
    (case z_range => k_is)
    (case z_repr => k_is)

