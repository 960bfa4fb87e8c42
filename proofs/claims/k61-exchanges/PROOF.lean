import PyProof.Rows.All
import Wide.All
import OpenK.AllK
import Wide.FinOn
import PyProof.ReprRoads
import HandS.ForMost
import HandS.StrMore
import HandS.Codes
import PyProof.ReprLen
import HandS.Conv
import HandS.Style
import HandS.NoneIn
import HandS.IsInst
import HandS.Flow
import KE.GoesMore
import PyProof.MaxThree
import PyProof.Rows.StrRev
import HandS.ForExc
import HandS.Lambda
import HandS.EndTab
import HandS.Zip
import PyProof.Rows.IntBool
import HandS.TupAny
import HandS.Wide
import HandS.Deep
import KE.KExcSuper
import KE.KExcInit
import HandS.ExcInit
import PyProof.ExcBaseAll.OverflowError
import PyProof.ExcBaseAll.RuntimeError
import PyProof.ExcBaseAll.LookupError
import KE.KExcIs
import HandS.ExcField
import HandS.ExcIs
import KE.KNestM
import HandS.Defaults
import PySem.Challenge.RW_anchoredits_k61_exchanges_done_and_refus
set_option Elab.async false
set_option linter.all false
set_option maxRecDepth 100000
set_option maxHeartbeats 4000000
namespace AB
open PySem PySem.Spec PyProof.Rows L2

/-! a def's promise where no repr is under way (A.guards is known to be empty) -/
structure FnG (P : Program) (w : World) (K : PySem.W.Frag) (mg : Str → Option Value) (base : Heap)
    (CX : CXT) (k : Nat) (f : Addr) (fd : FuncData) (ps : List Str) (sp : Sp) : Prop where
  gl : ∀ vs H Q E, sp vs H Q E → vs.length = ps.length
  go : ∀ (A : Around) (outer : List Env) (s : Shared) (H : Hp) (args : Args) (us : List Value)
    (vs : List V) (Q : VK) (E : XK), Room k A → A.guards = some [] →
    Env0 P w K mg base A outer s H → BindsTo s fd args (ps.zip us) → Vals vs us → sp vs H Q E →
    codeAny (model P w) A (.call (.ref f) args) (CR CX outer P w H s Q E) s

section
variable {P : Program} {w : World} {K : PySem.W.Frag} {mg : Str → Option Value} {base : Heap}
  {CX : CXT} {k : Nat} {f : Addr} {fd : FuncData} {ps : List Str} {sp : Sp}

theorem FnG.mk' (F : FnOk P w K mg base CX k f fd ps sp) : FnG P w K mg base CX k f fd ps sp :=
  ⟨F.len, fun A o s H ar us vs Q E hr _ e0 hb hv hs => F.run A o s H ar us vs Q E hr e0 hb hv hs⟩

theorem guards_deeper {A : Around} {env : Env} (h : A.guards = some []) : (A.deeper env).guards = some [] := h

/-- a def's body keeps its promise, where no repr is under way -/
theorem gun_okC {x qual : Str} {st : Stmt} {N : List Str} (F : Fun K x qual st f fd)
    (S : FnScope N ps (defScope st)) (len : ∀ vs H Q E, sp vs H Q E → vs.length = ps.length)
    (body : ∀ (cdv : Value), cdv = fd.code → ∀ (A : Around) (outer : List Env) (s : Shared) (H : Hp) (vs : List V)
      (Q : VK) (E : XK), Room k (A.deeper (envOfC qual (defScope st) s.heap.objs.size f cdv)) →
      (A.deeper (envOfC qual (defScope st) s.heap.objs.size f cdv)).guards = some [] → sp vs H Q E →
      ∃ t, PSs (cxOf CX P w K mg base N qual (defScope st) f cdv A outer s H E) (defBody st) t ∧
        t { nx := fun _ H' => Q .non H', rt := Q } (start N vs) H) :
    FnG P w K mg base CX (k + 1) f fd ps sp := by
  obtain ⟨oc, od, kV, doc, pm, an, cdv, ct, osl, rfl, lk, hcd⟩ := F.ex
  refine ⟨len, ?_⟩
  intro A outer s H args us vs Q E hr hgd e0 hb hv hs
  have kin : K.In s.heap := e0.mod.kin.keeps fun b o e => (e0.bs b o e).1
  have nol : s.heap.NoLimit := e0.mod.nolimit.keeps fun b o e => (e0.bs b o e).1
  refine Att.call_fn (binds := ps.zip us) kin nol lk hcd hr.depth hb ?_ ?_ S.co S.gen S.kind
  · rw [List.all_eq_true]
    rintro ⟨n, v⟩ hy
    rcases S.par n (List.of_mem_zip hy).1 with q | q <;> simp [q]
  · intro s1 ic
    obtain ⟨t, ht, hq⟩ := body cdv rfl A outer s H vs Q E (hr.deeper _) (guards_deeper hgd) hs
    have I := inv_start (CX := CX) (E := E) S hr.hd e0 (len _ _ _ _ hs) hv ic
    refine wpAny_mono (ht.run [] s1 _ H _ I hq) ?_ fun e s' z => z
    intro fl s' z
    cases fl with
    | ret u =>
      obtain ⟨v, σ', H', J, rv, q⟩ := z
      exact ⟨v, H', J.os, J.bare, J.base, J.hok, rv, q⟩
    | next =>
      obtain ⟨σ', H', J, q⟩ := z
      exact ⟨.non, H', J.os, J.bare, J.base, J.hok, rfl, q⟩
    | brk => obtain ⟨_, _, _, q⟩ := z; exact q.elim
    | cont => obtain ⟨_, _, _, q⟩ := z; exact q.elim
theorem gun_ok {x qual : Str} {st : Stmt} {N : List Str} (F : Fun K x qual st f fd)
    (S : FnScope N ps (defScope st)) (len : ∀ vs H Q E, sp vs H Q E → vs.length = ps.length)
    (body : ∀ (cdv : Value) (A : Around) (outer : List Env) (s : Shared) (H : Hp) (vs : List V)
      (Q : VK) (E : XK), Room k (A.deeper (envOfC qual (defScope st) s.heap.objs.size f cdv)) →
      (A.deeper (envOfC qual (defScope st) s.heap.objs.size f cdv)).guards = some [] → sp vs H Q E →
      ∃ t, PSs (cxOf CX P w K mg base N qual (defScope st) f cdv A outer s H E) (defBody st) t ∧
        t { nx := fun _ H' => Q .non H', rt := Q } (start N vs) H) :
    FnG P w K mg base CX (k + 1) f fd ps sp := gun_okC F S len fun cdv _ => body cdv
end
end AB

namespace AB
open PySem PySem.Spec PyProof.Rows L2

/-! ### what is shown by repr -/
structure Show (d : PyData) (n k : Nat) : Prop where
  ok : d.showable = true
  nd : d.hasDict = false
  dp : d.depth ≤ k
  sz : d.shown.length ≤ n

theorem Show.mono {d : PyData} {n k n' k' : Nat} (h : Show d n k) (hn : n ≤ n') (hk : k ≤ k') : Show d n' k' :=
  ⟨h.ok, h.nd, Nat.le_trans h.dp hk, Nat.le_trans h.sz hn⟩

theorem log_lt2 {m k : Nat} (hk : 0 < k) (h : m < 2 ^ k) : m.log2 < k := by
  by_cases h0 : m = 0
  · subst h0; exact hk
  · exact (Nat.log2_lt h0).mpr h

theorem Show.int {i : Int} (h : i.natAbs < 2 ^ 300) : Show (.int i) 301 0 := by
  refine ⟨?_, rfl, Nat.le_refl _, ?_⟩
  · exact decide_eq_true (Nat.lt_trans (log_lt2 (k := 300) (by decide) h) (by decide))
  · show (Str.ofString (toString i)).length ≤ 301
    rw [PySem.ofString_length]
    exact int_text_length_le (k := 300) (by decide) (log_lt2 (by decide) h)

theorem Show.str {x : Str} {m : Nat} (hc : ∀ c ∈ x.cps.toList, c < 16 ^ 8) (hm : x.length ≤ m) :
    Show (.str x) (10 * m + 2) 0 :=
  ⟨rfl, rfl, Nat.le_refl _, Nat.le_trans (StrLaws.reprText_len x hc) (by omega)⟩
theorem Show.none : Show .none 4 0 := ⟨rfl, rfl, Nat.le_refl _, by decide +kernel⟩
theorem Show.bool (b : Bool) : Show (.bool b) 5 0 := ⟨rfl, rfl, Nat.le_refl _, by cases b <;> decide +kernel⟩

theorem showable_all : ∀ {ds : List PyData} {n k : Nat}, (∀ d ∈ ds, Show d n k) →
    PyData.showableAll ds = true ∧ PyData.hasDictAll ds = false ∧ PyData.depthAll ds ≤ k ∧
      ((PyData.shownAll ds).map (·.length)).sum ≤ n * ds.length ∧ (PyData.shownAll ds).length = ds.length
  | [], n, k, _ => ⟨rfl, rfl, Nat.zero_le _, Nat.zero_le _, rfl⟩
  | d :: r, n, k, h => by
    have hd := h d List.mem_cons_self
    obtain ⟨a, b, c, e, f⟩ := showable_all (ds := r) (n := n) (k := k) fun x hx => h x (List.mem_cons_of_mem _ hx)
    refine ⟨?_, ?_, ?_, ?_, ?_⟩
    · simp only [PyData.showableAll, hd.ok, a, Bool.and_self]
    · simp only [PyData.hasDictAll, hd.nd, b, Bool.or_self]
    · simp only [PyData.depthAll]
      exact Nat.max_le.mpr ⟨hd.dp, c⟩
    · simp only [PyData.shownAll, List.map_cons, List.sum_cons, List.length_cons]
      have := hd.sz
      rw [Nat.mul_succ]
      omega
    · simp only [PyData.shownAll, List.length_cons, f]

theorem Show.list {ds : List PyData} {n k m : Nat} (h : ∀ d ∈ ds, Show d n k) (hm : n * ds.length + 2 * ds.length + 3 ≤ m) :
    Show (.list ds) m (k + 1) := by
  obtain ⟨a, b, c, e, f⟩ := showable_all h
  refine ⟨by simpa only [PyData.showable] using a, by simpa only [PyData.hasDict] using b, by simp only [PyData.depth]; omega, ?_⟩
  have q := listText_len_le (PyData.shownAll ds)
  simp only [PyData.shown]
  omega
theorem Show.tup {ds : List PyData} {n k m : Nat} (h : ∀ d ∈ ds, Show d n k) (hm : n * ds.length + 2 * ds.length + 3 ≤ m) :
    Show (.tuple ds) m (k + 1) := by
  obtain ⟨a, b, c, e, f⟩ := showable_all h
  refine ⟨by simpa only [PyData.showable] using a, by simpa only [PyData.hasDict] using b, by simp only [PyData.depth]; omega, ?_⟩
  have q := tupleText_len_le (PyData.shownAll ds)
  simp only [PyData.shown]
  omega

theorem cLine_big : 70 + 4 < cLine := by decide
theorem sizeLine_big : 16000000 ≤ sizeLine := by rw [sizeLine_eq]; decide

section
variable {X : Cx}
/-- repr(v), v any data without dicts -/
def rRepr (K : PySem.W.Frag) : List V → Hp → VK → Prop := fun xs H Q =>
  ∃ v d, xs = [v] ∧ Dp K H v d ∧ Show d 16000000 64 ∧ Q (.str d.shown) H
theorem call_reprU (un : X.A.units + 200 < cLine) (hg : X.A.guards = some []) : CallR X (.builtin "repr") (rRepr X.K) := by
  intro pins s σ H xs us Q I r h
  obtain ⟨v, d, rfl, hd, hs, q⟩ := h
  obtain ⟨u, rfl, ru⟩ := vals1 r
  obtain ⟨as, rd⟩ := Dp.reads I d v u hd ru
  have sz := Nat.le_trans hs.sz sizeLine_big
  have fin : ∀ h' t tk, (∀ b o, s.heap.get? b = some o → h'.get? b = some o) →
      EP X pins σ Q (.str d.shown t) { s with heap := h', toks := tk } :=
    fun h' t tk kp => ⟨.str d.shown, H, I.kept kp, ⟨t, rfl⟩, q⟩
  cases hd with
  | non =>
    cases ru
    exact PySem.P.repr_of_none (fin s.heap _ _ fun _ _ e => e)
  | bl b =>
    cases ru
    exact PySem.P.repr_of_bool (fin s.heap _ _ fun _ _ e => e)
  | int i =>
    obtain ⟨t, rfl⟩ := ru
    exact PySem.P.repr_of_int (of_decide_eq_true hs.ok) (fin s.heap _ _ fun _ _ e => e)
  | str x =>
    obtain ⟨t, rfl⟩ := ru
    exact PySem.P.repr_of_str (fin s.heap _ _ fun _ _ e => e) sz
  | lst a b =>
    cases ru
    have dp := hs.dp
    exact repr_of_reads' rd hs.ok (fun z => by rw [hs.nd] at z; cases z) hg (by omega) (fun _ _ e => e) fin sz
  | tup a b =>
    cases ru
    have dp := hs.dp
    exact repr_of_reads' rd hs.ok (fun z => by rw [hs.nd] at z; cases z) hg (by omega) (fun _ _ e => e) fin sz

theorem call_repr {k : Nat} (hr : Room k X.A) (hg : X.A.guards = some []) : CallR X (.builtin "repr") (rRepr X.K) := call_reprU (by have := hr.un; omega) hg
/-! ### texts from code lists; repetition -/
abbrev sl (l : List Nat) : Str := ⟨l.toArray⟩
theorem sl_toList (z : Str) : sl z.cps.toList = z := by cases z; simp [sl]
theorem sl_len (l : List Nat) : (sl l).length = l.length := by simp [sl, Str.length]
theorem len_toList (z : Str) : z.cps.toList.length = z.length := by simp [Str.length]

theorem foldl_app : ∀ (n : Nat) (a acc : Array Nat), ((List.replicate n a).foldl (· ++ ·) acc).toList = acc.toList ++ (List.replicate n a.toList).flatten
  | 0, a, acc => by simp
  | n + 1, a, acc => by
    rw [List.replicate_succ, List.foldl_cons, foldl_app n a, List.replicate_succ, List.flatten_cons]
    simp

theorem op_rep_str : OpR X (binaryOp .Mult) (fun x y H Q => ∃ z k, x = .str z ∧ y = .int k ∧ 0 ≤ k ∧ k < 1000000 ∧
    z.length * k.toNat ≤ 1000000 ∧ Q (.str (sl (List.replicate k.toNat z.cps.toList).flatten)) H) := by
  intro pins s σ H x y v u Q I rx ry h
  obtain ⟨z, k, rfl, rfl, k0, k1, hz, q⟩ := h
  obtain ⟨t, rfl⟩ := rx
  obtain ⟨t', rfl⟩ := ry
  refine PySem.P.mul_str ?_ (fun h1 h2 => ?_) (fun h1 h2 => ?_) ?_
  · rw [decide_eq_false (by omega), decide_eq_false (by omega)]
    rfl
  · intro c
    have h3 : (1 : Int) ≤ k := by omega
    have h4 : z.length ≤ 1000000 := by
      have : 1 ≤ k.toNat := by omega
      exact Nat.le_trans (Nat.le_mul_of_pos_right _ this) hz
    have h5 : (1000000 : Int) ≤ (2 ^ 63 - 1) / k := by
      rw [Int.le_ediv_iff_mul_le (by omega)]
      omega
    omega
  · unfold Builtin.Str.tooLong
    have := sizeLine_big
    exact decide_eq_false (by omega)
  · have key : ∀ w : Str, w.cps.toList = (List.replicate k.toNat z.cps.toList).flatten → ∀ t tk,
        EP X pins σ Q (.str w t) { s with toks := tk } := fun w e t tk => by
      have : w = sl (List.replicate k.toNat z.cps.toList).flatten := by rw [← e, sl_toList]
      subst this
      exact ⟨.str _, H, I.tok tk, ⟨t, rfl⟩, q⟩
    by_cases h1 : k < 1
    · rw [if_pos h1]
      have : k.toNat = 0 := by omega
      refine ⟨by decide, key _ ?_ _ _⟩
      rw [this]; rfl
    · rw [if_neg h1]
      by_cases h2 : (k == 1 || z.length == 0) = true
      · rw [if_pos h2]
        refine key z ?_ t s.toks
        rcases Bool.or_eq_true_iff.mp h2 with c | c
        · have e : k = 1 := eq_of_beq c
          subst e
          simp
        · have e : z.cps.toList = [] := by
            have : z.length = 0 := eq_of_beq c
            rw [← List.length_eq_zero_iff, len_toList, this]
          rw [e]
          simp
      · rw [if_neg h2]
        have e := foldl_app k.toNat z.cps #[]
        refine ⟨?_, key _ (by simpa using e) _ _⟩
        have l : (Str.mk ((List.replicate k.toNat z.cps).foldl (· ++ ·) #[])).length = z.length * k.toNat := by
          rw [← len_toList]
          show ((List.replicate k.toNat z.cps).foldl (· ++ ·) #[]).toList.length = _
          rw [e]
          simp [Str.length, Nat.mul_comm]
        rw [l]
        have := sizeLine_big
        omega

/-! ### f(k = v, ..) without positional arguments -/
theorem pe_callK0 {CX : CXT} {k : Nat} {f : Addr} {fd : FuncData} {ps ks : List Str} {sp : Sp} {E : XK} {x : Str} {p pos : Pos} {kws : List Keyword} {tk : TA}
    {g : List Value → List Value → List Value} {gV : List V → List V → List V}
    (F : FnOk X.prog X.w X.K X.mg X.base CX k f fd ps sp) (hr : Room k X.A) (hg : Gl X x) (hm : X.mg x = some (.ref f))
    (hk : PySem.W.keepIn X.K (.ref f) = true) (hb : KBinds X.K fd ps ks g gV) (hx : Passes CX X E) (hkw : PK X kws tk)
    (hall : (backToKw pos (keywordEach kws X.env)).all (·.1.isSome) = true := by rfl)
    (hks : (backToKw pos (keywordEach kws X.env)).filterMap (·.1) = ks := by rfl)
    (hdb : (x == ("__debug__" : Str)) = false := by decide)
    (hpl : ((backTo pos (starEach [] X.env)).any (·.1) || (backToKw pos (keywordEach kws X.env)).any (·.1.isNone)) = false := by rfl) :
    PE X (.Call (.Name x p) [] kws pos) (tCallK sp gV E tNil tk) := by
  constructor
  intro pins s σ H Q I h
  refine wpAny_Call_Name_kw (ld_glob I hg hm ?_ hdb)
  refine PySem.W.callWith_KW0 (h₀ := X.base) I.ok.mod.kin hk hall (thn (hkw.run pos pins s σ H _ I h) ?_) hpl
  rintro ws s2 ⟨zs, H2, I2, rz, q2⟩
  refine ⟨I2.kIn, ?_⟩
  rw [hks]
  exact run_fnk (us := []) (vs := []) F hr hb hx I2 .nil rz q2
end
end AB

namespace AB
open PySem PySem.Spec PyProof.Rows L2

/-! ### the law's own call, from a promise that knows that no repr is under way -/
def scrO (vs : List Value) : Obj := { cls := .type "list", data := .seq vs.toArray }
def scrH (K : PySem.W.Frag) (a : Addr) (vs : List Value) (ns : List Int) : Hp := fun b =>
  if b = a ∧ K.lookup a = none then some (.frz (scrO vs) (.lst (ns.map V.int))) else none

section
variable {P : Program} {w : World} {K : PySem.W.Frag} {mg mb : Str → Option Value} {k : Nat} {fa a : Addr}
  {fd : FuncData} {x : Str} {sp : Sp} {s₁ : Shared} {vs : List Value} {ns : List Int}

theorem scrH_some {b : Addr} {o : HO} (h : scrH K a vs ns b = some o) :
    b = a ∧ K.lookup a = none ∧ o = .frz (scrO vs) (.lst (ns.map V.int)) := by
  unfold scrH at h
  by_cases c : b = a ∧ K.lookup a = none
  · rw [if_pos c] at h
    exact ⟨c.1, c.2, (Option.some.inj h).symm⟩
  · rw [if_neg c] at h
    cases h

theorem law_goes (KX : K.In s₁.heap) (hns : s₁.heap.Ns mainGlobals mg) (hb : s₁.heap.Ns builtinsNs mb)
    (hbb : ∀ x : Str, x ≠ "__name__" → mb x = bootBuiltins x) (hlim : s₁.heap.NoLimit) (hg : s₁.gens = #[])
    (ha : s₁.heap.get? a = some (scrO vs)) (hi : IntsAre vs ns) (hl : ns.length ≤ sizeLine) (hr : Room k callerA)
    (F : ∀ base : Heap, K.In base → base.Ns mainGlobals mg → FnG P w K mg base CX0 k fa fd [x] sp)
    (hbind : ∀ (s : Shared) (u : Value), BindsTo s fd ⟨[u], []⟩ [(x, u)])
    (hsp : ∀ H : Hp, SqL K H a (ns.map V.int) → sp [.ref a] H (fun v _ => v = .bl true) fun _ _ _ => False) :
    codeAny (model P w) callerA (.call (.ref fa) ⟨[.ref a], []⟩)
      (fun r s' => r = .ok (.ret (.bool true)) ∧ OldK s₁.heap s'.heap ∧ s'.os = s₁.os ∧ AllBare s'.gens) s₁ := by
  have rv := vals_ints hi
  let H : Hp := scrH K a vs ns
  have toBase : ∀ {b : Addr} {o : Obj}, s₁.heap.get? b = some o → H b = none → (hidT s₁.heap H).get? b = some o :=
    fun e n => hidT_get e n
  have dictFree : ∀ {b : Addr} {o : Obj} {es : Array DictEntry} {ep : Nat}, s₁.heap.get? b = some o →
      o.data = .dict es ep → H b = none := by
    intro b o es ep e d
    cases q : H b with
    | none => rfl
    | some u =>
      obtain ⟨rfl, _, _⟩ := scrH_some q
      rw [ha] at e
      cases e
      exact nomatch (show Data.seq vs.toArray _ = Data.dict es ep from d)
  have nsB : ∀ {b : Addr} {m : Str → Option Value}, s₁.heap.Ns b m → (hidT s₁.heap H).Ns b m := by
    rintro b m ⟨o, es, ep, e, d, r⟩
    exact ⟨o, es, ep, toBase e (dictFree e d), d, r⟩
  have kinB : K.In (hidT s₁.heap H) := by
    intro b o e
    refine toBase (KX b o e) ?_
    cases q : H b with
    | none => rfl
    | some u =>
      obtain ⟨rfl, z, _⟩ := scrH_some q
      rw [z] at e
      cases e
  have hM : Mod K mg (hidT s₁.heap H) := ⟨kinB, nsB hns, ⟨mb, nsB hb, hbb⟩, by
    obtain ⟨mc, h1, h2⟩ := hlim
    exact ⟨mc, nsB h1, h2⟩⟩
  have hok : HOk P w H s₁.heap := by
    intro b u e
    obtain ⟨rfl, z, rfl⟩ := scrH_some e
    exact ⟨ha, by rw [List.length_map]; exact hl, vs, _, rv, ha⟩
  have sq : SqL K H a (ns.map V.int) := by
    cases q : K.lookup a with
    | none => exact .inl (.inr ⟨scrO vs, if_pos ⟨rfl, q⟩⟩)
    | some o =>
      have e := KX a o q
      rw [ha] at e
      cases e
      refine .inr ⟨_, vs.toArray, _, q, rfl, rfl, rfl, ?_, by simpa using rv⟩
      have := rv.length
      rw [List.length_map] at this
      rw [List.size_toArray]
      omega
  have e0 : Env0 P w K mg (hidT s₁.heap H) callerA [] s₁ H :=
    { frames := rfl, mod := hM, bs := fun b o e => of_hidT e, bsz := Nat.le_of_eq (hidT_size _ _), funs := trivial,
      frf := fun b z => absurd (show b ∈ ([] : List Addr) from z) (by simp), hok := hok, bare := .of_eq hg }
  refine codeAny_mono ((F _ kinB (nsB hns)).go callerA [] s₁ H ⟨[.ref a], []⟩ [.ref a] [.ref a] _ _ hr rfl e0
    (hbind s₁ (.ref a)) (.cons rfl .nil) (hsp H sq)) ?_
  intro r s' h
  cases r with
  | error e => exact False.elim h
  | ok fl =>
    cases fl with
    | next => exact False.elim h
    | brk => exact False.elim h
    | cont => exact False.elim h
    | ret u =>
      obtain ⟨v, H', os, bare, un, hok', r', q⟩ := h
      have q1 : v = .bl true := q
      subst q1
      have q2 : u = Value.bool true := r'
      subst q2
      refine ⟨rfl, OldK.of_keep ?_, os, bare⟩
      intro b o e
      cases q : H b with
      | none => exact un.keep b o e q (fun z => absurd (show b ∈ ([] : List Addr) from z) (by simp)) (by simp)
      | some u =>
        obtain ⟨rfl, z, rfl⟩ := scrH_some q
        obtain ⟨e1, _⟩ := hok b _ q
        obtain ⟨e2, _⟩ := hok' b _ (un.frzs b _ _ q)
        rw [e] at e1
        cases e1
        exact e2
end

theorem walk_goes {l : PySem.W.OpenLaw} {n k : Nat} {q : Program} {loose : List Str}
    {XP : (Str → Option Value) → Heap → Prop} {YP : World → Heap → Prop} {d : DefRec} {K : Params → PySem.W.Frag}
    {sp : PySem.W.Frag → Sp} {x : Str}
    (hn : l.most = some n) (hn2 : n ≤ sizeLine) (hdf : d.params.defaults = []) (hr : Room k callerA)
    (hY : ∀ (w : World) (h : Heap), YP w h → (K w.params).In h)
    (F : ∀ (w : World) (mg : Str → Option Value) (fa : Addr) (h : Heap), (K w.params).In h → h.Ns mainGlobals mg →
      mg d.name = some (.ref fa) → ∃ fd : FuncData, (∀ (s : Shared) (u : Value), BindsTo s fd ⟨[u], []⟩ [(x, u)]) ∧
        ∀ base : Heap, (K w.params).In base → base.Ns mainGlobals mg →
          FnG l.prog w (K w.params) mg base CX0 k fa fd [x] (sp (K w.params)))
    (hsp : ∀ (K : PySem.W.Frag) (H : Hp) (a : Addr) (ns : List Int), ns.length ≤ n → SqL K H a (ns.map V.int) →
      sp K [.ref a] H (fun v _ => v = .bl true) fun _ _ _ => False) :
    PySem.W.WalkO q loose XP YP l.row.toRowW d [] (fun f vs => PySem.call f vs) := by
  refine Att.attach_call hn hdf ?_
  intro w s₀ s₁ mg mb fa o pm cd doc a vs ns G Y ho hd hcd hmg hobj hints hlen hg
  have KX := hY w _ Y
  obtain ⟨fd, hb, hF⟩ := F w mg fa _ KX G.T.g hmg
  exact law_goes KX G.T.g G.T.b G.T.builtins G.T.nolimit hg hobj hints (Nat.le_trans hlen hn2) hr hF hb
    fun H hS => hsp _ H a ns hlen hS

/-! ### a def that hands back a written text, and .replace of what it hands back -/
structure TextDef (P : Program) (w : World) (K : PySem.W.Frag) (mg : Str → Option Value) (base : Heap) (f : Addr) (z : Str) : Prop where
  go : ∀ (A : Around) (outer : List Env) (s : Shared) (H : Hp), Room 1 A → Env0 P w K mg base A outer s H →
    codeAny (model P w) A (.call (.ref f) ⟨[], []⟩) (fun r s' => ∃ t, r = .ok (.ret (.str z t)) ∧ 1 ≤ s'.toks ∧
      s'.os = s.os ∧ AllBare s'.gens ∧ Un (frs outer) [] H H s.heap s'.heap ∧ HOk P w H s'.heap) s

section
variable {P : Program} {w : World} {K : PySem.W.Frag} {mg : Str → Option Value} {base : Heap} {f : Addr} {fd : FuncData}
theorem textDef {x qual : Str} {st : Stmt} {z : Str} {j : Nat} {p1 p2 : Pos} (F : Fun K x qual st f fd)
    (S : FnScope [] [] (defScope st)) (hb : defBody st = [.Return (some (.Constant (.str z) j p1)) p2])
    (hbind : Binds K fd [] []) : TextDef P w K mg base f z := by
  obtain ⟨oc, od, kV, doc, pm, an, cdv, ct, osl, rfl, lk, hcd⟩ := F.ex
  refine ⟨?_⟩
  intro A outer s H hr e0
  have kin : K.In s.heap := e0.mod.kin.keeps fun b o e => (e0.bs b o e).1
  have nol : s.heap.NoLimit := e0.mod.nolimit.keeps fun b o e => (e0.bs b o e).1
  refine Att.call_fn (binds := []) kin nol lk hcd hr.depth (hbind s [] kin rfl) rfl ?_ S.co S.gen S.kind
  intro s1 ic
  have I : Inv (cxOf CX0 P w K mg base [] qual (defScope st) f cdv A outer s H E0) [] (start [] []) H s1 :=
    inv_start (us := []) (vs := []) S hr.hd e0 rfl .nil ic
  rw [hb]
  refine wpAny_execs_cons (wpAny_Return_some (Calls.Constant_str ?_))
  have J := I.tok (s1.toks + 1)
  exact ⟨_, rfl, Nat.le_add_left _ _, J.os, J.bare, J.base, J.hok⟩
end

section
variable {X : Cx}
def tSignsRep (z y u : Str) : TE := fun _ H Q => Q (.str (Txt.replace z y u)) H
theorem pe_signsRep {x : Str} {f : Addr} {z y u : Str} {j k : Nat} {p0 p1 apos c0 c1 pos : Pos}
    (T : TextDef X.prog X.w X.K X.mg X.base f z) (hr : Room 1 X.A) (hg : Gl X x) (hm : X.mg x = some (.ref f))
    (hk : PySem.W.keepIn X.K (.ref f) = true) (hyz : (y == u) = false) (hsz : z.length + (z.length + 1) * u.length ≤ 16777216)
    (hdb : (x == ("__debug__" : Str)) = false := by decide)
    (hst : starEach [.Constant (.str y) j c0, .Constant (.str u) k c1] X.env =
      [(false, eval (.Constant (.str y) j c0) X.env), (false, eval (.Constant (.str u) k c1) X.env)] := by rfl)
    (hbase : attributeBase (.Call (.Name x p0) [] [] p1) "replace" X.env (eval (.Call (.Name x p0) [] [] p1) X.env)
      = eval (.Call (.Name x p0) [] [] p1) X.env := by rfl) (hline : (apos.endLine == pos.line) = true := by rfl) :
    PE X (.Call (.Attribute (.Call (.Name x p0) [] [] p1) "replace" apos) [.Constant (.str y) j c0, .Constant (.str u) k c1] [] pos)
      (tSignsRep z y u) := by
  constructor
  intro pins s σ H Q I h
  refine PySem.Call_method2 hbase hst hline ?_
  refine wpAny_Call_Name_kw (ld_glob I hg hm ?_ hdb)
  refine PySem.W.callWith_K0 I.kIn hk (wpAny_call (codeAny_mono (T.go X.A X.stack s H hr I.env0) ?_))
  rintro r s1 ⟨t, rfl, ht, os, bare, un, hok⟩
  have I1 : Inv X pins σ H s1 := I.call' (ch := []) os un hok bare (fun b z => absurd z (by simp))
  refine ⟨"str", _, PySem.F.plainAttrs_str, PySem.F.slot_str_replace, PySem.F.type_str_replace, typeIs_str _ _ _,
    (fun _ e => nomatch e), Calls.callWith_builtin rfl (Calls.evalArgs_plain (Calls.spliced_cons ?_))⟩
  refine Calls.Constant_str (Calls.spliced_cons (Calls.Constant_str (Calls.spliced_nil ?_)))
  have n1 : s1.toks ≠ 0 := by omega
  have n2 : s1.toks + 1 ≠ 0 := by omega
  have n3 : s1.toks ≠ s1.toks + 1 := by omega
  exact PySem.SC.replace n1 n2 n3 hyz hsz fun t' k => ⟨.str (Txt.replace z y u), H, I1.tok k, ⟨t', rfl⟩, h⟩
end
end AB

namespace AB
open PySem PySem.Spec PyProof.Rows L2

/-! ### a def of the text, the built-ins -/
structure FX (K : PySem.W.Frag) (mg : Str → Option Value) (x : Str) (st : Stmt) (ps : List Str) (f : Addr) (fd : FuncData) : Prop where
  F : Fun K x x st f fd
  b : Binds K fd ps []
  g : mg x = some (.ref f)
structure Bt (mg : Str → Option Value) : Prop where
  b_len : mg "len" = none
  b_range : mg "range" = none
  b_int : mg "int" = none
  b_abs : mg "abs" = none
  b_min : mg "min" = none
  b_max : mg "max" = none
  b_repr : mg "repr" = none
  b_list : mg "list" = none
  b_tuple : mg "tuple" = none
  b_isinstance : mg "isinstance" = none
  b_sorted : mg "sorted" = none
  b_enumerate : mg "enumerate" = none
  b_zip : mg "zip" = none
  b_all : mg "all" = none
  b_any : mg "any" = none
  b_str : mg "str" = none
  b_bool : mg "bool" = none
  b_sum : mg "sum" = none

/-! ### the source of draws -/
def Keep (p : Addr) (H H' : Hp) : Prop := ∀ b o, b ≠ p → H b = some o → H' b = some o
theorem Keep.refl {p : Addr} {H : Hp} : Keep p H H := fun _ _ _ e => e
theorem Keep.trans {p : Addr} {H H1 H2 : Hp} (a : Keep p H H1) (b : Keep p H1 H2) : Keep p H H2 :=
  fun c o n e => b c o n (a c o n e)
theorem Same.keep {p : Addr} {H H' : Hp} (s : Same H H') : Keep p H H' := fun b o _ e => s b o e
theorem Keep.new {p q : Addr} {H : Hp} {o : HO} (h : H q = none) : Keep p H (upd H q o) := fun b u _ e => by
  rw [upd_ne (ne_of_none e h)]; exact e
theorem same_new {q : Addr} {H : Hp} {o : HO} (h : H q = none) : Same H (upd H q o) := fun b u e => by
  rw [upd_ne (ne_of_none e h)]; exact e
theorem Keep.put {p : Addr} {H : Hp} {o : HO} : Keep p H (upd H p o) := fun b u n e => by
  rw [upd_ne n]; exact e

def penD (c : Addr) (t l : Int) : HO :=
  .dK [(.inr "cells", .ref c), (.inr "turn", .int t), (.inr "left", .int l)]
structure Pen (H : Hp) (p c : Addr) (n : Nat) : Prop where
  ex : ∃ (t l : Int) (xs : List Int), H p = some (penD c t l) ∧ H c = some (.lst (xs.map V.int)) ∧
    xs.length ≤ 63 ∧ 0 ≤ t ∧ t ≤ n ∧ 0 ≤ l

section
variable {H : Hp} {p c : Addr} {t l : Int}
theorem e12 : ¬ (("cells" : Str) = "turn") := by decide +kernel
theorem k12 : ¬ ((Sum.inr ("cells" : Str) : Key) = Sum.inr ("turn" : Str)) := fun z => e12 (Sum.inr.inj z)
theorem e13 : ¬ (("cells" : Str) = "left") := by decide +kernel
theorem k13 : ¬ ((Sum.inr ("cells" : Str) : Key) = Sum.inr ("left" : Str)) := fun z => e13 (Sum.inr.inj z)
theorem e23 : ¬ (("turn" : Str) = "left") := by decide +kernel
theorem k23 : ¬ ((Sum.inr ("turn" : Str) : Key) = Sum.inr ("left" : Str)) := fun z => e23 (Sum.inr.inj z)
theorem e21 : ¬ (("turn" : Str) = "cells") := by decide +kernel
theorem k21 : ¬ ((Sum.inr ("turn" : Str) : Key) = Sum.inr ("cells" : Str)) := fun z => e21 (Sum.inr.inj z)
theorem e31 : ¬ (("left" : Str) = "cells") := by decide +kernel
theorem k31 : ¬ ((Sum.inr ("left" : Str) : Key) = Sum.inr ("cells" : Str)) := fun z => e31 (Sum.inr.inj z)
theorem e32 : ¬ (("left" : Str) = "turn") := by decide +kernel
theorem k32 : ¬ ((Sum.inr ("left" : Str) : Key) = Sum.inr ("turn" : Str)) := fun z => e32 (Sum.inr.inj z)
theorem pen_cells (h : H p = some (penD c t l)) : DGet H p (.str "cells") (some (.ref c)) := by
  have q := DGet.k (k := Sum.inr ("cells" : Str)) h
  rw [valV_pos rfl] at q
  exact q
theorem pen_turn (h : H p = some (penD c t l)) : DGet H p (.str "turn") (some (.int t)) := by
  have q := DGet.k (k := Sum.inr ("turn" : Str)) h
  rw [valV_neg k12, valV_pos rfl] at q
  exact q
theorem pen_left (h : H p = some (penD c t l)) : DGet H p (.str "left") (some (.int l)) := by
  have q := DGet.k (k := Sum.inr ("left" : Str)) h
  rw [valV_neg k13, valV_neg k23, valV_pos rfl] at q
  exact q
theorem put_turn (h : H p = some (penD c t l)) (t' : Int) : DPut H p (.str "turn") (.int t') (upd H p (penD c t' l)) := by
  have q := DPut.k (k := Sum.inr ("turn" : Str)) (v := .int t') h (show 3 < sizeLine by decide)
  have e : putK [((.inr "cells" : Key), V.ref c), (.inr "turn", .int t), (.inr "left", .int l)] (.inr "turn") (.int t') =
      [(.inr "cells", .ref c), (.inr "turn", .int t'), (.inr "left", .int l)] := by
    unfold putK
    simp [e12, e32]
  rw [e] at q
  exact q
theorem put_left (h : H p = some (penD c t l)) (l' : Int) : DPut H p (.str "left") (.int l') (upd H p (penD c t l')) := by
  have q := DPut.k (k := Sum.inr ("left" : Str)) (v := .int l') h (show 3 < sizeLine by decide)
  have e : putK [((.inr "cells" : Key), V.ref c), (.inr "turn", .int t), (.inr "left", .int l)] (.inr "left") (.int l') =
      [(.inr "cells", .ref c), (.inr "turn", .int t), (.inr "left", .int l')] := by
    unfold putK
    simp [e13, e23]
  rw [e] at q
  exact q
theorem pen_ne {xs : List V} (h : H p = some (penD c t l)) (h2 : H c = some (.lst xs)) : c ≠ p :=
  ne_of h2 h (fun z => by cases z)
end
theorem Keep.free {p q : Addr} {H H' : Hp} (k : Keep p H H') (n : q ≠ p) (h : H' q = none) : H q = none := by
  cases e : H q with
  | none => rfl
  | some o => rw [k q o n e] at h; cases h
theorem Keep.wr {p q : Addr} {H H' : Hp} {o : HO} (k : Keep p H H') (h : H q = none) : Keep p H (upd H' q o) := fun b u nb e => by
  rw [upd_ne (ne_of_none e h)]
  exact k b u nb e
theorem Same.wr {q : Addr} {H H' : Hp} {o : HO} (k : Same H H') (h : H q = none) : Same H (upd H' q o) := fun b u e => by
  rw [upd_ne (ne_of_none e h)]
  exact k b u e
section
variable {H H' : Hp} {p c a : Addr} {n m : Nat} {xs : List V} {o : HO}
theorem Pen.ne_lst (h : Pen H p c n) (h2 : H a = some (.lst xs)) : a ≠ p := by
  obtain ⟨t, l, ys, e, _⟩ := h.ex
  exact ne_of h2 e (fun z => by cases z)
theorem Pen.ne_tup (h : Pen H p c n) (h2 : H a = some (.tup xs)) : a ≠ p := by
  obtain ⟨t, l, ys, e, _⟩ := h.ex
  exact ne_of h2 e (fun z => by cases z)
theorem Pen.mono (h : Pen H p c n) (hm : n ≤ m) : Pen H p c m := by
  obtain ⟨t, l, ys, e, e2, a, b, d, f⟩ := h.ex
  exact ⟨t, l, ys, e, e2, a, b, by omega, f⟩
theorem Pen.same (h : Pen H p c n) (s : Same H H') : Pen H' p c n := by
  obtain ⟨t, l, ys, e, e2, a⟩ := h.ex
  exact ⟨t, l, ys, s _ _ e, s _ _ e2, a⟩
theorem Pen.new (h : Pen H p c n) (nq : H a = none) : Pen (upd H a o) p c n := h.same (same_new nq)
theorem Pen.nep (h : Pen H p c n) (nq : H a = none) : a ≠ p := by
  obtain ⟨t, l, ys, e, e2, _⟩ := h.ex
  exact (ne_of_none e nq).symm
theorem Pen.nec (h : Pen H p c n) (nq : H a = none) : a ≠ c := by
  obtain ⟨t, l, ys, e, e2, _⟩ := h.ex
  exact (ne_of_none e2 nq).symm
/-- an object of one's own is written -/
theorem Pen.wr (h : Pen H p c n) (h1 : a ≠ p) (h2 : a ≠ c) : Pen (upd H a o) p c n := by
  obtain ⟨t, l, ys, e, e2, r⟩ := h.ex
  exact ⟨t, l, ys, by rw [upd_ne h1.symm]; exact e, by rw [upd_ne h2.symm]; exact e2, r⟩
/-- a list or tuple that can be read stays under Keep -/
theorem Pen.sqL {K : PySem.W.Frag} (h : Pen H p c n) (k : Keep p H H') (s : SqL K H a xs) : SqL K H' a xs := by
  obtain ⟨t, l, ys, e, _⟩ := h.ex
  rcases s with (s | ⟨o, s⟩) | s
  · exact .inl (.inl (k _ _ (ne_of s e fun z => by cases z) s))
  · exact .inl (.inr ⟨o, k _ _ (ne_of s e fun z => by cases z) s⟩)
  · exact .inr s
theorem Pen.sqT {K : PySem.W.Frag} (h : Pen H p c n) (k : Keep p H H') (s : SqT K H a xs) : SqT K H' a xs := by
  obtain ⟨t, l, ys, e, _⟩ := h.ex
  rcases s with (s | ⟨o, s⟩) | s
  · exact .inl (.inl (k _ _ (ne_of s e fun z => by cases z) s))
  · exact .inl (.inr ⟨o, k _ _ (ne_of s e fun z => by cases z) s⟩)
  · exact .inr s
end

theorem dp_ints {K : PySem.W.Frag} {H : Hp} : ∀ ns : List Int, DpAll K H (ns.map V.int) (ns.map PyData.int)
  | [] => .nil
  | n :: r => .cons (.int n) (dp_ints r)
theorem shaped_ints (ns : List Int) : SeqAt.shaped (.list (ns.map PyData.int)) = true := PySem.W.ke_shaped_ints ns

theorem ints_at {ns : List Int} {i : Int} (h : 0 < ns.length) : ∃ y, atI (ns.map V.int) (i % ((ns.map V.int).length : Int)) = some (.int y) := by
  rw [List.length_map]
  have a := Int.emod_nonneg i (b := (ns.length : Int)) (by omega)
  have b := Int.emod_lt_of_pos i (b := (ns.length : Int)) (by omega)
  obtain ⟨j, hj⟩ : ∃ j : Nat, i % (ns.length : Int) = (j : Int) := ⟨(i % (ns.length : Int)).toNat, by omega⟩
  have lj : j < ns.length := by omega
  refine ⟨ns[j], ?_⟩
  rw [hj]
  refine atI_nat ?_
  rw [List.getElem?_map, List.getElem?_eq_getElem lj]
  rfl
def primesL : List Int := [2147483629, 2147483647, 2147483587, 2147483563, 2147483579]
theorem prime_at (t : Int) : ∃ r, atI (primesL.map V.int) (t % 5) = some (.int r) ∧ 0 < r ∧ r < 2147483648 := by
  have a := Int.emod_nonneg t (b := 5) (by omega)
  have b := Int.emod_lt_of_pos t (b := 5) (by omega)
  have c : t % 5 = 0 ∨ t % 5 = 1 ∨ t % 5 = 2 ∨ t % 5 = 3 ∨ t % 5 = 4 := by omega
  rcases c with c | c | c | c | c <;> rw [c]
  · exact ⟨_, rfl, by decide, by decide⟩
  · exact ⟨_, rfl, by decide, by decide⟩
  · exact ⟨_, rfl, by decide, by decide⟩
  · exact ⟨_, rfl, by decide, by decide⟩
  · exact ⟨_, rfl, by decide, by decide⟩

/-- draw(pen, m): a number below m -/
def spDraw : Sp := fun vs H Q _ => ∃ (p c : Addr) (n : Nat) (m : Int), vs = [.ref p, .int m] ∧ Pen H p c n ∧ n ≤ 1000000 ∧
  0 < m ∧ m < 1073741824 ∧ ∀ H' (i : Int), 0 ≤ i → i < m → Keep p H H' → Pen H' p c (n + 1) → Q (.int i) H'
/-- pick(pen, options) -/
def spPick (K : PySem.W.Frag) : Sp := fun vs H Q _ => ∃ (p c : Addr) (n : Nat) (o : V), vs = [.ref p, o] ∧ Pen H p c n ∧ n ≤ 1000000 ∧
  ((∃ z : Str, o = .str z ∧ 0 < z.length ∧ z.length ≤ 100000 ∧
      ∀ H' (i d : Nat), z.cps.toList[i]? = some d → Keep p H H' → Pen H' p c (n + 1) → Q (.str ⟨#[d]⟩) H') ∨
   (∃ (a : Addr) (xs : List V), o = .ref a ∧ SqL K H a xs ∧ xs ≠ [] ∧ xs.length ≤ 100000 ∧
      ∀ H' (i : Nat) (v : V), xs[i]? = some v → Keep p H H' → Pen H' p c (n + 1) → Q v H'))
/-- pen(script) -/
def spPen (K : PySem.W.Frag) : Sp := fun vs H Q _ => ∃ (a : Addr) (ns : List Int), vs = [.ref a] ∧ SqL K H a (ns.map V.int) ∧
  ns.length ≤ 63 ∧ ∀ H' p c, Same H H' → H p = none → Pen H' p c 0 → Q (.ref p) H'
end AB

namespace AB
open PySem PySem.Spec PyProof.Rows L2
open TL (tl)

/-! ### places of a word -/
def isAt (t w : List Nat) (i : Nat) : Bool := TL.pre w (t.drop i)
def plcN (t w : List Nat) (n : Nat) : List Nat := (List.range n).filter (isAt t w)
/-- all places of the word w in the text t, ascending -/
def plc (t w : List Nat) : List Nat := plcN t w (t.length + 1)

theorem isAt_le {t w : List Nat} {i : Nat} (hw : w ≠ []) (h : isAt t w i = true) : i + w.length ≤ t.length := by
  have e : (t.drop i).take w.length = w := eq_of_beq h
  have e1 := congrArg List.length e
  rw [List.length_take, List.length_drop] at e1
  have := List.length_pos_iff.mpr hw
  omega
theorem plcN_succ {t w : List Nat} {n : Nat} : plcN t w (n + 1) = plcN t w n ++ (if isAt t w n = true then [n] else []) := by
  unfold plcN
  rw [List.range_succ, List.filter_append]
  by_cases h : isAt t w n = true
  · simp [h]
  · simp [h]
theorem plcN_skip {t w : List Nat} {a : Nat} : ∀ (k : Nat), (∀ j, a ≤ j → j < a + k → isAt t w j = false) → plcN t w (a + k) = plcN t w a
  | 0, _ => rfl
  | k + 1, h => by
    have ih := plcN_skip (a := a) k fun j h1 h2 => h j h1 (by omega)
    rw [← Nat.add_assoc, plcN_succ, ih, h (a + k) (by omega) (by omega)]
    simp
theorem plcN_skip' {t w : List Nat} {a b : Nat} (hab : a ≤ b) (h : ∀ j, a ≤ j → j < b → isAt t w j = false) : plcN t w b = plcN t w a := by
  have := plcN_skip (t := t) (w := w) (a := a) (b - a) fun j h1 h2 => h j h1 (by omega)
  rwa [show a + (b - a) = b by omega] at this
theorem plcN_end {t w : List Nat} {a : Nat} (ha : t.length + 1 - w.length ≤ a) (hw : w ≠ []) : plcN t w a = plc t w := by
  unfold plc
  have key : ∀ j, t.length + 1 - w.length ≤ j → isAt t w j = false := fun j hj => by
    cases c : isAt t w j with
    | false => rfl
    | true =>
      have := isAt_le hw c
      have := List.length_pos_iff.mpr hw
      omega
  rw [plcN_skip' (a := t.length + 1 - w.length) (b := t.length + 1) (by omega) fun j h1 _ => key j h1, plcN_skip' ha fun j h1 _ => key j h1]
theorem plcN_len (t w : List Nat) (n : Nat) : (plcN t w n).length ≤ n := by
  unfold plcN
  exact Nat.le_trans (List.length_filter_le _ _) (by simp)
theorem plc_len (t w : List Nat) : (plc t w).length ≤ t.length + 1 := plcN_len _ _ _
theorem mem_plc {t w : List Nat} {i : Nat} (hw : w ≠ []) : i ∈ plc t w ↔ isAt t w i = true := by
  unfold plc plcN
  rw [List.mem_filter, List.mem_range]
  constructor
  · exact fun h => h.2
  · intro h
    have := isAt_le hw h
    exact ⟨by omega, h⟩

def nVs (l : List Nat) : List V := l.map fun k : Nat => V.int (k : Int)
theorem nVs_len (l : List Nat) : (nVs l).length = l.length := List.length_map _
theorem nVs_app (l : List Nat) (k : Nat) : nVs (l ++ [k]) = nVs l ++ [V.int (k : Int)] := by simp [nVs]
def datI (l : List Nat) : List PyData := l.map fun k : Nat => PyData.int (k : Int)
theorem dp_nats {K : PySem.W.Frag} {H : Hp} : ∀ l : List Nat, DpAll K H (nVs l) (datI l)
  | [] => .nil
  | n :: r => .cons (.int n) (dp_nats r)
theorem shaped_nats (l : List Nat) : SeqAt.shaped (.list (datI l)) = true := by
  have := shaped_ints (l.map fun k : Nat => (k : Int))
  rw [List.map_map] at this
  exact this
theorem eqv_ints : ∀ l : List Int, PyData.eqvAll (l.map PyData.int) (l.map PyData.int) = true
  | [] => rfl
  | n :: r => by simp [PyData.eqvAll, PyData.eqv, eqv_ints r]
theorem eqv_nats (l : List Nat) : PyData.eqv (.list (datI l)) (.list (datI l)) = true := by
  have := eqv_ints (l.map fun k : Nat => (k : Int))
  rw [List.map_map] at this
  simp only [PyData.eqv]
  exact this
theorem show_nats {l : List Nat} {m : Nat} (hl : l.length ≤ m) (hm : m ≤ 50000) (hb : ∀ k ∈ l, k ≤ 1000000) : Show (.list (datI l)) 16000000 64 := by
  refine (Show.list (n := 301) (k := 0) (m := 16000000) ?_ ?_).mono (Nat.le_refl _) (by decide)
  · intro d hd
    obtain ⟨k, hk, rfl⟩ := List.mem_map.mp hd
    refine Show.int ?_
    have := hb k hk
    rw [Int.natAbs_natCast]
    exact Nat.lt_of_le_of_lt this (Nat.lt_of_lt_of_le (show 1000000 < 2 ^ 20 by decide) (Nat.pow_le_pow_right (by decide) (by decide)))
  · have : (datI l).length = l.length := List.length_map _
    omega

/-- text.find(word), from a place on -/
theorem find_from {x y : Str} (hy : tl y ≠ []) (lo : Nat) :
    (Builtin.Str.occurrences x y lo x.length 1 = [] ∧ ∀ j, lo ≤ j → isAt (tl x) (tl y) j = false) ∨
    ∃ k r, Builtin.Str.occurrences x y lo x.length 1 = k :: r ∧ lo ≤ k ∧ isAt (tl x) (tl y) k = true ∧ ∀ j, lo ≤ j → j < k → isAt (tl x) (tl y) j = false := by
  rcases PySem.StrLaws.occ_head_from x y lo 1 (Nat.le_refl _) with ⟨a, b⟩ | ⟨k, r, a, b, c, d⟩
  · exact .inl ⟨a, fun j hj => TL.no_at hy (b j hj)⟩
  · exact .inr ⟨k, r, a, b, (TL.at_iff hy k).mp c, fun j h1 h2 => TL.no_at hy (d j h1 h2)⟩
theorem find3_nat (x y : Str) (lo : Nat) : Txt.find3 x y (lo : Int) = match Builtin.Str.occurrences x y lo x.length 1 with | k :: _ => (k : Int) | [] => -1 := by
  unfold Txt.find3
  have : fromIndex x.length (lo : Int) = lo := by
    unfold fromIndex
    rw [if_neg (by omega)]
    omega
  rw [this]
  cases Builtin.Str.occurrences x y lo x.length 1 <;> rfl

/-! ### slices, joins -/
theorem tl_cutS {z : Str} {a b : Nat} : tl (cutS z (some (a : Int)) (some (b : Int))) = ((tl z).drop a).take (b - a) := by
  show ((z.cps.toList.drop (HT.sIx z.length 0 (some (a : Int)))).take (HT.sIx z.length z.length (some (b : Int)) - HT.sIx z.length 0 (some (a : Int)))) = _
  rw [HT.sIx_nat, HT.sIx_nat]
  have hl := TL.len_tl z
  by_cases h : a ≤ z.length
  · rw [Nat.min_eq_left h]
    by_cases h2 : b ≤ z.length
    · rw [Nat.min_eq_left h2]
    · rw [Nat.min_eq_right (by omega)]
      rw [List.take_of_length_le (by rw [List.length_drop]; show z.cps.toList.length - a ≤ _; rw [← hl]; omega), List.take_of_length_le (by rw [List.length_drop, ← hl]; omega)]
  · have e1 : (tl z).drop a = [] := List.drop_eq_nil_of_le (by rw [← hl]; omega)
    have e2 : (tl z).drop z.length = [] := List.drop_eq_nil_of_le (by rw [← hl]; exact Nat.le_refl _)
    have e3 : min a z.length = z.length := by omega
    have e4 : z.cps.toList.drop z.length = [] := e2
    rw [e3, e1, e4]
    simp
theorem cutV_whole {xs : List V} {n : Nat} (h : xs.length ≤ n) : cutV xs none (some (n : Int)) = xs := by
  unfold cutV
  rw [HT.sIx_none, HT.sIx_nat, Nat.min_eq_right h]
  simp
theorem cutV_to {xs : List V} {n : Nat} (h : n ≤ xs.length) : cutV xs none (some (n : Int)) = xs.take n := by
  unfold cutV
  rw [HT.sIx_none, HT.sIx_nat, Nat.min_eq_left h]
  simp

theorem foldl_glue : ∀ (ps : List Str) (acc : Array Nat), (ps.foldl (fun acc p => acc ++ (Str.ofString "").cps ++ p.cps) acc).toList = acc.toList ++ (ps.map tl).flatten
  | [], acc => by simp
  | p :: r, acc => by
    rw [List.foldl_cons, foldl_glue r]
    have : (Str.ofString "").cps = #[] := by decide +kernel
    rw [this]
    simp
theorem tl_join (ps : List Str) : tl (Txt.join "" ps) = (ps.map tl).flatten := by
  cases ps with
  | nil => decide +kernel
  | cons p r =>
    have := foldl_glue r p.cps
    show ((r.foldl (fun acc q => acc ++ (Str.ofString "").cps ++ q.cps) p.cps)).toList = _
    rw [this]
    simp

/-! ### letters -/
def lettersS : Str := "\x0a !\"#$&'()*+,-./0123456789:;<=>?@ABCDEFGHIJKLMNOPQRSTUVWXYZ[\\]^_`abcdefghijklmnopqrstuvwxyz{|}~"
/-- the text's signs are letters -/
def Lt (z : Str) : Prop := ∀ c ∈ tl z, c ∈ tl lettersS
theorem letters_small : ∀ c ∈ tl lettersS, c < 127 := by decide +kernel
theorem Lt.small {z : Str} (h : Lt z) : ∀ c ∈ z.cps.toList, c < 16 ^ 8 := fun c hc =>
  Nat.lt_trans (letters_small c (h c hc)) (by decide)
theorem Lt.of_mem {z y : Str} (h : Lt z) (s : ∀ c ∈ tl y, c ∈ tl z) : Lt y := fun c hc => h c (s c hc)
theorem Lt.one {z : Str} {c : Nat} {i : Nat} (h : Lt z) (e : z.cps.toList[i]? = some c) : Lt ⟨#[c]⟩ := fun d hd => by
  have : d = c := by simpa using hd
  subst this
  exact h d (List.mem_of_getElem? e)
theorem Lt.app {x y : Str} (hx : Lt x) (hy : Lt y) : Lt (x ++ y) := fun c hc => by
  rw [TL.tl_append] at hc
  exact (List.mem_append.mp hc).elim (hx c) (hy c)
theorem Lt.cut {z : Str} {lo hi : Option Int} (h : Lt z) : Lt (cutS z lo hi) := fun c hc => h c (List.mem_of_mem_drop (List.mem_of_mem_take hc))
theorem Lt.dec {z : Str} (h : (tl z).all (fun c => (tl lettersS).contains c) = true) : Lt z := fun c hc => by
  have := List.all_eq_true.mp h c hc
  simpa using this
end AB

namespace AB
open PySem PySem.Spec PyProof.Rows L2
open TL (tl)
def spFew : Sp := fun vs H Q _ => ∃ (p c : Addr) (n : Nat), vs = [.ref p] ∧ Pen H p c n ∧ n ≤ 900000 ∧
  ∀ H' (z : Str), Keep p H H' → Pen H' p c (n + 4) → 1 ≤ z.length → z.length ≤ 3 → Lt z → Q (.str z) H'
def spWord : Sp := fun vs H Q _ => ∃ (p c : Addr) (n : Nat) (z : Str) (a b : Nat), vs = [.ref p, .str z, .int a, .int b] ∧ Pen H p c n ∧
  0 < z.length ∧ z.length ≤ 1000 ∧ a ≤ b ∧ b ≤ 1000 ∧ n + b + 1 ≤ 900000 ∧
  ∀ H' (y : Str), Keep p H H' → Pen H' p c (n + b + 1) → a ≤ y.length → y.length ≤ b → (∀ d ∈ tl y, d ∈ tl z) → Q (.str y) H'
/-- places(text, word), and the law's own -/
def spPlaces : Sp := fun vs H Q _ => ∃ (t w : Str), vs = [.str t, .str w] ∧ t.length ≤ 100000 ∧ 0 < w.length ∧ w.length ≤ 100000 ∧
  ∀ H' p, Same H H' → H p = none → H' p = some (.lst (nVs (plc (tl t) (tl w)))) → Q (.ref p) H'

def penL (c : Addr) : List (Key × V) := [(.inr "cells", .ref c), (.inr "turn", .int 0), (.inr "left", .int 0)]
theorem pen_merge (c : Addr) : mergeK [] (penL c) = penL c := by
  unfold mergeK penL
  simp [putK, e12, e13, e23]
theorem tl_ne {w : Str} (h : 0 < w.length) : tl w ≠ [] := fun e => by
  have := TL.len_tl w
  rw [e] at this
  simp at this
  omega
/-- in a row of one-sign texts -/
theorem one_len (c : Nat) : (Str.mk #[c]).length = 1 := rfl
theorem ones_sum {z : Str} : ∀ {ys : List Str}, (∀ y ∈ ys, ∃ d ∈ tl z, y = ⟨#[d]⟩) →
    (ys.map (·.length)).sum = ys.length ∧ (Txt.join "" ys).length = ys.length ∧ ∀ d ∈ tl (Txt.join "" ys), d ∈ tl z := by
  intro ys h
  have key : ∀ {ys : List Str}, (∀ y ∈ ys, ∃ d ∈ tl z, y = ⟨#[d]⟩) → (ys.map (·.length)).sum = ys.length ∧ ((ys.map tl).flatten).length = ys.length ∧ ∀ d ∈ (ys.map tl).flatten, d ∈ tl z := by
    intro ys
    induction ys with
    | nil => intro _; exact ⟨rfl, rfl, fun _ h => (nomatch h)⟩
    | cons y r ih =>
      intro h
      obtain ⟨a, b, c⟩ := ih fun x hx => h x (List.mem_cons_of_mem _ hx)
      obtain ⟨d, hd, rfl⟩ := h y List.mem_cons_self
      refine ⟨?_, ?_, ?_⟩
      · rw [List.map_cons, List.sum_cons, a, List.length_cons, one_len]
        omega
      · rw [List.map_cons, List.flatten_cons, List.length_append, b, List.length_cons]
        show 1 + r.length = r.length + 1
        omega
      · intro e he
        rw [List.map_cons, List.flatten_cons] at he
        rcases List.mem_append.mp he with q | q
        · have : e = d := by simpa using q
          subst this
          exact hd
        · exact c e q
  obtain ⟨a, b, c⟩ := key h
  refine ⟨a, ?_, ?_⟩
  · rw [TL.len_tl, tl_join, b]
  · rw [tl_join]
    exact c
def fewL (r : Str) : List Str := ["ab", "ab", "abc", "abc", "a b", "a\n", "\"\\", "x~", "01", r]
theorem fewL_ok {r : Str} (h1 : 1 ≤ r.length) (h2 : r.length ≤ 3) (h3 : Lt r) : ∀ y ∈ fewL r, 1 ≤ y.length ∧ y.length ≤ 3 ∧ Lt y := by
  have key : ∀ y ∈ fewL "ab", 1 ≤ y.length ∧ y.length ≤ 3 ∧ (tl y).all (fun c => (tl lettersS).contains c) = true := by decide +kernel
  intro y hy
  have : y ∈ fewL "ab" ∨ y = r := by
    unfold fewL at hy ⊢
    simp only [List.mem_cons, List.not_mem_nil, or_false] at hy ⊢
    grind
  rcases this with h | rfl
  · obtain ⟨a, b, c⟩ := key y h
    exact ⟨a, b, Lt.dec c⟩
  · exact ⟨h1, h2, h3⟩
theorem at_map_str {ys : List Str} {i : Nat} {v : V} (h : (ys.map V.str)[i]? = some v) : ∃ y ∈ ys, v = .str y := by
  rw [List.getElem?_map] at h
  cases e : ys[i]? with
  | none => rw [e] at h; cases h
  | some y =>
    rw [e] at h
    exact ⟨y, List.mem_of_getElem? e, (Option.some.inj h).symm⟩
theorem flat_strs (ys : List Str) : (ys.map V.str).all flatV = true := by
  rw [List.all_eq_true]
  intro x hx
  obtain ⟨y, _, rfl⟩ := List.mem_map.mp hx
  rfl
theorem signs94 : 0 < (Txt.replace lettersS "q" "").length ∧ (Txt.replace lettersS "q" "").length ≤ 100 ∧
    (tl (Txt.replace lettersS "q" "")).all (fun c => (tl lettersS).contains c) = true := by decide +kernel
end AB

/-! the rules that speak of the written part, with that part named (for the blocks of comprehensions) -/
namespace AB
open PySem PySem.Spec PyProof.Rows L2
section
variable {X : Cx} {K : PySem.W.Frag}
theorem ixK_list (h : X.K = K) : IxR X (rIxL K) := h ▸ ix_list
theorem ixK_tup (h : X.K = K) : IxR X (rIxT K) := h ▸ ix_tup
theorem ixK_seq (h : X.K = K) : IxR X (rIx K) := h ▸ ix_seq
theorem slK_list (h : X.K = K) : SlR X (rSlL K) := h ▸ sl_list
theorem inK_seq (h : X.K = K) : OpR X (compareOp .In) (rIn K false) := h ▸ op_in_seq
theorem notInK_seq (h : X.K = K) : OpR X (compareOp .NotIn) (rIn K true) := h ▸ op_notIn_seq
theorem eqK_D (h : X.K = K) (hu : X.A.units + 64 < cLine) : OpR X (compareOp .Eq) (rEqD K) := h ▸ op_eqD hu
theorem neK_D (h : X.K = K) (hu : X.A.units + 64 < cLine) : OpR X (compareOp .NotEq) (rNeD K) := h ▸ op_neD hu
def rLenK (K : PySem.W.Frag) : List V → Hp → VK → Prop := fun xs H Q => ∃ x n, xs = [x] ∧ LenV K x H n ∧ Q (.int n) H
theorem lenK (h : X.K = K) : CallR X (.builtin "len") (rLenK K) := h ▸ call_len
def rListOf (K : PySem.W.Frag) : List V → Hp → VK → Prop := fun xs H Q => ∃ p ys, xs = [.ref p] ∧ (SqL K H p ys ∨ SqT K H p ys) ∧ ∀ l, H l = none → Q (.ref l) (upd H l (.lst ys))
theorem listK_of (h : X.K = K) : CallR X (.type "list") (rListOf K) := h ▸ call_list_of
theorem reprK {k : Nat} (h : X.K = K) (hr : Room k X.A) (hg : X.A.guards = some []) : CallR X (.builtin "repr") (rRepr K) := h ▸ call_repr hr hg
theorem piK_list {tg l : Expr} {tl : TE} (h : X.K = K) (hl : PE X l tl) : PI X tg l (iList K tl) := h ▸ pi_list hl
theorem piK_tup {tg l : Expr} {tl : TE} (h : X.K = K) (hl : PE X l tl) : PI X tg l (iTup K tl) := h ▸ pi_tup hl
theorem pgK_tup {es : List Expr} {k : Nat} {t : TGs} {n : Nat} {pos : Pos} (hK : X.K = K) (hc : X.calm = true) (h : PGs X es t)
    (hn : (assignEach es X.env).length = n := by rfl) (hst : (assignEach es X.env).findIdx? (·.1) = none := by rfl) :
    PG X (.Tuple es k pos) (gTup K n t) := hK ▸ pg_tup hc h hn hst
def rJoinK (K : PySem.W.Frag) : V → List V → Hp → VK → Prop := fun x xs H Q => ∃ a p, ∃ ys : List Str, x = .str a ∧ xs = [.ref p] ∧
  (SqL K H p (ys.map V.str) ∨ SqT K H p (ys.map V.str)) ∧ (ys.map (·.length)).sum + ys.length * a.length ≤ 16777216 ∧ Q (.str (Txt.join a ys)) H
end
open TL (tl)
theorem cut_isAt {z y : Str} (i : Nat) : decide (V.str (cutS z (some (i : Int)) (some ((i : Int) + (y.length : Int)))) = V.str y) = isAt (tl z) (tl y) i := by
  have e : tl (cutS z (some (i : Int)) (some ((i : Int) + (y.length : Int)))) = ((tl z).drop i).take y.length := by
    have := tl_cutS (z := z) (a := i) (b := i + y.length)
    rw [Nat.add_sub_cancel_left] at this
    rw [← this]
    rfl
  unfold isAt TL.pre
  rw [← TL.len_tl, ← e]
  by_cases h : cutS z (some (i : Int)) (some ((i : Int) + (y.length : Int))) = y
  · rw [decide_eq_true (by rw [h]), h]
    simp
  · rw [decide_eq_false fun q => h (V.str.inj q)]
    symm
    exact beq_eq_false_iff_ne.mpr fun q => h (TL.ext_tl q)
end AB

namespace AB
open PySem PySem.Spec PyProof.Rows L2
open TL (tl)
/-- a law's promise -/
def spLaw (K : PySem.W.Frag) : Sp := fun vs H Q _ => ∃ (a : Addr) (ns : List Int), vs = [.ref a] ∧ SqL K H a (ns.map V.int) ∧ ns.length ≤ 63 ∧ ∀ H', Q (.bl true) H'

/-- two parameters by keywords, in the other order -/
def kb21 {α : Type} : List α → List α → List α := fun us ws => match us, ws with
  | [], [a, b] => [b, a]
  | _, _ => []
theorem kb21_mk {K : PySem.W.Frag} {fd : FuncData} {x y : Str} (h : ∀ a b : Value, bindArgs fd ⟨[], [(y, a), (x, b)]⟩ = pure [(x, b), (y, a)]) :
    KBinds K fd [x, y] [y, x] kb21 kb21 where
  to := by
    intro s us ws _ hl
    match us, ws, hl with
    | [], [a, b], _ => exact .of_eq (h a b)
    | [], [], h => cases h
    | [], [_], h => cases h
    | [], _ :: _ :: _ :: _, h => cases h
    | _ :: _, _, h => cases h
  rel := by
    intro vs us zs ws r1 r2
    cases r1 with
    | cons a b => exact .nil
    | nil =>
      cases r2 with
      | nil => exact .nil
      | cons p q =>
        cases q with
        | nil => exact .nil
        | cons p' q' =>
          cases q' with
          | nil => exact .cons p' (.cons p .nil)
          | cons _ _ => exact .nil

theorem show_plc {t w : Str} (ht : t.length ≤ 1000) : Show (.list (datI (plc (tl t) (tl w)))) 16000000 64 := by
  have hl := TL.len_tl t
  refine show_nats (m := 1001) ?_ (by decide) ?_
  · have := plc_len (tl t) (tl w)
    omega
  · intro k hk
    unfold plc plcN at hk
    have := List.mem_range.mp (List.mem_filter.mp hk).1
    omega
theorem ne_self {A B : Prop} {x : V} (h : B) : if (!decide (x = x)) = true then A else B := by
  rw [decide_eq_true rfl]
  exact h
theorem nef_self {A B : Prop} {l : List Nat} (h : B) : if (!PyData.eqv (.list (datI l)) (.list (datI l))) = true then A else B := by
  rw [eqv_nats]
  exact h
def nonE (ss : List Str) : List Str := ss.filter fun s => decide (0 < s.length)
theorem ne_empty {s : Str} : (!decide (V.str s = V.str "")) = decide (0 < s.length) := by
  by_cases h : 0 < s.length
  · rw [decide_eq_true h, decide_eq_false]
    · rfl
    · intro e
      have := V.str.inj e
      subst this
      exact absurd h (by decide +kernel)
  · rw [decide_eq_false h, decide_eq_true]
    · rfl
    · have e : tl s = tl "" := by
        have := TL.len_tl s
        have h2 : tl s = [] := List.length_eq_zero_iff.mp (by omega)
        rw [h2]
        decide +kernel
      rw [TL.ext_tl e]
end AB

/-! how far two texts are apart: plain mathematics -/
namespace AB
def neq (c d : Nat) : Nat := if c = d then 0 else 1
def lev : List Nat → List Nat → Nat
  | [], y => y.length
  | _ :: x, [] => x.length + 1
  | c :: x, d :: y => min (lev x (d :: y) + 1) (min (lev (c :: x) y + 1) (lev x y + neq c d))
termination_by x y => x.length + y.length
/-- an alignment and what it costs -/
inductive Al : List Nat → List Nat → Nat → Prop
  | nil : Al [] [] 0
  | del {x y n} (c : Nat) : Al x y n → Al (c :: x) y (n + 1)
  | ins {x y n} (d : Nat) : Al x y n → Al x (d :: y) (n + 1)
  | sub {x y n} (c d : Nat) : Al x y n → Al (c :: x) (d :: y) (n + neq c d)
theorem lev_nil (y : List Nat) : lev [] y = y.length := by unfold lev; rfl
theorem lev_nil' (x : List Nat) : lev x [] = x.length := by cases x <;> simp [lev]
theorem lev_cons (c d : Nat) (x y : List Nat) : lev (c :: x) (d :: y) = min (lev x (d :: y) + 1) (min (lev (c :: x) y + 1) (lev x y + neq c d)) := by
  rw [lev]
theorem Al.insAll : ∀ y : List Nat, Al [] y y.length
  | [] => .nil
  | d :: y => .ins d (Al.insAll y)
theorem Al.delAll : ∀ y : List Nat, Al y [] y.length
  | [] => .nil
  | d :: y => .del d (Al.delAll y)
theorem al_lev : ∀ x y : List Nat, Al x y (lev x y)
  | [], y => by rw [lev_nil]; exact .insAll y
  | c :: x, [] => by rw [lev_nil']; exact .delAll _
  | c :: x, d :: y => by
    rw [lev_cons]
    have h1 := al_lev x (d :: y)
    have h2 := al_lev (c :: x) y
    have h3 := al_lev x y
    rcases Nat.le_total (lev x (d :: y) + 1) (min (lev (c :: x) y + 1) (lev x y + neq c d)) with h | h
    · rw [Nat.min_eq_left h]; exact .del c h1
    · rw [Nat.min_eq_right h]
      rcases Nat.le_total (lev (c :: x) y + 1) (lev x y + neq c d) with g | g
      · rw [Nat.min_eq_left g]; exact .ins d h2
      · rw [Nat.min_eq_right g]; exact .sub c d h3
termination_by x y => x.length + y.length
theorem lev_del (c : Nat) (x y : List Nat) : lev (c :: x) y ≤ lev x y + 1 := by
  cases y with
  | nil => rw [lev_nil', lev_nil']; simp
  | cons d y => rw [lev_cons]; omega
theorem lev_ins (d : Nat) (x y : List Nat) : lev x (d :: y) ≤ lev x y + 1 := by
  cases x with
  | nil => rw [lev_nil, lev_nil]; simp
  | cons c x => rw [lev_cons]; omega
theorem lev_sub (c d : Nat) (x y : List Nat) : lev (c :: x) (d :: y) ≤ lev x y + neq c d := by rw [lev_cons]; omega
theorem lev_le {x y : List Nat} {n : Nat} (h : Al x y n) : lev x y ≤ n := by
  induction h with
  | nil => simp [lev]
  | del c _ ih => exact Nat.le_trans (lev_del _ _ _) (by omega)
  | ins d _ ih => exact Nat.le_trans (lev_ins _ _ _) (by omega)
  | sub c d _ ih => exact Nat.le_trans (lev_sub _ _ _ _) (by omega)
theorem Al.app {x y x' y' : List Nat} {n m : Nat} (h : Al x y n) (g : Al x' y' m) : Al (x ++ x') (y ++ y') (n + m) := by
  induction h with
  | nil => simpa using g
  | del c _ ih => rw [Nat.add_right_comm]; exact .del c ih
  | ins c _ ih => rw [Nat.add_right_comm]; exact .ins c ih
  | sub c d _ ih => rw [Nat.add_right_comm]; exact .sub c d ih
theorem Al.rev {x y : List Nat} {n : Nat} (h : Al x y n) : Al x.reverse y.reverse n := by
  induction h with
  | nil => exact .nil
  | del c _ ih => rw [List.reverse_cons]; have := ih.app (.del c .nil); simpa using this
  | ins c _ ih => rw [List.reverse_cons]; have := ih.app (.ins c .nil); simpa using this
  | sub c d _ ih =>
    rw [List.reverse_cons, List.reverse_cons]
    have := ih.app (.sub c d .nil)
    simpa using this
theorem neq_symm (c d : Nat) : neq c d = neq d c := by unfold neq; by_cases h : c = d <;> simp [h, eq_comm]
theorem Al.symm {x y : List Nat} {n : Nat} (h : Al x y n) : Al y x n := by
  induction h with
  | nil => exact .nil
  | del c _ ih => exact .ins c ih
  | ins c _ ih => exact .del c ih
  | sub c d _ ih => rw [neq_symm]; exact .sub d c ih
theorem Al.refl : ∀ x : List Nat, Al x x 0
  | [] => .nil
  | c :: x => by have := Al.sub c c (Al.refl x); simpa [neq] using this
theorem lev_rev (x y : List Nat) : lev x.reverse y.reverse = lev x y := by
  refine Nat.le_antisymm (lev_le (al_lev x y).rev) ?_
  have := lev_le (al_lev x.reverse y.reverse).rev
  simpa using this
theorem lev_symm (x y : List Nat) : lev x y = lev y x := Nat.le_antisymm (lev_le (al_lev y x).symm) (lev_le (al_lev x y).symm)
theorem neq_tri (a b c : Nat) : neq a c ≤ neq a b + neq b c := by
  unfold neq
  by_cases h1 : a = b
  · subst h1; by_cases h2 : a = c <;> simp [h2]
  · simp [h1]; split <;> omega
theorem Al.tri {x y z : List Nat} {n m : Nat} (h : Al x y n) (g : Al y z m) : ∃ k, k ≤ n + m ∧ Al x z k := by
  induction g generalizing x n with
  | nil => exact ⟨n, by omega, h⟩
  | ins d _ ih =>
    obtain ⟨k, hk, a⟩ := ih h
    exact ⟨k + 1, by omega, .ins d a⟩
  | @del y z m c g ih =>
    generalize hy : c :: y = w at h
    induction h with
    | nil => cases hy
    | del e _ ih2 =>
      obtain ⟨k, hk, a⟩ := ih2 hy
      exact ⟨k + 1, by omega, .del e a⟩
    | ins e h' _ =>
      cases hy
      obtain ⟨k, hk, a⟩ := ih h'
      exact ⟨k, by omega, a⟩
    | sub e f h' _ =>
      cases hy
      obtain ⟨k, hk, a⟩ := ih h'
      exact ⟨k + 1, by omega, .del e a⟩
  | @sub y z m c d g ih =>
    generalize hy : c :: y = w at h
    induction h with
    | nil => cases hy
    | del e _ ih2 =>
      obtain ⟨k, hk, a⟩ := ih2 hy
      exact ⟨k + 1, by omega, .del e a⟩
    | ins e h' _ =>
      cases hy
      obtain ⟨k, hk, a⟩ := ih h'
      refine ⟨k + 1, ?_, .ins d a⟩
      omega
    | sub e f h' _ =>
      cases hy
      obtain ⟨k, hk, a⟩ := ih h'
      have := neq_tri e c d
      exact ⟨k + neq e d, by omega, .sub e d a⟩
theorem lev_tri (x y z : List Nat) : lev x z ≤ lev x y + lev y z := by
  obtain ⟨k, hk, a⟩ := (al_lev x y).tri (al_lev y z)
  exact Nat.le_trans (lev_le a) hk
theorem lev_same (x : List Nat) : lev x x = 0 := Nat.le_zero.mp (lev_le (.refl x))
theorem al_zero {x y : List Nat} {n : Nat} (h : Al x y n) (h0 : n = 0) : x = y := by
  induction h with
  | nil => rfl
  | del => omega
  | ins => omega
  | sub c d _ ih =>
    have h1 : neq c d = 0 := by omega
    have h2 : c = d := by
      unfold neq at h1
      by_cases e : c = d
      · exact e
      · simp [e] at h1
    rw [h2, ih (by omega)]
theorem lev_zero (x y : List Nat) : lev x y = 0 ↔ x = y := by
  constructor
  · intro h; exact al_zero (al_lev x y) h
  · rintro rfl; exact lev_same x
theorem lev_cc (c : Nat) (x y : List Nat) : lev (c :: x) (c :: y) = lev x y := by
  refine Nat.le_antisymm ?_ ?_
  · have := lev_sub c c x y
    simpa [neq] using this
  · rw [lev_cons]
    have h1 : lev x y ≤ lev x (c :: y) + 1 := by
      have := lev_tri x (c :: y) y
      have h2 : lev (c :: y) y ≤ 1 := by have := lev_del c y y; rw [lev_same] at this; exact this
      omega
    have h2 : lev x y ≤ lev (c :: x) y + 1 := by
      have := lev_tri x (c :: x) y
      have h3 : lev x (c :: x) ≤ 1 := by have := lev_ins c x x; rw [lev_same] at this; exact this
      omega
    simp [neq]
    omega
theorem lev_front (f x y : List Nat) : lev (f ++ x) (f ++ y) = lev x y := by
  induction f with
  | nil => rfl
  | cons c f ih => rw [List.cons_append, List.cons_append, lev_cc, ih]
theorem lev_back (f x y : List Nat) : lev (x ++ f) (y ++ f) = lev x y := by
  rw [← lev_rev, List.reverse_append, List.reverse_append, lev_front, lev_rev]
theorem al_len {x y : List Nat} {n : Nat} (h : Al x y n) : y.length ≤ x.length + n ∧ x.length ≤ y.length + n := by
  induction h with
  | nil => simp
  | del c _ ih => simp; omega
  | ins c _ ih => simp; omega
  | sub c d _ ih => simp; omega
theorem lev_len (x y : List Nat) : y.length ≤ x.length + lev x y ∧ x.length ≤ y.length + lev x y := al_len (al_lev x y)
theorem lev_more (x z : List Nat) : lev x (x ++ z) = z.length := by
  refine Nat.le_antisymm ?_ ?_
  · have := (Al.refl x).app (Al.insAll z)
    simpa using lev_le this
  · have := (lev_len x (x ++ z)).1
    simp at this
    omega
theorem lev_two (a b c : List Nat) : lev (a ++ b) (b ++ c) ≤ lev a b + lev b c := lev_le ((al_lev a b).app (al_lev b c))
theorem lev_max (x y : List Nat) : lev x y ≤ x.length + y.length := by
  have := (Al.delAll x).app (Al.insAll y)
  simpa using lev_le this

/-! ### by beginnings -/
def dst (x y : List Nat) : Nat := lev x.reverse y.reverse
theorem dst_eq (x y : List Nat) : dst x y = lev x y := lev_rev x y
theorem dst_nil (y : List Nat) : dst [] y = y.length := by unfold dst; simp [lev_nil]
theorem dst_nil' (y : List Nat) : dst y [] = y.length := by unfold dst; simp [lev_nil']
theorem dst_snoc (x y : List Nat) (c d : Nat) : dst (x ++ [c]) (y ++ [d]) = min (dst x (y ++ [d]) + 1) (min (dst (x ++ [c]) y + 1) (dst x y + neq c d)) := by
  unfold dst
  simp only [List.reverse_append, List.reverse_cons, List.reverse_nil, List.nil_append, List.singleton_append, List.cons_append]
  rw [lev_cons]
/-- the row of distances of x from the beginnings of b -/
def rowOf (x b : List Nat) : List Nat := (List.range (b.length + 1)).map fun j => dst x (b.take j)
theorem rowOf_len (x b : List Nat) : (rowOf x b).length = b.length + 1 := by simp [rowOf]
theorem rowOf_get {x b : List Nat} {j : Nat} (h : j ≤ b.length) : (rowOf x b)[j]? = some (dst x (b.take j)) := by
  unfold rowOf
  rw [List.getElem?_map, List.getElem?_range (by omega)]
  rfl
theorem rowOf_zero (b : List Nat) : rowOf [] b = List.range (b.length + 1) := by
  unfold rowOf
  conv => rhs; rw [← List.map_id (List.range (b.length + 1))]
  apply List.map_congr_left
  intro j hj
  rw [dst_nil, List.length_take]
  have := List.mem_range.mp hj
  simp
  omega
theorem rowOf_step {x b : List Nat} {c d j : Nat} (h : b[j]? = some d) :
    dst (x ++ [c]) (b.take (j + 1)) = min (dst x (b.take (j + 1)) + 1) (min (dst (x ++ [c]) (b.take j) + 1) (dst x (b.take j) + neq c d)) := by
  have : b.take (j + 1) = b.take j ++ [d] := by rw [List.take_add_one, h]; rfl
  rw [this, dst_snoc]
theorem rowOf_head (x b : List Nat) : (rowOf x b)[0]? = some x.length := by
  rw [rowOf_get (Nat.zero_le _)]
  simp [dst_nil']
theorem dst_le (x y : List Nat) : dst x y ≤ x.length + y.length := by rw [dst_eq]; exact lev_max x y
end AB

namespace AB
open PySem PySem.Spec PyProof.Rows L2
open TL (tl)
section
variable {X : Cx}
/-! ### min(a, b, c) -/
theorem vals3 {x y z : V} {us : List Value} (r : Vals [x, y, z] us) : ∃ u v w, us = [u, v, w] ∧ RelV x u ∧ RelV y v ∧ RelV z w := by
  cases r with
  | cons a b =>
    obtain ⟨v, w, rfl, h1, h2⟩ := vals2 b
    exact ⟨_, v, w, rfl, a, h1, h2⟩
def rMin3 : List V → Hp → VK → Prop := fun xs H Q => ∃ i j k : Int, xs = [.int i, .int j, .int k] ∧ Q (.int (min i (min j k))) H
theorem call_min3 (hc : X.calm = true) : CallR X (.builtin "min") rMin3 := by
  intro pins s σ H xs us Q I r h
  obtain ⟨i, j, k, rfl, q⟩ := h
  obtain ⟨u, v, w, rfl, ⟨t, rfl⟩, ⟨t', rfl⟩, ⟨t'', rfl⟩⟩ := vals3 r
  refine min_three_ints (I.ok.hd hc) ?_
  intro h' tk kp
  refine ⟨_, H, I.kept kp, ?_, q⟩
  by_cases c1 : j < i
  · rw [if_pos c1]
    by_cases c2 : k < j
    · rw [if_pos c2]
      exact ⟨t'', by congr 1; omega⟩
    · rw [if_neg c2]
      exact ⟨t', by congr 1; omega⟩
  · rw [if_neg c1]
    by_cases c2 : k < i
    · rw [if_pos c2]
      exact ⟨t'', by congr 1; omega⟩
    · rw [if_neg c2]
      exact ⟨t, by congr 1; omega⟩

/-! ### enumerate of a text -/
def Ites (z : Str) : It :=
  ⟨fun i _ => i < z.length, fun i H v H' => ∃ T c, v = .ref T ∧ H T = none ∧ H' = upd H T (.tup [.int (i : Nat), .str ⟨#[c]⟩]) ∧ (tl z)[i]? = some c, fun i _ => i = z.length⟩
theorem cps_tl {z : Str} {i c : Nat} (h : z.cps[i]? = some c) : (tl z)[i]? = some c := by simpa using h
theorem turn_enumS {P : Program} {w : World} {K : PySem.W.Frag} {elts : List Expr} {kk : Nat} {tpos : Pos} (z : Str) (t : Tok) (e it : Addr) :
    Turn P w K (.Tuple elts kk tpos) (Ites z) [e, it] e (fun i h => (∃ old, IsEnum h e it ((i : Nat) : Int) old) ∧ h.IsStrIter it (strIterType z) z t i ∧ e ≠ it) where
  mem := List.mem_cons_self
  obj := by
    rintro i h ⟨⟨old, he⟩, ⟨o, ho, hc, hd⟩, _⟩ b hb
    rcases List.mem_cons.mp hb with rfl | hb
    · exact ⟨_, he, fun v q => nomatch q⟩
    · obtain rfl := List.mem_singleton.mp hb
      exact ⟨o, ho, fun v q => by rw [hd] at q; cases q⟩
  keep := by
    rintro i h h' ⟨⟨old, he⟩, ⟨o, ho, hr⟩, hne⟩ k
    exact ⟨⟨old, k e (by simp) _ he⟩, ⟨o, k it (by simp) _ ho, hr⟩, hne⟩
  item := by
    intro X hP hw hK hc i pins s σ H E I hf st hg
    subst hP hw hK
    obtain ⟨⟨old, he⟩, hit, hne⟩ := st
    have hel : e < s.heap.objs.size := Heap.lt_size he
    have hil : it < s.heap.objs.size := by obtain ⟨_, q, _⟩ := id hit; exact Heap.lt_size q
    refine wpAny_pyNext_enum_itemD (Draws.text (A := X.A.in1) (I.ok.hd hc) it z t) he hit hg hne (by simpa using hne) ?_
    rintro x h' tk ⟨c, u, hcp, rfl⟩ ho hit' hT hsz hk
    refine ⟨_, rfl, wpAny_letOwnedTupleGo_enum (s := { s with heap := h', toks := tk + 1 }) ho ?_⟩
    intro h'' he' sb
    have hT2 := (sb.2 _ (Nat.ne_of_gt hel)).trans hT
    have new : ObjOk X.prog X.w (upd H s.heap.objs.size (.tup [.int (i : Nat), .str ⟨#[c]⟩])) h'' s.heap.objs.size (.tup [.int (i : Nat), .str ⟨#[c]⟩]) :=
      ⟨show 2 ≤ sizeLine by decide, _, .cons ⟨_, rfl⟩ (.cons ⟨_, rfl⟩ .nil), ⟨_, hT2, rfl, _, rfl⟩⟩
    have I1 : Inv X pins σ (upd H s.heap.objs.size (.tup [.int (i : Nat), .str ⟨#[c]⟩])) { s with heap := h'', toks := tk + 1 } := by
      refine I.turnedNew (ch := [e, it]) ?_ hf (Nat.le_refl _) new
      intro b ob hb q
      have n1 : b ≠ e := fun z => hb (by simp [z])
      have n2 : b ≠ it := fun z => hb (by simp [z])
      exact (sb.2 b n1).trans (hk b ob n1 n2 q)
    have e1 : ((i + 1 : Nat) : Int) = (i : Int) + 1 := by omega
    obtain ⟨oi, hoi, hri⟩ := hit'
    refine ⟨.ref s.heap.objs.size, _, I1, rfl, ⟨_, c, rfl, I.hok.fresh (Nat.le_refl _), rfl, cps_tl hcp⟩, ⟨⟨_, by rw [e1]; exact he'⟩, ⟨oi, (sb.2 it (Ne.symm hne)).trans hoi, hri⟩, hne⟩, ?_⟩
    intro b hb
    have hb' : b < s.heap.objs.size := by
      rcases List.mem_cons.mp hb with rfl | hb
      · exact hel
      · obtain rfl := List.mem_singleton.mp hb
        exact hil
    rw [upd_ne (Nat.ne_of_lt hb')]
    exact (hf b hb).1
  done := by
    intro X hP hw hK hc i pins s σ H E I hf st hg
    subst hP hw hK
    obtain ⟨⟨old, he⟩, hit, hne⟩ := st
    obtain ⟨f0, f1, f2, f3, f4, f5⟩ := hf it (by simp)
    have e1 : i = z.cps.size := hg
    subst e1
    refine wpAny_pyNext_enum_endD (Draws.text (A := X.A.in1) (I.ok.hd hc) it z t) he hit ?_
    intro h' eb
    exact ⟨rfl, I.turned (t' := s.toks) (fun b o hb q => eb b o hb q) f0 f1 f3 f4 f5⟩
  self := fun A i s Q E st h => wpAny_pyIter_enum st.1.choose_spec h
def iEnumS (ta : TA) : TI := fun σ H R => ta σ H fun vs H1 => ∃ z, vs = [.str z] ∧ R (Ites z) H1
theorem pi_enumS {e : Expr} {ta : TA} {p pos tpos : Pos} {elts : List Expr} {kk : Nat} (hg : Gl X "enumerate") (hm : X.mg "enumerate" = none) (ha : PA X [e] ta)
    (hs : starEach [e] X.env = [(false, eval e X.env)] := by rfl) :
    PI X (.Tuple elts kk tpos) (.Call (.Name "enumerate" p) [e] [] pos) (iEnumS ta) := by
  constructor
  intro pins s σ H R I h
  refine Call_ (ld_blt I hg hm boot_enumerate (PyProof.Rows.callWith_type1 (thn (ha.run pos pins s σ H _ I h) ?_) hs rfl))
  rintro us s1 ⟨vs, H1, I1, r1, z, rfl, q⟩
  obtain ⟨u, rfl, t, rfl⟩ := vals1 r1
  refine call_enumerate_str fun h' he hit hsz hk => wpAny_pyIter_enum he ?_
  have I2 : Inv X pins σ H1 { s1 with heap := h' } := I1.kept (t' := s1.toks) hk
  refine ⟨s1.heap.objs.size + 1, [s1.heap.objs.size + 1, s1.heap.objs.size], _, _, H1, rfl, I2, turn_enumS z t _ _, ⟨⟨.none, he⟩, hit, Nat.succ_ne_self _⟩, ?_, q⟩
  intro b hb
  have hle : s1.heap.objs.size ≤ b := by
    rcases List.mem_cons.mp hb with rfl | hb
    · exact Nat.le_add_right _ _
    · exact Nat.le_of_eq (List.mem_singleton.mp hb).symm
  exact I1.fpOk hle (I1.hok.fresh hle)
/-- a loop over the signs of a text, with their places -/
theorem for_enumS {z : Str} {g : TG} {tb : TS} {D : Ends} {σ : L2.St} {H : Hp} (Pv : Nat → L2.St → Hp → Prop) (h0 : Pv 0 σ H)
    (hs : ∀ i c σ H T, (tl z)[i]? = some c → Pv i σ H → H T = none → g (.ref T) σ (upd H T (.tup [.int (i : Nat), .str ⟨#[c]⟩])) fun σ2 H2 => tb { D with nx := Pv (i + 1), ct := Pv (i + 1), bk := D.nx } σ2 H2)
    (hd : ∀ σ H, Pv z.length σ H → D.nx σ H) :
    ∃ W : Nat → Nat → L2.St → Hp → Prop, (∃ m, W 0 m σ H) ∧ ∀ i m σ H, W i m σ H →
      ((Ites z).stop i H ∧ D.nx σ H) ∨ ((Ites z).go i H ∧ ∃ N : L2.St → Hp → Prop, (∀ σ' H', N σ' H' → ∃ m', m' < m ∧ W (i + 1) m' σ' H') ∧
        ∀ x H', (Ites z).yld i H x H' → g x σ H' fun σ2 H2 => tb { D with nx := N, ct := N, bk := D.nx } σ2 H2) := by
  refine ⟨fun i m σ H => m = z.length - i ∧ i ≤ z.length ∧ Pv i σ H, ⟨z.length, rfl, Nat.zero_le _, h0⟩, ?_⟩
  rintro i m σ H ⟨rfl, hi, p⟩
  by_cases c : i < z.length
  · refine .inr ⟨c, Pv (i + 1), fun σ' H' p' => ⟨z.length - (i + 1), by omega, rfl, by omega, p'⟩, ?_⟩
    rintro x H' ⟨T, d, rfl, nT, rfl, hd⟩
    exact hs i d σ H T hd p nT
  · have e : i = z.length := by omega
    subst e
    exact .inl ⟨rfl, hd σ H p⟩
/-- a loop over the signs of a text -/
theorem for_str {z : Str} {g : TG} {tb : TS} {D : Ends} {σ : L2.St} {H : Hp} (Pv : Nat → L2.St → Hp → Prop) (h0 : Pv 0 σ H)
    (hs : ∀ i c σ H, (tl z)[i]? = some c → Pv i σ H → g (.str ⟨#[c]⟩) σ H fun σ2 H2 => tb { D with nx := Pv (i + 1), ct := Pv (i + 1), bk := D.nx } σ2 H2)
    (hd : ∀ σ H, Pv z.length σ H → D.nx σ H) :
    ∃ W : Nat → Nat → L2.St → Hp → Prop, (∃ m, W 0 m σ H) ∧ ∀ i m σ H, W i m σ H →
      ((Its z).stop i H ∧ D.nx σ H) ∨ ((Its z).go i H ∧ ∃ N : L2.St → Hp → Prop, (∀ σ' H', N σ' H' → ∃ m', m' < m ∧ W (i + 1) m' σ' H') ∧
        ∀ x H', (Its z).yld i H x H' → g x σ H' fun σ2 H2 => tb { D with nx := N, ct := N, bk := D.nx } σ2 H2) := by
  refine ⟨fun i m σ H => m = z.length - i ∧ i ≤ z.length ∧ Pv i σ H, ⟨z.length, rfl, Nat.zero_le _, h0⟩, ?_⟩
  rintro i m σ H ⟨rfl, hi, p⟩
  by_cases c : i < z.length
  · refine .inr ⟨c, Pv (i + 1), fun σ' H' p' => ⟨z.length - (i + 1), by omega, rfl, by omega, p'⟩, ?_⟩
    rintro x H' ⟨rfl, d, hd, rfl⟩
    exact hs i d σ _ (cps_tl hd) p
  · have e : i = z.length := by omega
    subst e
    exact .inl ⟨Nat.le_refl _, hd σ H p⟩

/-! ### text[::-1] -/
def tRevS (te : TE) : TE := fun σ H Q => te σ H fun x H1 => ∃ z, x = .str z ∧ z.length ≤ sizeLine ∧ Q (.str (sl (tl z).reverse)) H1
theorem rev_list (z : Str) (u : Tok) : Txt.sliceBy z none none (-1, u) = sl (tl z).reverse := by
  apply TL.ext_tl
  rw [show tl (Txt.sliceBy z none none (-1, u)) = _ from step_rev_list z u]
  show _ = (tl z).reverse
  apply List.ext_getElem?
  intro i
  have hl := TL.len_tl z
  rw [List.getElem?_map]
  by_cases h : i < z.length
  · rw [List.getElem?_range h, List.getElem?_reverse (by omega)]
    have : (tl z).length - 1 - i < (tl z).length := by omega
    rw [List.getElem?_eq_getElem this]
    show some (z.cps.getD (z.length - 1 - i) 0) = _
    congr 1
    rw [PySem.StrLaws.getD_of_getElem? (c := (tl z)[(tl z).length - 1 - i])]
    rw [hl, List.getElem?_eq_getElem this]
  · rw [List.getElem?_eq_none (by simpa using h), List.getElem?_eq_none (by rw [List.length_reverse]; omega)]
    rfl
theorem pe_revS {e : Expr} {te : TE} {k : Nat} {p1 p2 p3 pos : Pos} (he : PE X e te) :
    PE X (.Subscript e (.Slice none none (some (.UnaryOp .USub (.Constant (.int 1) k p1) p2)) p3) pos) (tRevS te) := by
  constructor
  intro pins s σ H Q I h
  refine Subscript_ (thn (he.run pins s σ H _ I h) ?_)
  rintro v s1 ⟨x, H1, I1, r1, z, rfl, hz, q⟩
  obtain ⟨t, rfl⟩ := r1
  have hst : PO X (some (.UnaryOp .USub (.Constant (.int 1) k p1) p2)) (tPart (tUn (rU fun i => .int (-i)) (tC (.int 1)))) := po_some (pe_un un_neg pe_int)
  refine wpAny_Slice (thn (po_none.run pins s1 σ H1 (fun o H2 => o = none ∧ H2 = H1) I1 ⟨rfl, rfl⟩) ?_)
  rintro vl s2 ⟨l, H2, I2, pl, rfl, rfl⟩
  refine thn (po_none.run pins s2 σ H2 (fun o H3 => o = none ∧ H3 = H2) I2 ⟨rfl, rfl⟩) ?_
  rintro vu s3 ⟨u, H3, I3, pu, rfl, rfl⟩
  refine thn (hst.run pins s3 σ H3 (fun o H4 => o = some (-1) ∧ H4 = H3) I3 ⟨1, rfl, -1, rfl, rfl, rfl⟩) ?_
  rintro vs s4 ⟨o, H4, I4, ps, rfl, rfl⟩
  obtain ⟨l', rfl, hl'⟩ := IsPart.raw pl
  obtain ⟨u', rfl, hu'⟩ := IsPart.raw pu
  obtain ⟨st', rfl, hst'⟩ := IsPart.raw ps
  have I5 : L2.Inv X pins σ H4 { s4 with heap := s4.heap.push { cls := .type "slice", data := .fields #[partValue l', partValue u', partValue st'] } } := I4.kept (t' := s4.toks) fun b ob q => Heap.get?_push_of_some _ q
  obtain rfl : l' = none := by cases l' with
    | none => rfl
    | some _ => cases hl'
  obtain rfl : u' = none := by cases u' with
    | none => rfl
    | some _ => cases hu'
  obtain ⟨uk, rfl⟩ : ∃ uk, st' = some (-1, uk) := by cases st' with
    | none => cases hst'
    | some p =>
      obtain ⟨a, b⟩ := p
      have : a = -1 := Option.some.inj hst'
      subst this
      exact ⟨b, rfl⟩
  refine tail_any (ops := [.ref s4.heap.objs.size, .str z t]) (typeIs_str _ _ _) (PySem.F.slot_str_getitem.lookup) ?_ (by with_unfolding_all rfl)
  refine wpAny_getItem_str_slice (l := none) (u := none) (st := some (-1, uk)) ⟨_, Heap.get?_push_size _ rfl, rfl, rfl⟩ rfl ?_
  refine post_val_or_str ⟨Nat.le_trans (Txt.sliceBy_le z none none (-1, uk) (show (-1 : Int) ≠ 0 by decide)) hz, fun t' c => ?_⟩
  have e : Txt.sliceBy z none none (-1, uk) = _ := rev_list z uk
  refine ⟨.str (sl (tl z).reverse), H4, I5.tok c, ?_, q⟩
  rw [← e]
  exact ⟨t', rfl⟩
end
end AB

namespace AB
open PySem PySem.Spec PyProof.Rows L2
open TL (tl)
section
variable {X : Cx} {K : PySem.W.Frag}
theorem isiK (h : X.K = K) : CallR X (.builtin "isinstance") (rIsi K) := h ▸ call_isi
theorem tupK_of {a : Expr} {ta : TE} {p pos : Pos} (h : X.K = K) (hg : Gl X "tuple") (hm : X.mg "tuple" = none) (ha : PE X a ta)
    (hs : starEach [a] X.env = (false, eval a X.env) :: starEach [] X.env := by rfl) : PE X (.Call (.Name "tuple" p) [a] [] pos) (tThen ta (kTup K)) := h ▸ pe_tupleOf hg hm ha hs
theorem enumK {e : Expr} {ta : TA} {p pos tpos : Pos} {elts : List Expr} {kk : Nat} (h : X.K = K) (hg : Gl X "enumerate") (hm : X.mg "enumerate" = none) (ha : PA X [e] ta)
    (hs : starEach [e] X.env = [(false, eval e X.env)] := by rfl) :
    PI X (.Tuple elts kk tpos) (.Call (.Name "enumerate" p) [e] [] pos) (iEnum K ta) := h ▸ pi_enum hg hm ha hs
theorem pgK_unl {es : List Expr} {k : Nat} {t : TGs} {n : Nat} {pos : Pos} (hK : X.K = K) (hc : X.calm = true) (h : PGs X es t)
    (hn : (assignEach es X.env).length = n := by rfl) (hst : (assignEach es X.env).findIdx? (·.1) = none := by rfl) :
    PG X (.Tuple es k pos) (gUnl K n t) := hK ▸ pg_unl hc h hn hst
end

/-- a loop over a list with its places -/
theorem for_enum {K : PySem.W.Frag} {a : Addr} {xs : List V} {g : TG} {tb : TS} {D : Ends} {σ : L2.St} {H : Hp} (Pv : Nat → L2.St → Hp → Prop) (h0 : Pv 0 σ H)
    (hl : ∀ i σ H, i ≤ xs.length → Pv i σ H → SqL K H a xs)
    (hs : ∀ i x σ H T, xs[i]? = some x → Pv i σ H → H T = none → g (.ref T) σ (upd H T (.tup [.int (i : Nat), x])) fun σ2 H2 => tb { D with nx := Pv (i + 1), ct := Pv (i + 1), bk := D.nx } σ2 H2)
    (hd : ∀ σ H, Pv xs.length σ H → D.nx σ H) :
    ∃ W : Nat → Nat → L2.St → Hp → Prop, (∃ m, W 0 m σ H) ∧ ∀ i m σ H, W i m σ H →
      ((Ite K a).stop i H ∧ D.nx σ H) ∨ ((Ite K a).go i H ∧ ∃ N : L2.St → Hp → Prop, (∀ σ' H', N σ' H' → ∃ m', m' < m ∧ W (i + 1) m' σ' H') ∧
        ∀ x H', (Ite K a).yld i H x H' → g x σ H' fun σ2 H2 => tb { D with nx := N, ct := N, bk := D.nx } σ2 H2) := by
  refine ⟨fun i m σ H => m = xs.length - i ∧ i ≤ xs.length ∧ Pv i σ H, ⟨xs.length, rfl, Nat.zero_le _, h0⟩, ?_⟩
  rintro i m σ H ⟨rfl, hi, p⟩
  have q := hl i σ H hi p
  by_cases c : i < xs.length
  · refine .inr ⟨⟨xs, xs[i], q, List.getElem?_eq_getElem c⟩, Pv (i + 1), fun σ' H' p' => ⟨xs.length - (i + 1), by omega, rfl, by omega, p'⟩, ?_⟩
    rintro x H' ⟨T, y, rfl, nT, rfl, hy⟩
    exact hs i y σ H T (hy xs q) p nT
  · have e : i = xs.length := by omega
    subst e
    exact .inl ⟨⟨xs, q, Nat.le_refl _⟩, hd σ H p⟩
/-- a comprehension over the signs of a text -/
theorem lc_str {z : Str} {g : TG} {tt : TT} {te : TE} {vs : List Nat} {σ : L2.St} {H1 : Hp} {D : Addr} {Qd : Hp → Prop} (Pv : Nat → Hp → Prop) (h0 : Pv 0 (upd H1 D (.lst [])))
    (hs : ∀ i c H, (tl z)[i]? = some c → Pv i H → g (.str ⟨#[c]⟩) (wipe σ vs) H fun σ2 H2 => wipe σ2 vs = wipe σ vs ∧ tt σ2 H2 fun b H3 =>
      if b = true then te σ2 H3 fun y H4 => ∃ acc, H4 D = some (.lst acc) ∧ acc.length < sizeLine ∧ Pv (i + 1) (upd H4 D (.lst (acc ++ [y]))) else Pv (i + 1) H3)
    (hd : ∀ H, Pv z.length H → Qd H) :
    ∃ W : Nat → Nat → Hp → Prop, (∃ m, W 0 m (upd H1 D (.lst []))) ∧ ∀ i m H, W i m H → ((Its z).stop i H ∧ Qd H) ∨ ((Its z).go i H ∧ ∃ Nx : Hp → Prop,
      (∀ H', Nx H' → ∃ m', m' < m ∧ W (i + 1) m' H') ∧ ∀ x H', (Its z).yld i H x H' → g x (wipe σ vs) H' fun σ2 H2 => wipe σ2 vs = wipe σ vs ∧ tt σ2 H2 fun b H3 =>
      if b = true then te σ2 H3 fun y H4 => ∃ acc, H4 D = some (.lst acc) ∧ acc.length < sizeLine ∧ Nx (upd H4 D (.lst (acc ++ [y]))) else Nx H3) := by
  refine ⟨fun i m H => m = z.length - i ∧ i ≤ z.length ∧ Pv i H, ⟨z.length, rfl, Nat.zero_le _, h0⟩, ?_⟩
  rintro i m H ⟨rfl, hi, p⟩
  by_cases c : i < z.length
  · refine .inr ⟨c, Pv (i + 1), fun H' p' => ⟨z.length - (i + 1), by omega, rfl, by omega, p'⟩, ?_⟩
    rintro x H' ⟨rfl, d, hd, rfl⟩
    exact hs i d _ (cps_tl hd) p
  · have e : i = z.length := by omega
    subst e
    exact .inl ⟨Nat.le_refl _, hd H p⟩

/-! ### kinds -/
def kinds : List String := ["int", "bool", "str", "NoneType", "list", "tuple", "dict"]
theorem kit_int : ∀ t ∈ kinds, kitB t "int" = some (t == "int" || t == "bool") := by decide +kernel
theorem kit_bool : ∀ t ∈ kinds, kitB t "bool" = some (t == "bool") := by decide +kernel
theorem kit_str : ∀ t ∈ kinds, kitB t "str" = some (t == "str") := by decide +kernel
theorem kit_tuple : ∀ t ∈ kinds, kitB t "tuple" = some (t == "tuple") := by decide +kernel
theorem kit_list : ∀ t ∈ kinds, kitB t "list" = some (t == "list") := by decide +kernel

/-! ### changes of a text -/
inductive Ch where
  | set (i c : Nat)
  | drop (i : Nat)
  | put (i c : Nat)
def chV : Ch → List V
  | .set i c => [.str "set", .int i, .str ⟨#[c]⟩]
  | .drop i => [.str "drop", .int i]
  | .put i c => [.str "put", .int i, .str ⟨#[c]⟩]
def okCh (t : List Nat) : Ch → Prop
  | .set i c => (∃ d, t[i]? = some d ∧ d ≠ c) ∧ c ∈ tl lettersS
  | .drop i => i < t.length
  | .put i c => i ≤ t.length ∧ c ∈ tl lettersS
def doCh (t : List Nat) : Ch → List Nat
  | .set i c => t.take i ++ [c] ++ t.drop (i + 1)
  | .drop i => t.take i ++ t.drop (i + 1)
  | .put i c => t.take i ++ [c] ++ t.drop i
/-- the changes, one after the other, all of them right -/
inductive Runs : List Nat → List Ch → List Nat → Prop
  | nil {t} : Runs t [] t
  | cons {t c cs u} : okCh t c → Runs (doCh t c) cs u → Runs t (c :: cs) u
theorem Runs.snoc {t u : List Nat} {cs : List Ch} {c : Ch} (h : Runs t cs u) (o : okCh u c) : Runs t (cs ++ [c]) (doCh u c) := by
  induction h with
  | nil => exact .cons o .nil
  | cons a _ ih => exact .cons a (ih o)
theorem doCh_len (t : List Nat) (c : Ch) : (doCh t c).length ≤ t.length + 1 := by
  cases c <;> simp [doCh] <;> omega

/-- rows of numbers: a list of lists -/
structure Rows (H : Hp) (l : Addr) (rs : List Addr) (xss : List (List Nat)) : Prop where
  top : H l = some (.lst (rs.map V.ref))
  len : rs.length = xss.length
  row : ∀ (i : Nat) r xs, rs[i]? = some r → xss[i]? = some xs → H r = some (.lst (nVs xs))
theorem Rows.same {H H' : Hp} {l : Addr} {rs : List Addr} {xss : List (List Nat)} (h : Rows H l rs xss) (s : Same H H') : Rows H' l rs xss :=
  ⟨s _ _ h.top, h.len, fun i r xs a b => s _ _ (h.row i r xs a b)⟩
theorem Rows.get {H : Hp} {l : Addr} {rs : List Addr} {xss : List (List Nat)} {i : Nat} {xs : List Nat} (h : Rows H l rs xss) (e : xss[i]? = some xs) :
    ∃ r, rs[i]? = some r ∧ (rs.map V.ref)[i]? = some (.ref r) ∧ H r = some (.lst (nVs xs)) := by
  have hi : i < xss.length := (List.getElem?_eq_some_iff.mp e).1
  have hi' : i < rs.length := by rw [h.len]; exact hi
  refine ⟨rs[i], List.getElem?_eq_getElem hi', ?_, h.row i _ _ (List.getElem?_eq_getElem hi') e⟩
  rw [List.getElem?_map, List.getElem?_eq_getElem hi']
  rfl
theorem Rows.snoc {H H' : Hp} {l r : Addr} {rs : List Addr} {xss : List (List Nat)} {xs : List Nat} (h : Rows H l rs xss)
    (h1 : H' l = some (.lst ((rs ++ [r]).map V.ref))) (h2 : H' r = some (.lst (nVs xs))) (h3 : ∀ b o, b ≠ l → H b = some o → H' b = some o) (hne : ∀ q ∈ rs, q ≠ l) : Rows H' l (rs ++ [r]) (xss ++ [xs]) := by
  refine ⟨h1, by simp [h.len], ?_⟩
  intro i q ys hq hy
  by_cases c : i < rs.length
  · rw [List.getElem?_append_left c] at hq
    rw [List.getElem?_append_left (by rw [← h.len]; exact c)] at hy
    exact h3 _ _ (hne q (List.mem_of_getElem? hq)) (h.row i q ys hq hy)
  · have e : i = rs.length := by
      have := (List.getElem?_eq_some_iff.mp hq).1
      simp at this
      omega
    subst e
    rw [List.getElem?_append_right (Nat.le_refl _)] at hq
    rw [h.len, List.getElem?_append_right (Nat.le_refl _)] at hy
    simp at hq hy
    subst hq hy
    exact h2
theorem nVs_get {l : List Nat} {i k : Nat} (h : l[i]? = some k) : (nVs l)[i]? = some (V.int (k : Int)) := by
  unfold nVs
  rw [List.getElem?_map, h]
  rfl
def rowsOf (a b : List Nat) : List (List Nat) := (List.range (a.length + 1)).map fun i => rowOf (a.take i) b
theorem rowsOf_get {a b : List Nat} {i : Nat} (h : i ≤ a.length) : (rowsOf a b)[i]? = some (rowOf (a.take i) b) := by
  unfold rowsOf
  rw [List.getElem?_map, List.getElem?_range (by omega)]
  rfl
theorem rowsOf_len (a b : List Nat) : (rowsOf a b).length = a.length + 1 := by simp [rowsOf]
def rowsTo (a b : List Nat) (n : Nat) : List (List Nat) := (List.range n).map fun i => rowOf (a.take i) b
theorem rowsTo_succ (a b : List Nat) (n : Nat) : rowsTo a b (n + 1) = rowsTo a b n ++ [rowOf (a.take n) b] := by
  unfold rowsTo
  rw [List.range_succ, List.map_append]
  rfl
theorem rowsTo_len (a b : List Nat) (n : Nat) : (rowsTo a b n).length = n := by simp [rowsTo]
theorem rowsTo_get {a b : List Nat} {i n : Nat} (h : i < n) : (rowsTo a b n)[i]? = some (rowOf (a.take i) b) := by
  unfold rowsTo
  rw [List.getElem?_map, List.getElem?_range h]
  rfl
theorem take_snoc {l : List Nat} {i c : Nat} (h : l[i]? = some c) : l.take (i + 1) = l.take i ++ [c] := by
  rw [List.take_add_one, h]
  rfl

/-! ### promises -/
def spNextRow (K : PySem.W.Frag) : Sp := fun vs H Q _ => ∃ (r : Addr) (x : List Nat) (c : Nat) (b : Str), vs = [.ref r, .str ⟨#[c]⟩, .str b] ∧ SqL K H r (nVs (rowOf x (tl b))) ∧ b.length ≤ 100000 ∧
  ∀ H' p, Same H H' → H p = none → H' p = some (.lst (nVs (rowOf (x ++ [c]) (tl b)))) → Q (.ref p) H'
def spDistances : Sp := fun vs H Q _ => ∃ (a b : Str), vs = [.str a, .str b] ∧ a.length ≤ 100000 ∧ b.length ≤ 100000 ∧
  ∀ H' l rs, Same H H' → H l = none → (∀ r ∈ rs, H r = none ∧ r ≠ l) → Rows H' l rs (rowsOf (tl a) (tl b)) → Q (.ref l) H'
def spDistance : Sp := fun vs H Q _ => ∃ (a b : Str), vs = [.str a, .str b] ∧ a.length ≤ 100000 ∧ b.length ≤ 100000 ∧
  ∀ H', Same H H' → Q (.int (dst (tl a) (tl b) : Nat)) H'
def spNtext : Sp := fun vs H Q _ => ∃ (p c : Addr) (n : Nat) (z : Str) (m : Nat), vs = [.ref p, .str z, .int m] ∧ Pen H p c n ∧ n ≤ 800000 ∧ 0 < z.length ∧ z.length ≤ 1000 ∧ m ≤ 1000 ∧
  ∀ H' (y : Str), Keep p H H' → Pen H' p c (n + 40) → y.length ≤ m → (∀ d ∈ tl y, d ∈ tl z) → Q (.str y) H'
end AB

/-! PL: what a def computes as a plain function of data (values without addresses); lists that a def owns are written in place -/
namespace PL
open PySem PySem.Spec PyProof.Rows L2 AB
open TL (tl)

inductive D where
  | non | bl (b : Bool) | int (i : Int) | str (l : List Nat)
  | tup (xs : List D) | lst (xs : List D) | dct (kvs : List (Key × D)) | dcT (kvs : List (List Key × D))
  | ins (c : Str) (fs : List (Str × D)) | ty (n : String) | ref (a : Addr) | flz (xs : List D)

/-- a text's signs are signs -/
def sOk (l : List Nat) : Bool := l.all (· < 0x110000)

structure Gx where
  K : PySem.W.Frag
  mg : Str → Option Value
  prog : Program
  w : World
  base : Heap
  T : List (Addr × Str)
  sys : ∃ o, base.get? sysModules = some o

/-- no table of code objects -/
def NT (o : HO) : Prop := ∀ ps, o ≠ .tbl ps
theorem NT.lst {xs : List V} : NT (.lst xs) := fun _ z => by cases z
theorem NT.tup {xs : List V} : NT (.tup xs) := fun _ z => by cases z
theorem NT.dK {xs : List (Key × V)} : NT (.dK xs) := fun _ z => by cases z
theorem NT.dT {xs : List (List Key × V)} : NT (.dT xs) := fun _ z => by cases z
theorem NT.ins {C dx : Addr} {fs : List (Str × V)} : NT (.ins C dx fs) := fun _ z => by cases z
theorem NT.own {a : Addr} : NT (.own a) := fun _ z => by cases z

def KL (K : PySem.W.Frag) (a : Addr) (xs : List V) : Prop :=
  ∃ (o : Obj) (its : Array Value) (n : Nat), K.lookup a = some o ∧ o.cls = .type "list" ∧ o.dict = none ∧ o.data = .seq its n ∧ its.size ≤ sizeLine ∧ Vals xs its.toList
def KT (K : PySem.W.Frag) (a : Addr) (xs : List V) : Prop :=
  ∃ (o : Obj) (its : Array Value) (n : Nat), K.lookup a = some o ∧ o.cls = .type "tuple" ∧ o.data = .seq its n ∧ its.size ≤ sizeLine ∧ Vals xs its.toList
def SL (G : Gx) (H : Hp) (F : Addr → Prop) (a : Addr) (xs : List V) : Prop := (Rd H a (.lst xs) ∧ ¬F a) ∨ KL G.K a xs
def ST (G : Gx) (H : Hp) (F : Addr → Prop) (a : Addr) (xs : List V) : Prop := (Rd H a (.tup xs) ∧ ¬F a) ∨ KT G.K a xs
theorem SL.sq {G : Gx} {H : Hp} {F : Addr → Prop} {a : Addr} {xs : List V} (h : SL G H F a xs) : SqL G.K H a xs := h.elim (fun z => .inl z.1) .inr
theorem ST.sq {G : Gx} {H : Hp} {F : Addr → Prop} {a : Addr} {xs : List V} (h : ST G H F a xs) : SqT G.K H a xs := h.elim (fun z => .inl z.1) .inr

mutual
/-- v shows d in H, and leans on no object of F -/
inductive Rp (G : Gx) (H : Hp) (F : Addr → Prop) : V → D → Prop
  | non : Rp G H F .non .non
  | bl (b : Bool) : Rp G H F (.bl b) (.bl b)
  | int (i : Int) : Rp G H F (.int i) (.int i)
  | str {l : List Nat} : sOk l = true → Rp G H F (.str (sl l)) (.str l)
  | ty (n : String) : Rp G H F (.ty n) (.ty n)
  | ref (a : Addr) : Rp G H F (.ref a) (.ref a)
  | tup {a : Addr} {vs : List V} {ds : List D} : ST G H F a vs → RpAll G H F vs ds → Rp G H F (.ref a) (.tup ds)
  | lst {a : Addr} {vs : List V} {ds : List D} : H a = some (.lst vs) → ¬F a → RpAll G H F vs ds → Rp G H F (.ref a) (.lst ds)
  | flz {a : Addr} {vs : List V} {ds : List D} : SL G H F a vs → RpAll G H F vs ds → Rp G H F (.ref a) (.flz ds)
  | dct {a : Addr} {kvs : List (Key × V)} {es : List (Key × D)} : H a = some (.dK kvs) → ¬F a → kvs.map (·.1) = es.map (·.1) → RpAll G H F (kvs.map (·.2)) (es.map (·.2)) → Rp G H F (.ref a) (.dct es)
  | dcT {a : Addr} {kvs : List (List Key × V)} {es : List (List Key × D)} : H a = some (.dT kvs) → ¬F a → kvs.map (·.1) = es.map (·.1) → RpAll G H F (kvs.map (·.2)) (es.map (·.2)) → Rp G H F (.ref a) (.dcT es)
  | ins {a C dx : Addr} {c : Str} {fs : List (Str × V)} {es : List (Str × D)} : G.mg c = some (.ref C) → H a = some (.ins C dx fs) → H dx = some (.own a) → ¬F a → ¬F dx → fs.map (·.1) = es.map (·.1) → RpAll G H F (fs.map (·.2)) (es.map (·.2)) → Rp G H F (.ref a) (.ins c es)
inductive RpAll (G : Gx) (H : Hp) (F : Addr → Prop) : List V → List D → Prop
  | nil : RpAll G H F [] []
  | cons {v : V} {vs : List V} {d : D} {ds : List D} : Rp G H F v d → RpAll G H F vs ds → RpAll G H F (v :: vs) (d :: ds)
end

/-- the heap goes on: what is not in F stays; F' has no old object that was not in F -/
structure Mv (H H' : Hp) (F F' : Addr → Prop) : Prop where
  keep : ∀ b o, H b = some o → ¬F b → NT o → H' b = some o
  frb : ∀ b, F' b → F b ∨ H b = none
section
variable {G : Gx} {H H' : Hp} {F F' : Addr → Prop}
theorem Mv.nf (m : Mv H H' F F') {b : Addr} {o : HO} (e : H b = some o) (h : ¬F b) : ¬F' b := fun z =>
  (m.frb b z).elim h fun q => by rw [e] at q; cases q
theorem Rd.mv (m : Mv H H' F F') {a : Addr} {u : HO} (nt : NT u) (r : Rd H a u) (h : ¬F a) : Rd H' a u ∧ ¬F' a := by
  rcases r with r | ⟨o, r⟩
  · exact ⟨.inl (m.keep _ _ r h nt), m.nf r h⟩
  · exact ⟨.inr ⟨o, m.keep _ _ r h fun _ z => by cases z⟩, m.nf r h⟩
theorem SL.mv (m : Mv H H' F F') {a : Addr} {xs : List V} (h : SL G H F a xs) : SL G H' F' a xs := h.elim (fun z => .inl (Rd.mv m NT.lst z.1 z.2)) .inr
theorem ST.mv (m : Mv H H' F F') {a : Addr} {xs : List V} (h : ST G H F a xs) : ST G H' F' a xs := h.elim (fun z => .inl (Rd.mv m NT.tup z.1 z.2)) .inr
theorem Rp.mv (m : Mv H H' F F') {v : V} {d : D} (h : Rp G H F v d) : Rp G H' F' v d := by
  refine Rp.rec (motive_1 := fun v d _ => Rp G H' F' v d) (motive_2 := fun vs ds _ => RpAll G H' F' vs ds)
    .non .bl .int (fun h => .str h) .ty .ref (fun s _ r => .tup (s.mv m) r) (fun e n _ r => .lst (m.keep _ _ e n .lst) (m.nf e n) r) (fun s _ r => .flz (s.mv m) r)
    (fun e n k _ r => .dct (m.keep _ _ e n .dK) (m.nf e n) k r) (fun e n k _ r => .dcT (m.keep _ _ e n .dT) (m.nf e n) k r)
    (fun g e e2 n n2 k _ r => .ins g (m.keep _ _ e n .ins) (m.keep _ _ e2 n2 .own) (m.nf e n) (m.nf e2 n2) k r) .nil (fun _ _ a b => .cons a b) h
theorem RpAll.mv (m : Mv H H' F F') {vs : List V} {ds : List D} (h : RpAll G H F vs ds) : RpAll G H' F' vs ds := by
  induction vs generalizing ds with
  | nil => cases h; exact .nil
  | cons v vs ih =>
    cases h with
    | cons a b => exact .cons (a.mv m) (ih b)
theorem Mv.refl : Mv H H F F := ⟨fun _ _ e _ _ => e, fun _ h => .inl h⟩
theorem Mv.less (h : ∀ b, F' b → F b) : Mv H H F F' := ⟨fun _ _ e _ _ => e, fun b z => .inl (h b z)⟩
theorem RpAll.length {vs : List V} {ds : List D} (h : RpAll G H F vs ds) : vs.length = ds.length := by
  induction vs generalizing ds with
  | nil => cases h; rfl
  | cons v vs ih => cases h with | cons a b => simp [ih b]
theorem RpAll.get {vs : List V} {ds : List D} (h : RpAll G H F vs ds) {i : Nat} {v : V} (e : vs[i]? = some v) : ∃ d, ds[i]? = some d ∧ Rp G H F v d := by
  induction vs generalizing ds i with
  | nil => simp at e
  | cons w vs ih =>
    cases h with
    | cons a b =>
      cases i with
      | zero => simp at e; subst e; exact ⟨_, rfl, a⟩
      | succ i => simpa using ih b (by simpa using e)
theorem RpAll.get' {vs : List V} {ds : List D} (h : RpAll G H F vs ds) {i : Nat} {d : D} (e : ds[i]? = some d) : ∃ v, vs[i]? = some v ∧ Rp G H F v d := by
  have hl := h.length
  have hi : i < vs.length := by rw [hl]; exact (List.getElem?_eq_some_iff.mp e).1
  obtain ⟨d', e', r⟩ := h.get (List.getElem?_eq_getElem hi)
  rw [e] at e'; cases e'
  exact ⟨_, List.getElem?_eq_getElem hi, r⟩
theorem RpAll.app {vs ws : List V} {ds es : List D} (h : RpAll G H F vs ds) (k : RpAll G H F ws es) : RpAll G H F (vs ++ ws) (ds ++ es) := by
  induction vs generalizing ds with
  | nil => cases h; exact k
  | cons v vs ih => cases h with | cons a b => exact .cons a (ih b)
theorem RpAll.take {vs : List V} {ds : List D} (h : RpAll G H F vs ds) (n : Nat) : RpAll G H F (vs.take n) (ds.take n) := by
  induction vs generalizing ds n with
  | nil => cases h; simp; exact .nil
  | cons v vs ih =>
    cases h with
    | cons a b =>
      cases n with
      | zero => exact .nil
      | succ n => exact .cons a (ih b n)
theorem RpAll.drop {vs : List V} {ds : List D} (h : RpAll G H F vs ds) (n : Nat) : RpAll G H F (vs.drop n) (ds.drop n) := by
  induction vs generalizing ds n with
  | nil => cases h; simp; exact .nil
  | cons v vs ih =>
    cases h with
    | cons a b =>
      cases n with
      | zero => exact .cons a b
      | succ n => exact ih b n
theorem RpAll.ints (ns : List Int) : RpAll G H F (ns.map V.int) (ns.map D.int) := by
  induction ns with
  | nil => exact .nil
  | cons n ns ih => exact .cons (.int n) ih
end

/-! ### slots -/
inductive Sl where
  | no | sh (d : D) | ow (d : D) | io (d : D)
abbrev Ev := List Sl
def Sl.mut : Sl → Bool
  | .ow _ => true
  | .io _ => true
  | _ => false
def own (σ : L2.St) (ε : Ev) (p : Addr) : Prop := ∃ (i : Nat) (s : Sl), ε[i]? = some s ∧ s.mut = true ∧ σ[i]? = some (some (.ref p))
/-- what an owned object holds -/
def Top (G : Gx) (H : Hp) (F : Addr → Prop) (p : Addr) : D → Prop
  | .lst ds => ∃ vs, H p = some (.lst vs) ∧ RpAll G H F vs ds
  | .dct es => ∃ kvs, H p = some (.dK kvs) ∧ kvs.map (·.1) = es.map (·.1) ∧ RpAll G H F (kvs.map (·.2)) (es.map (·.2))
  | .dcT es => ∃ kvs, H p = some (.dT kvs) ∧ kvs.map (·.1) = es.map (·.1) ∧ RpAll G H F (kvs.map (·.2)) (es.map (·.2))
  | .ins c es => ∃ C dx fs, G.mg c = some (.ref C) ∧ H p = some (.ins C dx fs) ∧ H dx = some (.own p) ∧ ¬F dx ∧ fs.map (·.1) = es.map (·.1) ∧ RpAll G H F (fs.map (·.2)) (es.map (·.2))
  | _ => False
section
variable {G : Gx} {H H' : Hp} {F F' : Addr → Prop} {p : Addr} {d : D}
theorem Top.some (h : Top G H F p d) : ∃ o, H p = some o := by
  cases d with
  | lst ds => obtain ⟨vs, e, _⟩ := h; exact ⟨_, e⟩
  | dct es => obtain ⟨vs, e, _⟩ := h; exact ⟨_, e⟩
  | dcT es => obtain ⟨vs, e, _⟩ := h; exact ⟨_, e⟩
  | ins c es => obtain ⟨C, dx, fs, _, e, _⟩ := h; exact ⟨_, e⟩
  | _ => exact h.elim
theorem Top.nt (h : Top G H F p d) {o : HO} (e : H p = Option.some o) : NT o := by
  cases d with
  | lst ds => obtain ⟨vs, e1, _⟩ := h; rw [e] at e1; cases e1; exact .lst
  | dct es => obtain ⟨vs, e1, _⟩ := h; rw [e] at e1; cases e1; exact .dK
  | dcT es => obtain ⟨vs, e1, _⟩ := h; rw [e] at e1; cases e1; exact .dT
  | ins c es => obtain ⟨C, dx, fs, _, e1, _⟩ := h; rw [e] at e1; cases e1; exact .ins
  | _ => exact h.elim
/-- what is written is no table and no code object -/
theorem Top.ntb (h : Top G H F p d) {P : Addr} {q : Str} (t : LamX.TabS H P q) : p ≠ P ∧ ∀ c, H c = Option.some (LamX.CodeO c q) → p ≠ c := by
  obtain ⟨ps, e1, _⟩ := t
  refine ⟨fun z => ?_, fun c ec z => ?_⟩
  · subst z; exact h.nt e1 ps rfl
  · subst z
    cases d with
    | lst ds => obtain ⟨vs, e1, _⟩ := h; rw [e1] at ec; cases ec
    | dct es => obtain ⟨vs, e1, _⟩ := h; rw [e1] at ec; cases ec
    | dcT es => obtain ⟨vs, e1, _⟩ := h; rw [e1] at ec; cases ec
    | ins c es => obtain ⟨C, dx, fs, _, e1, _⟩ := h; rw [e1] at ec; cases ec
    | _ => exact h.elim
/-- tables stay where all but some objects stay, none of them a table or a code object -/
theorem tab_keep {as : Addr → Prop} (kp : ∀ b o, H b = some o → ¬as b → H' b = some o) {P : Addr} {q : Str} (t : LamX.TabS H P q) (n1 : ¬as P) (n2 : ∀ c, H c = some (LamX.CodeO c q) → ¬as c) : LamX.TabS H' P q := by
  obtain ⟨ps, e1, h1, h2⟩ := t
  refine ⟨ps, kp _ _ e1 n1, h1, fun pos cv hc => ?_⟩
  obtain ⟨c, rfl, ec⟩ := h2 pos cv hc
  exact ⟨c, rfl, kp _ _ ec (n2 c ec)⟩
theorem tab_top (h : Top G H F p d) {o : HO} {P : Addr} {q : Str} (t : LamX.TabS H P q) : LamX.TabS (upd H p o) P q := by
  obtain ⟨n1, n2⟩ := h.ntb t
  exact tab_keep (as := fun b => b = p) (fun b u e n => by rw [upd_ne n]; exact e) t (fun z => n1 z.symm) fun c ec z => n2 c ec z.symm
theorem tab_lst {xs : List V} (e : H p = Option.some (.lst xs)) {o : HO} {P : Addr} {q : Str} (t : LamX.TabS H P q) : LamX.TabS (upd H p o) P q := by
  refine tab_keep (as := fun b => b = p) (fun b u e n => by rw [upd_ne n]; exact e) t (fun z => ?_) fun c ec z => ?_
  · obtain ⟨ps, e1, _⟩ := t; rw [z, e] at e1; cases e1
  · rw [z, e] at ec; cases ec
theorem tab_dK {xs : List (Key × V)} (e : H p = Option.some (.dK xs)) {o : HO} {P : Addr} {q : Str} (t : LamX.TabS H P q) : LamX.TabS (upd H p o) P q := by
  refine tab_keep (as := fun b => b = p) (fun b u e n => by rw [upd_ne n]; exact e) t (fun z => ?_) fun c ec z => ?_
  · obtain ⟨ps, e1, _⟩ := t; rw [z, e] at e1; cases e1
  · rw [z, e] at ec; cases ec
theorem Top.mv (h : Top G H F p d) (m : Mv H H' F F') (e : H' p = H p) : Top G H' F' p d := by
  cases d with
  | lst ds => obtain ⟨vs, e1, r⟩ := h; exact ⟨vs, e.trans e1, r.mv m⟩
  | dct es => obtain ⟨vs, e1, k, r⟩ := h; exact ⟨vs, e.trans e1, k, r.mv m⟩
  | dcT es => obtain ⟨vs, e1, k, r⟩ := h; exact ⟨vs, e.trans e1, k, r.mv m⟩
  | ins c es => obtain ⟨C, dx, fs, g, e1, e2, n, k, r⟩ := h; exact ⟨C, dx, fs, g, e.trans e1, m.keep _ _ e2 n .own, m.nf e2 n, k, r.mv m⟩
  | _ => exact h.elim
/-- an owned object is given away -/
theorem Top.rp (h : Top G H F p d) (hF : ∀ b, F' b → F b) (np : ¬F' p) : Rp G H F' (.ref p) d := by
  have m : Mv H H F F' := Mv.less hF
  cases d with
  | lst ds => obtain ⟨vs, e1, r⟩ := h; exact .lst e1 np (r.mv m)
  | dct es => obtain ⟨vs, e1, k, r⟩ := h; exact .dct e1 np k (r.mv m)
  | dcT es => obtain ⟨vs, e1, k, r⟩ := h; exact .dcT e1 np k (r.mv m)
  | ins c es => obtain ⟨C, dx, fs, g, e1, e2, n, k, r⟩ := h; exact .ins g e1 e2 np (fun z => n (hF _ z)) k (r.mv m)
  | _ => exact h.elim
end

structure Fr where
  H0 : Hp
  io : Nat → Addr → Prop
  F0 : Addr → Prop
def Fr.F (C : Fr) (σ : L2.St) (ε : Ev) (p : Addr) : Prop := C.F0 p ∨ own σ ε p
def Fr.add (C : Fr) (p : Addr) : Fr := { C with F0 := fun q => C.F0 q ∨ q = p }

structure Ok (G : Gx) (C : Fr) (H : Hp) (σ : L2.St) (ε : Ev) : Prop where
  len : σ.length = ε.length
  kept : ∀ b o, C.H0 b = some o → (∀ i, ¬C.io i b) → NT o → H b = some o
  inj : ∀ (i j : Nat) (s t : Sl) (p : Addr), ε[i]? = some s → s.mut = true → ε[j]? = some t → t.mut = true → σ[i]? = some (some (.ref p)) → σ[j]? = some (some (.ref p)) → i = j
  new : ∀ (i : Nat) (d : D) (p : Addr), ε[i]? = some (.ow d) → σ[i]? = some (some (.ref p)) → C.H0 p = none
  nf : ∀ p, own σ ε p → ¬C.F0 p
  f0 : ∀ p, C.F0 p → H p ≠ none
  sh : ∀ (i : Nat) (d : D), ε[i]? = some (.sh d) → ∃ v, σ[i]? = some (some v) ∧ Rp G H (C.F σ ε) v d
  ow : ∀ (i : Nat) (d : D), ε[i]? = some (.ow d) → ∃ p, σ[i]? = some (some (.ref p)) ∧ Top G H (C.F σ ε) p d
  io : ∀ (i : Nat) (d : D), ε[i]? = some (.io d) → ∃ p, σ[i]? = some (some (.ref p)) ∧ Top G H (C.F σ ε) p d
  ioA : ∀ i a, C.io i a → σ[i]? = some (some (.ref a)) ∧ ∃ d, ε[i]? = some (.io d)
  ioB : ∀ (i : Nat) (d : D), ε[i]? = some (.io d) → ∃ a, C.io i a
  tb : ∀ p ∈ G.T, LamX.TabS H p.1 p.2
  h0 : ∀ b, H b = none → C.H0 b = none

/-- a step -/
structure Stp (σ : L2.St) (ε : Ev) (σ' : L2.St) (ε' : Ev) (H H' : Hp) : Prop where
  keep : ∀ b o, H b = some o → ¬own σ ε b → NT o → H' b = some o
  own : ∀ b, own σ' ε' b → own σ ε b ∨ H b = none
  al : ∀ b, H' b = none → H b = none
section
variable {σ σ1 σ2 : L2.St} {ε ε1 ε2 : Ev} {H H1 H2 : Hp} {G : Gx} {C : Fr}
theorem none_of_grow (h : ∀ b o, H b = some o → H1 b = some o) {b : Addr} (e : H1 b = none) : H b = none := by
  cases q : H b with
  | none => rfl
  | some o => rw [h b o q] at e; cases e
theorem Stp.refl : Stp σ ε σ ε H H := ⟨fun _ _ e _ _ => e, fun _ h => .inl h, fun _ h => h⟩
theorem Stp.trans (a : Stp σ ε σ1 ε1 H H1) (b : Stp σ1 ε1 σ2 ε2 H1 H2) : Stp σ ε σ2 ε2 H H2 where
  keep := fun c o e n t => b.keep c o (a.keep c o e n t) (fun z => (a.own c z).elim n fun q => by rw [e] at q; cases q) t
  own := fun c z => (b.own c z).elim (a.own c) fun q => .inr (a.al c q)
  al := fun c e => a.al c (b.al c e)
theorem Stp.mv (a : Stp σ ε σ1 ε1 H H1) : Mv H H1 (C.F σ ε) (C.F σ1 ε1) :=
  ⟨fun b o e n t => a.keep b o e (fun z => n (.inr z)) t, fun b z => z.elim (fun q => .inl (.inl q)) fun q => (a.own b q).imp .inr id⟩
/-- the heap has grown -/
theorem Stp.grow (h : ∀ b o, H b = some o → H1 b = some o) : Stp σ ε σ ε H H1 :=
  ⟨fun b o e _ _ => h b o e, fun _ z => .inl z, fun b e => none_of_grow h e⟩
theorem Ok.own_some (k : Ok G C H σ ε) {p : Addr} (h : own σ ε p) : ∃ o, H p = some o := by
  obtain ⟨i, s, e, m, q⟩ := h
  cases s with
  | no => cases m
  | sh d => cases m
  | ow d => obtain ⟨p', e', t⟩ := k.ow i d e; rw [q] at e'; cases e'; exact t.some
  | io d => obtain ⟨p', e', t⟩ := k.io i d e; rw [q] at e'; cases e'; exact t.some
theorem Ok.fresh (k : Ok G C H σ ε) {p : Addr} (h : H p = none) : C.H0 p = none ∧ ¬C.F σ ε p := by
  have no : ¬own σ ε p := fun z => by
    obtain ⟨o, e⟩ := k.own_some z
    rw [h] at e; cases e
  exact ⟨k.h0 p h, fun z => z.elim (fun q => k.f0 p q h) no⟩
/-- the heap grows -/
theorem Ok.grow (k : Ok G C H σ ε) (h : ∀ b o, H b = some o → H1 b = some o) : Ok G C H1 σ ε := by
  have m : Mv H H1 (C.F σ ε) (C.F σ ε) := (Stp.grow (σ := σ) (ε := ε) h).mv
  exact ⟨k.len, fun b o e n t => h b o (k.kept b o e n t), k.inj, k.new, k.nf, fun p z e => k.f0 p z (by cases q : H p with
      | none => rfl
      | some o => rw [h p o q] at e; cases e),
    fun i d e => by obtain ⟨v, e1, r⟩ := k.sh i d e; exact ⟨v, e1, r.mv m⟩,
    fun i d e => by obtain ⟨v, e1, r⟩ := k.ow i d e; obtain ⟨o, eo⟩ := r.some; exact ⟨v, e1, r.mv m (by rw [eo, h _ _ eo])⟩,
    fun i d e => by obtain ⟨v, e1, r⟩ := k.io i d e; obtain ⟨o, eo⟩ := r.some; exact ⟨v, e1, r.mv m (by rw [eo, h _ _ eo])⟩, k.ioA, k.ioB, fun p hp => (k.tb p hp).ext h, fun b e => k.h0 b (none_of_grow h e)⟩
/-- a new object, kept apart -/
theorem Ok.add (k : Ok G C H σ ε) {p : Addr} {o : HO} (h : H p = none) : Ok G (C.add p) (upd H p o) σ ε := by
  have g : ∀ b u, H b = some u → upd H p o b = some u := fun b u e => by rw [upd_ne (ne_of_none e h)]; exact e
  have k2 := k.grow g
  have m : Mv H (upd H p o) (C.F σ ε) ((C.add p).F σ ε) := ⟨fun b u e _ _ => g b u e, fun b z => z.elim (fun q => q.elim (fun z => .inl (.inl z)) fun e => .inr (e ▸ h)) fun q => .inl (.inr q)⟩
  have np := (k.fresh h).2
  exact ⟨k.len, k2.kept, k.inj, k.new, fun q z w => w.elim (k.nf q z) fun e => np (.inr (e ▸ z)), fun q z => z.elim (k2.f0 q) (fun e => by subst e; rw [upd_same]; exact Option.some_ne_none _),
    fun i d e => by obtain ⟨v, e1, r⟩ := k.sh i d e; exact ⟨v, e1, r.mv m⟩,
    fun i d e => by obtain ⟨v, e1, r⟩ := k.ow i d e; obtain ⟨u, eo⟩ := r.some; exact ⟨v, e1, r.mv m (by rw [eo, g _ _ eo])⟩,
    fun i d e => by obtain ⟨v, e1, r⟩ := k.io i d e; obtain ⟨u, eo⟩ := r.some; exact ⟨v, e1, r.mv m (by rw [eo, g _ _ eo])⟩, k.ioA, k.ioB, k2.tb, k2.h0⟩
theorem Ok.unadd {p : Addr} (k : Ok G (C.add p) H σ ε) : Ok G C H σ ε := by
  have m : Mv H H ((C.add p).F σ ε) (C.F σ ε) := Mv.less fun b z => z.imp .inl id
  exact ⟨k.len, k.kept, k.inj, k.new, fun q z w => k.nf q z (.inl w), fun q z => k.f0 q (.inl z),
    fun i d e => by obtain ⟨v, e1, r⟩ := k.sh i d e; exact ⟨v, e1, r.mv m⟩,
    fun i d e => by obtain ⟨v, e1, r⟩ := k.ow i d e; exact ⟨v, e1, r.mv m rfl⟩,
    fun i d e => by obtain ⟨v, e1, r⟩ := k.io i d e; exact ⟨v, e1, r.mv m rfl⟩, k.ioA, k.ioB, k.tb, k.h0⟩
end

/-! ### values of expressions -/
inductive Fv where
  | sh (d : D) | fr (d : D) | at (i : Nat)
/-- Hs: the heap at the expression's start -/
def VR (G : Gx) (C : Fr) (Hs H : Hp) (σ : L2.St) (ε : Ev) (v : V) : Fv → Prop
  | .sh d => Rp G H (C.F σ ε) v d
  | .at i => σ[i]? = some (some v)
  | .fr d => ∃ p, v = .ref p ∧ Hs p = none ∧ ¬C.F σ ε p ∧ Ok G (C.add p) H σ ε ∧ Top G H ((C.add p).F σ ε) p d
structure Xc where
  cls : Str
  fs : List (Str × D)
def XR (G : Gx) (H : Hp) (F : Addr → Prop) (c : Value) (d : Option Addr) (x : Xc) : Prop :=
  G.mg x.cls = some c ∧ ((x.fs = [] ∧ d = none) ∨ ∃ a vs, d = some a ∧ H a = some (.xd vs) ∧ vs.map (·.1) = x.fs.map (·.1) ∧ RpAll G H F (vs.map (·.2)) (x.fs.map (·.2)))
inductive Re (α : Type) where
  | ok (a : α) (ε : Ev) | exc (x : Xc) (ε : Ev) | no
def Re.bind {α β : Type} (r : Re α) (k : α → Ev → Re β) : Re β :=
  match r with
  | .ok a ε => k a ε
  | .exc x ε => .exc x ε
  | .no => .no
abbrev Dn (α : Type) := Ev → Re α

def PX (G : Gx) (W : WX) (C : Fr) (σ : L2.St) (ε : Ev) (H : Hp) (x : Xc) (ε' : Ev) : Prop :=
  ∀ c d H', Stp σ ε σ ε' H H' → Ok G C H' σ ε' → XR G H' (C.F σ ε') c d x → W c d σ H'
def PostE (G : Gx) (W : WX) (C : Fr) (σ : L2.St) (ε : Ev) (H : Hp) (Q : VK) : Re Fv → Prop
  | .ok fv ε' => ∀ v H', Stp σ ε σ ε' H H' → Ok G C H' σ ε' → VR G C H H' σ ε' v fv → Q v H'
  | .exc x ε' => PX G W C σ ε H x ε'
  | .no => False
def PostT (G : Gx) (W : WX) (C : Fr) (σ : L2.St) (ε : Ev) (H : Hp) (Q : Bool → Hp → Prop) : Re Bool → Prop
  | .ok b ε' => ∀ H', Stp σ ε σ ε' H H' → Ok G C H' σ ε' → Q b H'
  | .exc x ε' => PX G W C σ ε H x ε'
  | .no => False
/-- argument values: never fresh -/
def Fv.old : Fv → Fv
  | .fr d => .sh d
  | x => x
inductive VRs (G : Gx) (C : Fr) (H : Hp) (σ : L2.St) (ε : Ev) : List V → List Fv → Prop
  | nil : VRs G C H σ ε [] []
  | sh {v : V} {d : D} {vs : List V} {fs : List Fv} : Rp G H (C.F σ ε) v d → VRs G C H σ ε vs fs → VRs G C H σ ε (v :: vs) (.sh d :: fs)
  | at {v : V} {i : Nat} {vs : List V} {fs : List Fv} : σ[i]? = some (some v) → VRs G C H σ ε vs fs → VRs G C H σ ε (v :: vs) (.at i :: fs)
def PostA (G : Gx) (W : WX) (C : Fr) (σ : L2.St) (ε : Ev) (H : Hp) (Q : List V → Hp → Prop) : Re (List Fv) → Prop
  | .ok fs ε' => ∀ vs H', Stp σ ε σ ε' H H' → Ok G C H' σ ε' → VRs G C H' σ ε' vs fs → Q vs H'
  | .exc x ε' => PX G W C σ ε H x ε'
  | .no => False
inductive Fl where
  | nx | bk | ct | rt (fv : Fv)
def PostS (G : Gx) (W : WX) (C : Fr) (σ : L2.St) (ε : Ev) (H : Hp) (E : Ends) : Re Fl → Prop
  | .ok .nx ε' => ∀ σ' H', Stp σ ε σ' ε' H H' → Ok G C H' σ' ε' → E.nx σ' H'
  | .ok .bk ε' => ∀ σ' H', Stp σ ε σ' ε' H H' → Ok G C H' σ' ε' → E.bk σ' H'
  | .ok .ct ε' => ∀ σ' H', Stp σ ε σ' ε' H H' → Ok G C H' σ' ε' → E.ct σ' H'
  | .ok (.rt fv) ε' => ∀ σ' v H', Stp σ ε σ' ε' H H' → Ok G C H' σ' ε' → VR G C C.H0 H' σ' ε' v fv → E.rt v H'
  | .exc x ε' => ∀ c d σ' H', Stp σ ε σ' ε' H H' → Ok G C H' σ' ε' → XR G H' (C.F σ' ε') c d x → W c d σ' H'
  | .no => False

def wE (G : Gx) (W : WX) (den : Dn Fv) : TE := fun σ H Q => ∃ C ε, Ok G C H σ ε ∧ PostE G W C σ ε H Q (den ε)
def wT (G : Gx) (W : WX) (den : Dn Bool) : TT := fun σ H Q => ∃ C ε, Ok G C H σ ε ∧ PostT G W C σ ε H Q (den ε)
def wA (G : Gx) (W : WX) (den : Dn (List Fv)) : TA := fun σ H Q => ∃ C ε, Ok G C H σ ε ∧ PostA G W C σ ε H Q (den ε)
def wS (G : Gx) (W : WX) (den : Dn Fl) : TS := fun E σ H => ∃ C ε, Ok G C H σ ε ∧ PostS G W C σ ε H E (den ε)
abbrev PEp (G : Gx) (X : Cx) (W : WX) (e : Expr) (den : Dn Fv) : Prop := PE X e (wE G W den)
abbrev PTp (G : Gx) (X : Cx) (W : WX) (e : Expr) (den : Dn Bool) : Prop := PT X e (wT G W den)
abbrev PWp (G : Gx) (X : Cx) (W : WX) (e : Expr) (den : Dn Bool) : Prop := PW X e (wT G W den)
abbrev PAp (G : Gx) (X : Cx) (W : WX) (es : List Expr) (den : Dn (List Fv)) : Prop := PA X es (wA G W den)
abbrev PSp (G : Gx) (X : Cx) (W : WX) (s : Stmt) (den : Dn Fl) : Prop := PS X s (wS G W den)
abbrev PBp (G : Gx) (X : Cx) (W : WX) (s : List Stmt) (den : Dn Fl) : Prop := PSs X s (wS G W den)

section
variable {G : Gx} {X : Cx} {W : WX} {C : Fr} {σ σ1 : L2.St} {ε ε1 : Ev} {H H1 : Hp}
theorem PE.imp {e : Expr} {t t' : TE} (h : PE X e t) (k : ∀ σ H Q, t' σ H Q → t σ H Q) : PE X e t' := ⟨fun pins s σ H Q I z => h.run pins s σ H Q I (k σ H Q z)⟩
theorem PT.imp {e : Expr} {t t' : TT} (h : PT X e t) (k : ∀ σ H Q, t' σ H Q → t σ H Q) : PT X e t' := ⟨fun pins s σ H Q I z => h.run pins s σ H Q I (k σ H Q z)⟩
theorem PW.imp {e : Expr} {t t' : TT} (h : PW X e t) (k : ∀ σ H Q, t' σ H Q → t σ H Q) : PW X e t' := ⟨fun wh pins s σ H Q I z => h.run wh pins s σ H Q I (k σ H Q z)⟩
theorem PA.imp {es : List Expr} {t t' : TA} (h : PA X es t) (k : ∀ σ H Q, t' σ H Q → t σ H Q) : PA X es t' := ⟨fun p pins s σ H Q I z => h.run p pins s σ H Q I (k σ H Q z)⟩
theorem PS.imp {e : Stmt} {t t' : TS} (h : PS X e t) (k : ∀ D σ H, t' D σ H → t D σ H) : PS X e t' := ⟨fun pins s σ H D I z => h.run pins s σ H D I (k D σ H z)⟩
theorem PSs.imp {e : List Stmt} {t t' : TS} (h : PSs X e t) (k : ∀ D σ H, t' D σ H → t D σ H) : PSs X e t' := ⟨fun pins s σ H D I z => h.run pins s σ H D I (k D σ H z)⟩

/-! the rest of a computation, from a later state -/
theorem PX.from (st : Stp σ ε σ ε1 H H1) {x : Xc} {ε' : Ev} (h : PX G W C σ ε H x ε') : PX G W C σ ε1 H1 x ε' := fun c d H' s k r => h c d H' (st.trans s) k r
theorem VR.back (st : Stp σ ε σ1 ε1 H H1) {H' : Hp} {σ' : L2.St} {ε' : Ev} {v : V} {fv : Fv} (h : VR G C H1 H' σ' ε' v fv) : VR G C H H' σ' ε' v fv := by
  cases fv with
  | fr d => obtain ⟨p, e, n, r⟩ := h; exact ⟨p, e, st.al p n, r⟩
  | sh d => exact h
  | «at» i => exact h
theorem PostE.from (st : Stp σ ε σ ε1 H H1) {Q : VK} {r : Re Fv} (h : PostE G W C σ ε H Q r) : PostE G W C σ ε1 H1 Q r := by
  cases r with
  | ok fv ε' => exact fun v H' s k r => h v H' (st.trans s) k (r.back st)
  | exc x ε' => exact PX.from st h
  | no => exact h
theorem PostT.from (st : Stp σ ε σ ε1 H H1) {Q : Bool → Hp → Prop} {r : Re Bool} (h : PostT G W C σ ε H Q r) : PostT G W C σ ε1 H1 Q r := by
  cases r with
  | ok b ε' => exact fun H' s k => h H' (st.trans s) k
  | exc x ε' => exact PX.from st h
  | no => exact h
theorem PostA.from (st : Stp σ ε σ ε1 H H1) {Q : List V → Hp → Prop} {r : Re (List Fv)} (h : PostA G W C σ ε H Q r) : PostA G W C σ ε1 H1 Q r := by
  cases r with
  | ok b ε' => exact fun vs H' s k r => h vs H' (st.trans s) k r
  | exc x ε' => exact PX.from st h
  | no => exact h
theorem PostS.from (st : Stp σ ε σ1 ε1 H H1) {E : Ends} {r : Re Fl} (h : PostS G W C σ ε H E r) : PostS G W C σ1 ε1 H1 E r := by
  cases r with
  | ok b ε' =>
    cases b with
    | nx => exact fun σ' H' s k => h σ' H' (st.trans s) k
    | bk => exact fun σ' H' s k => h σ' H' (st.trans s) k
    | ct => exact fun σ' H' s k => h σ' H' (st.trans s) k
    | rt fv => exact fun σ' v H' s k r => h σ' v H' (st.trans s) k r
  | exc x ε' => exact fun c d σ' H' s k r => h c d σ' H' (st.trans s) k r
  | no => exact h
theorem PostS.px {E : Ends} {x : Xc} {ε' : Ev} (h : PostS G W C σ ε H E (.exc x ε')) : PX G W C σ ε H x ε' := fun c d H' s k r => h c d σ H' s k r

/-! a first part, then the rest -/
theorem wE_bind {γ : Type} {P : Re γ → Prop} {da : Dn Fv} {k : Fv → Ev → Re γ} {Q' : VK} (ok : Ok G C H σ ε) (hP : P ((da ε).bind k)) (hx : ∀ x ε', P (.exc x ε') → PX G W C σ ε H x ε') (hn : ¬P .no)
    (hk : ∀ fv ε1 v H1, Stp σ ε σ ε1 H H1 → Ok G C H1 σ ε1 → VR G C H H1 σ ε1 v fv → P (k fv ε1) → Q' v H1) : wE G W da σ H Q' := by
  refine ⟨C, ε, ok, ?_⟩
  cases e : da ε with
  | ok fv ε1 => rw [e] at hP; exact fun v H1 st ok1 vr => hk fv ε1 v H1 st ok1 vr hP
  | exc x ε' => rw [e] at hP; exact hx x ε' hP
  | no => rw [e] at hP; exact hn hP
theorem wT_bind {γ : Type} {P : Re γ → Prop} {da : Dn Bool} {k : Bool → Ev → Re γ} {Q' : Bool → Hp → Prop} (ok : Ok G C H σ ε) (hP : P ((da ε).bind k)) (hx : ∀ x ε', P (.exc x ε') → PX G W C σ ε H x ε') (hn : ¬P .no)
    (hk : ∀ b ε1 H1, Stp σ ε σ ε1 H H1 → Ok G C H1 σ ε1 → P (k b ε1) → Q' b H1) : wT G W da σ H Q' := by
  refine ⟨C, ε, ok, ?_⟩
  cases e : da ε with
  | ok fv ε1 => rw [e] at hP; exact fun H1 st ok1 => hk fv ε1 H1 st ok1 hP
  | exc x ε' => rw [e] at hP; exact hx x ε' hP
  | no => rw [e] at hP; exact hn hP
theorem wA_bind {γ : Type} {P : Re γ → Prop} {da : Dn (List Fv)} {k : List Fv → Ev → Re γ} {Q' : List V → Hp → Prop} (ok : Ok G C H σ ε) (hP : P ((da ε).bind k)) (hx : ∀ x ε', P (.exc x ε') → PX G W C σ ε H x ε') (hn : ¬P .no)
    (hk : ∀ fs ε1 vs H1, Stp σ ε σ ε1 H H1 → Ok G C H1 σ ε1 → VRs G C H1 σ ε1 vs fs → P (k fs ε1) → Q' vs H1) : wA G W da σ H Q' := by
  refine ⟨C, ε, ok, ?_⟩
  cases e : da ε with
  | ok fv ε1 => rw [e] at hP; exact fun v H1 st ok1 vr => hk fv ε1 v H1 st ok1 vr hP
  | exc x ε' => rw [e] at hP; exact hx x ε' hP
  | no => rw [e] at hP; exact hn hP
/-- argument values last -/
theorem VRs.stp (h : VRs G C H σ ε vs fs) (st : Stp σ ε σ ε1 H H1) : VRs G C H1 σ ε1 vs fs := by
  induction h with
  | nil => exact .nil
  | sh r _ ih => exact .sh (r.mv st.mv) ih
  | «at» r _ ih => exact .at r ih
theorem VR.old {v : V} {fv : Fv} {Hs : Hp} (h : VR G C Hs H σ ε v fv) {vs : List V} {fs : List Fv} (hs : VRs G C H σ ε vs fs) : VRs G C H σ ε (v :: vs) (fv.old :: fs) := by
  cases fv with
  | sh d => exact .sh h hs
  | «at» i => exact .at h hs
  | fr d =>
    obtain ⟨p, rfl, _, np, _, t⟩ := h
    exact .sh (t.rp (fun b z => z.imp .inl id) np) hs
end
end PL

namespace PL
open PySem PySem.Spec PyProof.Rows L2 AB
open TL (tl)

/-! ### what a value can be read as -/
def Rt (G : Gx) (H : Hp) (F : Addr → Prop) (v : V) : D → Prop
  | .lst ds => ∃ a vs, v = .ref a ∧ H a = some (.lst vs) ∧ RpAll G H F vs ds
  | .dct es => ∃ a kvs, v = .ref a ∧ H a = some (.dK kvs) ∧ kvs.map (·.1) = es.map (·.1) ∧ RpAll G H F (kvs.map (·.2)) (es.map (·.2))
  | .dcT es => ∃ a kvs, v = .ref a ∧ H a = some (.dT kvs) ∧ kvs.map (·.1) = es.map (·.1) ∧ RpAll G H F (kvs.map (·.2)) (es.map (·.2))
  | .ins c es => ∃ a C dx fs, v = .ref a ∧ G.mg c = some (.ref C) ∧ H a = some (.ins C dx fs) ∧ fs.map (·.1) = es.map (·.1) ∧ RpAll G H F (fs.map (·.2)) (es.map (·.2))
  | d => Rp G H F v d
def Ev.at (ε : Ev) (i : Nat) : Option D :=
  match ε[i]? with
  | some (.sh d) => some d
  | some (.ow d) => some d
  | some (.io d) => some d
  | _ => none
def rd (ε : Ev) : Fv → Option D
  | .sh d => some d
  | .fr d => some d
  | .at i => ε.at i
def rds (ε : Ev) : List Fv → Option (List D)
  | [] => some []
  | f :: fs => match rd ε f, rds ε fs with
    | some d, some ds => some (d :: ds)
    | _, _ => none
inductive RtAll (G : Gx) (H : Hp) (F : Addr → Prop) : List V → List D → Prop
  | nil : RtAll G H F [] []
  | cons {v : V} {vs : List V} {d : D} {ds : List D} : Rt G H F v d → RtAll G H F vs ds → RtAll G H F (v :: vs) (d :: ds)
section
variable {G : Gx} {X : Cx} {W : WX} {C : Fr} {σ : L2.St} {ε : Ev} {H : Hp} {F : Addr → Prop}
theorem Rp.rt {v : V} {d : D} (h : Rp G H F v d) : Rt G H F v d := by
  cases h with
  | lst e n r => exact ⟨_, _, rfl, e, r⟩
  | flz s r => exact .flz s r
  | dct e n k r => exact ⟨_, _, rfl, e, k, r⟩
  | dcT e n k r => exact ⟨_, _, rfl, e, k, r⟩
  | ins g e e2 n n2 k r => exact ⟨_, _, _, _, rfl, g, e, k, r⟩
  | tup s r => exact .tup s r
  | non => exact .non
  | bl b => exact .bl b
  | int i => exact .int i
  | str h => exact .str h
  | ty n => exact .ty n
  | ref a => exact .ref a
theorem Top.rt {p : Addr} {d : D} (h : Top G H F p d) : Rt G H F (.ref p) d := by
  cases d with
  | lst ds => obtain ⟨vs, e1, r⟩ := h; exact ⟨p, vs, rfl, e1, r⟩
  | dct es => obtain ⟨vs, e1, k, r⟩ := h; exact ⟨p, vs, rfl, e1, k, r⟩
  | dcT es => obtain ⟨vs, e1, k, r⟩ := h; exact ⟨p, vs, rfl, e1, k, r⟩
  | ins c es => obtain ⟨C, dx, fs, g, e1, e2, n, k, r⟩ := h; exact ⟨p, C, dx, fs, rfl, g, e1, k, r⟩
  | _ => exact h.elim
theorem Ok.rtAt (k : Ok G C H σ ε) {i : Nat} {v : V} {d : D} (e : σ[i]? = some (some v)) (h : ε.at i = some d) : Rt G H (C.F σ ε) v d := by
  unfold Ev.at at h
  cases q : ε[i]? with
  | none => rw [q] at h; cases h
  | some s =>
    rw [q] at h
    cases s with
    | no => cases h
    | sh d' => cases h; obtain ⟨w, e1, r⟩ := k.sh i _ q; rw [e] at e1; cases e1; exact r.rt
    | ow d' => cases h; obtain ⟨w, e1, r⟩ := k.ow i _ q; rw [e] at e1; cases e1; exact r.rt
    | io d' => cases h; obtain ⟨w, e1, r⟩ := k.io i _ q; rw [e] at e1; cases e1; exact r.rt
theorem VRs.rt {vs : List V} {fs : List Fv} {ds : List D} (k : Ok G C H σ ε) (h : VRs G C H σ ε vs fs) (e : rds ε fs = some ds) : RtAll G H (C.F σ ε) vs ds := by
  induction h generalizing ds with
  | nil => cases e; exact .nil
  | @sh v d vs fs r _ ih =>
    unfold rds at e
    cases q : rds ε fs with
    | none => rw [q] at e; cases e
    | some es => rw [q] at e; cases e; exact .cons r.rt (ih q)
  | @«at» v i vs fs r _ ih =>
    unfold rds at e
    cases q : rds ε fs with
    | none => rw [q] at e; simp [rd] at e
    | some es =>
      rw [q] at e
      cases h : ε.at i with
      | none => simp only [rd, h] at e; cases e
      | some d => simp only [rd, h] at e; cases e; exact .cons (k.rtAt r h) (ih q)

/-! ### what an operation hands back -/
def PostV (G : Gx) (H : Hp) (F : Addr → Prop) (Q : VK) : Fv → Prop
  | .sh d => ∀ v H', (∀ b o, H b = some o → H' b = some o) → Rp G H' F v d → Q v H'
  | .fr d => ∀ p o, H p = none → Top G (upd H p o) (fun q => F q ∨ q = p) p d → Q (.ref p) (upd H p o)
  | .at _ => False
theorem PostV.sh0 {Q : VK} {d : D} {v : V} (h : PostV G H F Q (.sh d)) (r : Rp G H F v d) : Q v H := h v H (fun _ _ e => e) r
theorem mv_new {p : Addr} {o : HO} (h : H p = none) : Mv H (upd H p o) F (fun q => F q ∨ q = p) :=
  ⟨fun b u e _ _ => by rw [upd_ne (ne_of_none e h)]; exact e, fun b z => z.imp id (fun (e : b = p) => by rw [e]; exact h)⟩
theorem mv_old {p : Addr} {o : HO} (h : H p = none) : Mv H (upd H p o) F F :=
  ⟨fun b u e _ _ => by rw [upd_ne (ne_of_none e h)]; exact e, fun b z => .inl z⟩
theorem grow_new {p : Addr} {o : HO} (h : H p = none) : ∀ b u, H b = some u → upd H p o b = some u := fun b u e => by rw [upd_ne (ne_of_none e h)]; exact e
theorem PostV.lst {Q : VK} {ds : List D} (h : PostV G H F Q (.fr (.lst ds))) {vs : List V} (r : RpAll G H F vs ds) {p : Addr} (hp : H p = none) : Q (.ref p) (upd H p (.lst vs)) :=
  h p _ hp ⟨vs, upd_same, r.mv (mv_new hp)⟩
theorem PostV.dct {Q : VK} {es : List (Key × D)} (h : PostV G H F Q (.fr (.dct es))) {kvs : List (Key × V)} (k : kvs.map (·.1) = es.map (·.1)) (r : RpAll G H F (kvs.map (·.2)) (es.map (·.2))) {p : Addr} (hp : H p = none) : Q (.ref p) (upd H p (.dK kvs)) :=
  h p _ hp ⟨kvs, upd_same, k, r.mv (mv_new hp)⟩
theorem PostV.tup {Q : VK} {ds : List D} (h : PostV G H F Q (.sh (.tup ds))) {vs : List V} (r : RpAll G H F vs ds) {p : Addr} (hp : H p = none) (np : ¬F p) : Q (.ref p) (upd H p (.tup vs)) :=
  h _ _ (grow_new hp) (.tup (.inl ⟨.inl upd_same, np⟩) (r.mv (mv_old hp)))
/-- F holds old objects alone -/
def FOld (H : Hp) (F : Addr → Prop) : Prop := ∀ p, F p → H p ≠ none
theorem Ok.fold (k : Ok G C H σ ε) : FOld H (C.F σ ε) := fun p z e => (k.fresh e).2 z
theorem FOld.n (f : FOld H F) {p : Addr} (h : H p = none) : ¬F p := fun z => f p z h
theorem PostE.v {Q : VK} {fv : Fv} (k : Ok G C H σ ε) (h : PostE G W C σ ε H Q (.ok fv ε)) (hf : ∀ i, fv ≠ .at i) : PostV G H (C.F σ ε) Q fv := by
  cases fv with
  | «at» i => exact absurd rfl (hf i)
  | sh d => exact fun v H' g r => h v H' (Stp.grow g) (k.grow g) r
  | fr d =>
    intro p o hp t
    refine h _ _ (Stp.grow (grow_new hp)) (k.grow (grow_new hp)) ⟨p, rfl, hp, (k.fresh hp).2, k.add hp, t.mv (Mv.less ?_) rfl⟩
    intro b z
    rcases z with (z | z) | z
    · exact .inl (.inl z)
    · exact .inr z
    · exact .inl (.inr z)

/-! ### operations of two values -/
def OpS (G : Gx) (r : R2) (f : D → D → Option Fv) : Prop := ∀ (H : Hp) (F : Addr → Prop) (x y : V) (d e : D) (fv : Fv) (Q : VK),
  FOld H F → Rt G H F x d → Rt G H F y e → f d e = some fv → PostV G H F Q fv → r x y H Q
def nat_ (f : Option Fv) : Option Fv := match f with
  | some (.at _) => none
  | x => x
def o2 (ε : Ev) (f : D → D → Option Fv) (x y : Fv) : Re Fv :=
  match rd ε x, rd ε y with
  | some d, some e => match f d e with
    | some (.sh d) => .ok (.sh d) ε
    | some (.fr d) => .ok (.fr d) ε
    | _ => .no
  | _, _ => .no
def d2 (f : D → D → Option Fv) (da db : Dn Fv) : Dn Fv := fun ε => (da ε).bind fun x ε1 => (db ε1).bind fun y ε2 => o2 ε2 f x.old y.old
theorem o2_sound {r : R2} {f : D → D → Option Fv} {x y : V} {fx fy : Fv} {Q : VK} (hs : OpS G r f) (k : Ok G C H σ ε) (vs : VRs G C H σ ε [x, y] [fx, fy]) (p : PostE G W C σ ε H Q (o2 ε f fx fy)) : r x y H Q := by
  unfold o2 at p
  cases e1 : rd ε fx with
  | none => rw [e1] at p; exact p.elim
  | some d =>
    cases e2 : rd ε fy with
    | none => rw [e1, e2] at p; exact p.elim
    | some e =>
      rw [e1, e2] at p
      dsimp only at p
      have rt := vs.rt k (ds := [d, e]) (by simp [rds, e1, e2])
      cases rt with
      | cons r1 rt =>
        cases rt with
        | cons r2 rt =>
          cases e3 : f d e with
          | none => rw [e3] at p; exact p.elim
          | some fv =>
            rw [e3] at p
            cases fv with
            | sh d' => exact hs H _ x y d e _ Q k.fold r1 r2 e3 (PostE.v k p (fun i z => by cases z))
            | fr d' => exact hs H _ x y d e _ Q k.fold r1 r2 e3 (PostE.v k p (fun i z => by cases z))
            | «at» i => exact p.elim
theorem e2_read {r : R2} {f : D → D → Option Fv} {da db : Dn Fv} (hs : OpS G r f) {σ : L2.St} {H : Hp} {Q : VK} (h : wE G W (d2 f da db) σ H Q) : tOp r (wE G W da) (wE G W db) σ H Q := by
  obtain ⟨C, ε, ok, post⟩ := h
  refine wE_bind (P := PostE G W C σ ε H Q) ok post (fun _ _ h => h) id fun fx ε1 x H1 st1 ok1 vr1 p1 => ?_
  refine wE_bind (P := PostE G W C σ ε1 H1 Q) ok1 (p1.from st1) (fun _ _ h => h) id fun fy ε2 y H2 st2 ok2 vr2 p2 => ?_
  have v1 := (vr1.old .nil).stp st2
  have vs : VRs G C H2 σ ε2 [x, y] [fx.old, fy.old] := by
    have v2 := vr2.old .nil
    generalize fx.old = a at v1
    cases v1 with
    | sh r _ => exact .sh r v2
    | «at» r _ => exact .at r v2
  exact o2_sound hs ok2 vs (p2.from st2)
theorem e2 {e : Expr} {r : R2} {f : D → D → Option Fv} {da db : Dn Fv} (h : PE X e (tOp r (wE G W da) (wE G W db))) (hs : OpS G r f) : PEp G X W e (d2 f da db) :=
  PE.imp h fun _ _ _ h => e2_read hs h
/-- two ways, chosen by the kind of the data -/
def OpAt (G : Gx) (r : R2) (f : D → D → Option Fv) (d e : D) : Prop := ∀ (H : Hp) (F : Addr → Prop) (x y : V) (fv : Fv) (Q : VK), FOld H F → Rt G H F x d → Rt G H F y e → f d e = some fv → PostV G H F Q fv → r x y H Q
theorem e2or {e : Expr} {r r' : R2} {f : D → D → Option Fv} {da db : Dn Fv} (h : PE X e (tOp r (wE G W da) (wE G W db))) (h' : PE X e (tOp r' (wE G W da) (wE G W db))) (hs : ∀ d e, OpAt G r f d e ∨ OpAt G r' f d e) : PEp G X W e (d2 f da db) := by
  refine ⟨fun pins s σ H Q I hw => ?_⟩
  obtain ⟨C, ε, ok, post⟩ := hw
  -- the operation at the very data
  have only : ∀ (d0 e0 : D), (∀ ε2 fx fy, rd ε2 fx = some d0 → rd ε2 fy = some e0 → o2 ε2 f fx fy = o2 ε2 f fx fy) → True := fun _ _ _ => trivial
  cases e1 : da ε with
  | no => simp only [d2, e1, Re.bind] at post; exact post.elim
  | exc x ε' => exact h.run pins s σ H Q I ⟨C, ε, ok, by rw [e1]; simp only [d2, e1, Re.bind] at post; exact post⟩
  | ok fx ε1 =>
    cases e2 : db ε1 with
    | no => simp only [d2, e1, e2, Re.bind] at post; exact post.elim
    | exc x ε' =>
      simp only [d2, e1, e2, Re.bind] at post
      exact h.run pins s σ H Q I ⟨C, ε, ok, by rw [e1]; exact fun x H1 st1 ok1 vr1 => ⟨C, ε1, ok1, by rw [e2]; exact PX.from st1 post⟩⟩
    | ok fy ε2 =>
      simp only [d2, e1, e2, Re.bind] at post
      have go : ∀ {r : R2}, (∀ {H2 x y}, Ok G C H2 σ ε2 → VRs G C H2 σ ε2 [x, y] [fx.old, fy.old] → PostE G W C σ ε2 H2 Q (o2 ε2 f fx.old fy.old) → r x y H2 Q) → tOp r (wE G W da) (wE G W db) σ H Q := fun {r} hr => by
        refine ⟨C, ε, ok, ?_⟩
        rw [e1]
        intro x H1 st1 ok1 vr1
        refine ⟨C, ε1, ok1, ?_⟩
        rw [e2]
        intro y H2 st2 ok2 vr2
        have v1 := (vr1.old .nil).stp st2
        have vs : VRs G C H2 σ ε2 [x, y] [fx.old, fy.old] := by
          have v2 := vr2.old .nil
          generalize fx.old = a at v1
          cases v1 with
          | sh r _ => exact .sh r v2
          | «at» r _ => exact .at r v2
        exact hr ok2 vs (PostE.from (st1.trans st2) post)
      cases q1 : rd ε2 fx.old with
      | none => simp only [o2, q1] at post; exact post.elim
      | some d =>
        cases q2 : rd ε2 fy.old with
        | none => simp only [o2, q1, q2] at post; exact post.elim
        | some e0 =>
          have fin : ∀ {r : R2}, OpAt G r f d e0 → ∀ {H2 x y}, Ok G C H2 σ ε2 → VRs G C H2 σ ε2 [x, y] [fx.old, fy.old] → PostE G W C σ ε2 H2 Q (o2 ε2 f fx.old fy.old) → r x y H2 Q := fun {r} hs {H2 x y} k vs p => by
            unfold o2 at p
            rw [q1, q2] at p
            dsimp only at p
            have rt := vs.rt k (ds := [d, e0]) (by simp [rds, q1, q2])
            cases rt with
            | cons r1 rt =>
              cases rt with
              | cons r2 rt =>
                cases e3 : f d e0 with
                | none => rw [e3] at p; exact p.elim
                | some fv =>
                  rw [e3] at p
                  cases fv with
                  | sh d' => exact hs H2 _ x y _ Q k.fold r1 r2 e3 (PostE.v k p (fun i z => by cases z))
                  | fr d' => exact hs H2 _ x y _ Q k.fold r1 r2 e3 (PostE.v k p (fun i z => by cases z))
                  | «at» i => exact p.elim
          rcases hs d e0 with hs | hs
          · exact h.run pins s σ H Q I (go (fin hs))
          · exact h'.run pins s σ H Q I (go (fin hs))

/-! ### operations of one value -/
def Op1 (G : Gx) (r : V → Hp → VK → Prop) (f : D → Option Fv) : Prop := ∀ (H : Hp) (F : Addr → Prop) (x : V) (d : D) (fv : Fv) (Q : VK),
  FOld H F → Rt G H F x d → f d = some fv → PostV G H F Q fv → r x H Q
def o1 (ε : Ev) (f : D → Option Fv) (x : Fv) : Re Fv :=
  match rd ε x with
  | some d => match f d with
    | some (.sh d) => .ok (.sh d) ε
    | some (.fr d) => .ok (.fr d) ε
    | _ => .no
  | _ => .no
def d1 (f : D → Option Fv) (da : Dn Fv) : Dn Fv := fun ε => (da ε).bind fun x ε1 => o1 ε1 f x.old
theorem o1_sound {r : V → Hp → VK → Prop} {f : D → Option Fv} {x : V} {fx : Fv} {Q : VK} (hs : Op1 G r f) (k : Ok G C H σ ε) (vs : VRs G C H σ ε [x] [fx]) (p : PostE G W C σ ε H Q (o1 ε f fx)) : r x H Q := by
  unfold o1 at p
  cases e1 : rd ε fx with
  | none => rw [e1] at p; exact p.elim
  | some d =>
    rw [e1] at p
    dsimp only at p
    have rt := vs.rt k (ds := [d]) (by simp [rds, e1])
    cases rt with
    | cons r1 rt =>
      cases e3 : f d with
      | none => rw [e3] at p; exact p.elim
      | some fv =>
        rw [e3] at p
        cases fv with
        | sh d' => exact hs H _ x d _ Q k.fold r1 e3 (PostE.v k p (fun i z => by cases z))
        | fr d' => exact hs H _ x d _ Q k.fold r1 e3 (PostE.v k p (fun i z => by cases z))
        | «at» i => exact p.elim
theorem e1 {e : Expr} {r : V → Hp → VK → Prop} {f : D → Option Fv} {da : Dn Fv} (h : PE X e (tUn r (wE G W da))) (hs : Op1 G r f) : PEp G X W e (d1 f da) := by
  refine PE.imp h ?_
  rintro σ H Q ⟨C, ε, ok, post⟩
  refine wE_bind (P := PostE G W C σ ε H Q) ok post (fun _ _ h => h) id fun fx ε1 x H1 st1 ok1 vr1 p1 => ?_
  exact o1_sound hs ok1 (vr1.old .nil) (p1.from st1)

/-! ### operations of an argument list -/
def OpN (G : Gx) (r : List V → Hp → VK → Prop) (f : List D → Option Fv) : Prop := ∀ (H : Hp) (F : Addr → Prop) (xs : List V) (ds : List D) (fv : Fv) (Q : VK),
  FOld H F → RtAll G H F xs ds → f ds = some fv → PostV G H F Q fv → r xs H Q
def oN (ε : Ev) (f : List D → Option Fv) (fs : List Fv) : Re Fv :=
  match rds ε fs with
  | some ds => match f ds with
    | some (.sh d) => .ok (.sh d) ε
    | some (.fr d) => .ok (.fr d) ε
    | _ => .no
  | _ => .no
def dN (f : List D → Option Fv) (da : Dn (List Fv)) : Dn Fv := fun ε => (da ε).bind fun fs ε1 => oN ε1 f fs
theorem oN_sound {r : List V → Hp → VK → Prop} {f : List D → Option Fv} {xs : List V} {fs : List Fv} {Q : VK} (hs : OpN G r f) (k : Ok G C H σ ε) (vs : VRs G C H σ ε xs fs) (p : PostE G W C σ ε H Q (oN ε f fs)) : r xs H Q := by
  unfold oN at p
  cases e1 : rds ε fs with
  | none => rw [e1] at p; exact p.elim
  | some ds =>
    rw [e1] at p
    dsimp only at p
    have rt := vs.rt k e1
    cases e3 : f ds with
    | none => rw [e3] at p; exact p.elim
    | some fv =>
      rw [e3] at p
      cases fv with
      | sh d' => exact hs H _ xs ds _ Q k.fold rt e3 (PostE.v k p (fun i z => by cases z))
      | fr d' => exact hs H _ xs ds _ Q k.fold rt e3 (PostE.v k p (fun i z => by cases z))
      | «at» i => exact p.elim
theorem eN {e : Expr} {r : List V → Hp → VK → Prop} {f : List D → Option Fv} {da : Dn (List Fv)} (h : PE X e (tCB r (wA G W da))) (hs : OpN G r f) : PEp G X W e (dN f da) := by
  refine PE.imp h ?_
  rintro σ H Q ⟨C, ε, ok, post⟩
  refine wA_bind (P := PostE G W C σ ε H Q) ok post (fun _ _ h => h) id fun fs ε1 xs H1 st1 ok1 vr1 p1 => ?_
  exact oN_sound hs ok1 vr1 (p1.from st1)

/-! ### names, written values, argument lists -/
def dV (i : Nat) : Dn Fv := fun ε => match ε.at i with
  | some _ => .ok (.at i) ε
  | none => .no
theorem eV {i : Nat} {x : Str} {pos : Pos} (hN : X.N[i]? = some x) (hv : Vis X.env.scope x) (hd : (x == ("__debug__" : Str)) = false := by decide) (hcd : (x == ("__classdict__" : Str)) = false := by decide) : PEp G X W (.Name x pos) (dV i) := by
  refine PE.imp (pe_var hN hv hd hcd) ?_
  rintro σ H Q ⟨C, ε, ok, post⟩
  unfold dV at post
  cases e : ε.at i with
  | none => rw [e] at post; exact post.elim
  | some d =>
    rw [e] at post
    have : ∃ v, σ[i]? = some (some v) := by
      unfold Ev.at at e
      cases q : ε[i]? with
      | none => rw [q] at e; cases e
      | some s =>
        cases s with
        | no => rw [q] at e; cases e
        | sh d => obtain ⟨v, e1, _⟩ := ok.sh i d q; exact ⟨v, e1⟩
        | ow d => obtain ⟨v, e1, _⟩ := ok.ow i d q; exact ⟨_, e1⟩
        | io d => obtain ⟨v, e1, _⟩ := ok.io i d q; exact ⟨_, e1⟩
    obtain ⟨v, ev⟩ := this
    exact ⟨v, ev, post v H Stp.refl ok ev⟩
def dC (d : D) : Dn Fv := fun ε => .ok (.sh d) ε
theorem eC {e : Expr} {v : V} {d : D} (h : PE X e (tC v)) (r : ∀ H F, Rp G H F v d) : PEp G X W e (dC d) := by
  refine PE.imp h ?_
  rintro σ H Q ⟨C, ε, ok, post⟩
  exact post v H Stp.refl ok (r H _)
theorem eInt {i j pos} : PEp G X W (.Constant (.int i) j pos) (dC (.int i)) := eC pe_int fun _ _ => .int i
theorem eBl {b j pos} : PEp G X W (.Constant (.bool b) j pos) (dC (.bl b)) := eC pe_bl fun _ _ => .bl b
theorem eNon {j pos} : PEp G X W (.Constant .none j pos) (dC .non) := eC pe_non fun _ _ => .non
theorem sl_tl (z : Str) : sl (tl z) = z := sl_toList z
theorem Rp.str' {z : Str} (h : sOk (tl z) = true) : Rp G H F (.str z) (.str (tl z)) := by
  have := Rp.str (G := G) (H := H) (F := F) h
  rwa [sl_tl] at this
theorem eStr {x : Str} {j pos} (h : sOk (tl x) = true := by decide +kernel) : PEp G X W (.Constant (.str x) j pos) (dC (.str (tl x))) := eC pe_str fun _ _ => Rp.str' h
def aNil : Dn (List Fv) := fun ε => .ok [] ε
def aCons (da : Dn Fv) (db : Dn (List Fv)) : Dn (List Fv) := fun ε => (da ε).bind fun x ε1 => (db ε1).bind fun xs ε2 => .ok (x.old :: xs) ε2
theorem pNil : PAp G X W [] aNil := PA.imp pa_nil fun σ H Q ⟨C, ε, ok, post⟩ => post [] H Stp.refl ok .nil
theorem pCons {a : Expr} {as : List Expr} {da : Dn Fv} {db : Dn (List Fv)} (ha : PEp G X W a da) (hb : PAp G X W as db) (hs : starEach (a :: as) X.env = (false, eval a X.env) :: starEach as X.env := by rfl) : PAp G X W (a :: as) (aCons da db) := by
  refine PA.imp (pa_cons ha hb hs) ?_
  rintro σ H Q ⟨C, ε, ok, post⟩
  refine wE_bind (P := PostA G W C σ ε H Q) ok post (fun _ _ h => h) id fun fx ε1 x H1 st1 ok1 vr1 p1 => ?_
  refine wA_bind (P := PostA G W C σ ε1 H1 Q) ok1 (p1.from st1) (fun _ _ h => h) id fun fs ε2 xs H2 st2 ok2 vr2 p2 => ?_
  refine p2 _ H2 st2 ok2 ?_
  have v1 := (vr1.old .nil).stp st2
  generalize fx.old = a at v1
  cases v1 with
  | sh r _ => exact .sh r vr2
  | «at» r _ => exact .at r vr2
end
end PL

namespace PL
open PySem PySem.Spec PyProof.Rows L2 AB
open TL (tl)

/-! ### slots are set -/
section
variable {G : Gx} {X : Cx} {W : WX} {C : Fr} {σ : L2.St} {ε : Ev} {H : Hp} {F : Addr → Prop}
theorem own_set {i : Nat} {v : Option V} {s : Sl} {p : Addr} (h : own (σ.set i v) (ε.set i s) p) : (s.mut = true ∧ v = some (.ref p)) ∨ ∃ (j : Nat) (t : Sl), j ≠ i ∧ ε[j]? = some t ∧ t.mut = true ∧ σ[j]? = some (some (.ref p)) := by
  obtain ⟨j, t, e1, m, e2⟩ := h
  by_cases c : i = j
  · subst c
    rw [List.getElem?_set] at e1 e2
    simp only [if_true] at e1 e2
    split at e1
    · cases e1
      split at e2
      · exact .inl ⟨m, by cases e2; rfl⟩
      · cases e2
    · cases e1
  · rw [List.getElem?_set_ne c] at e1 e2
    exact .inr ⟨j, t, fun z => c z.symm, e1, m, e2⟩
theorem own_set' {i : Nat} {v : Option V} {s : Sl} {p : Addr} (hs : s.mut = false) (h : own (σ.set i v) (ε.set i s) p) : own σ ε p := by
  rcases own_set h with ⟨m, _⟩ | ⟨j, t, _, a, b, c⟩
  · rw [hs] at m; cases m
  · exact ⟨j, t, a, b, c⟩
theorem get_set {α : Type} {l : List α} {i j : Nat} {a b : α} (h : (l.set i a)[j]? = some b) : (i = j ∧ i < l.length ∧ b = a) ∨ (i ≠ j ∧ l[j]? = some b) := by
  by_cases c : i = j
  · subst c
    rw [List.getElem?_set] at h
    simp only [if_true] at h
    split at h
    · cases h; exact .inl ⟨rfl, by assumption, rfl⟩
    · cases h
  · rw [List.getElem?_set_ne c] at h
    exact .inr ⟨c, h⟩
/-- a slot gets a value that is not owned -/
theorem Ok.put (k : Ok G C H σ ε) {i : Nat} {v : Option V} {s : Sl} (hs : s.mut = false) (hio : ∀ d, ε[i]? ≠ some (.io d)) (hv : ∀ d, s = .sh d → ∃ u, v = some u ∧ Rp G H (C.F σ ε) u d) :
    Ok G C H (σ.set i v) (ε.set i s) := by
  have m : Mv H H (C.F σ ε) (C.F (σ.set i v) (ε.set i s)) := Mv.less fun b z => z.imp id (own_set' hs)
  refine ⟨by simp [k.len], k.kept, ?_, ?_, fun p z => k.nf p (own_set' hs z), k.f0, ?_, ?_, ?_, ?_, ?_, k.tb, k.h0⟩
  · intro a b s1 t1 p e1 m1 e2 m2 q1 q2
    rcases get_set e1 with ⟨rfl, _, rfl⟩ | ⟨n1, e1⟩
    · rw [hs] at m1; cases m1
    rcases get_set e2 with ⟨rfl, _, rfl⟩ | ⟨n2, e2⟩
    · rw [hs] at m2; cases m2
    rw [List.getElem?_set_ne n1] at q1
    rw [List.getElem?_set_ne n2] at q2
    exact k.inj a b s1 t1 p e1 m1 e2 m2 q1 q2
  · intro a d p e q
    rcases get_set e with ⟨rfl, _, rfl⟩ | ⟨n1, e1⟩
    · cases hs
    rw [List.getElem?_set_ne n1] at q
    exact k.new a d p e1 q
  · intro a d e
    rcases get_set e with ⟨rfl, hl, rfl⟩ | ⟨n1, e1⟩
    · obtain ⟨u, rfl, r⟩ := hv d rfl
      exact ⟨u, by rw [List.getElem?_set_self (by rw [k.len]; exact hl)], r.mv m⟩
    · rw [List.getElem?_set_ne n1]
      obtain ⟨u, e2, r⟩ := k.sh a d e1
      exact ⟨u, e2, r.mv m⟩
  · intro a d e
    rcases get_set e with ⟨rfl, hl, rfl⟩ | ⟨n1, e1⟩
    · cases hs
    · rw [List.getElem?_set_ne n1]
      obtain ⟨u, e2, r⟩ := k.ow a d e1
      exact ⟨u, e2, r.mv m rfl⟩
  · intro a d e
    rcases get_set e with ⟨rfl, hl, rfl⟩ | ⟨n1, e1⟩
    · cases hs
    · rw [List.getElem?_set_ne n1]
      obtain ⟨u, e2, r⟩ := k.io a d e1
      exact ⟨u, e2, r.mv m rfl⟩
  · intro a p h
    obtain ⟨e1, d, e2⟩ := k.ioA a p h
    have n : i ≠ a := fun z => by subst z; exact hio d e2
    rw [List.getElem?_set_ne n, List.getElem?_set_ne n]
    exact ⟨e1, d, e2⟩
  · intro a d e
    rcases get_set e with ⟨rfl, hl, rfl⟩ | ⟨n1, e1⟩
    · cases hs
    · exact k.ioB a d e1
/-- a slot gets a fresh object -/
theorem Ok.putOw {i : Nat} {p : Addr} {d : D} (k : Ok G (C.add p) H σ ε) (hn : C.H0 p = none) (np : ¬C.F σ ε p) (t : Top G H ((C.add p).F σ ε) p d) (hi : i < ε.length) (hio : ∀ d, ε[i]? ≠ some (.io d)) :
    Ok G C H (σ.set i (some (.ref p))) (ε.set i (.ow d)) ∧ ∀ b, own (σ.set i (some (.ref p))) (ε.set i (.ow d)) b → own σ ε b ∨ b = p := by
  have o : ∀ b, own (σ.set i (some (.ref p))) (ε.set i (.ow d)) b → own σ ε b ∨ b = p := fun b z => by
    rcases own_set z with ⟨_, e⟩ | ⟨j, t, _, a, b, c⟩
    · cases e; exact .inr rfl
    · exact .inl ⟨j, t, a, b, c⟩
  have m : Mv H H ((C.add p).F σ ε) (C.F (σ.set i (some (.ref p))) (ε.set i (.ow d))) := Mv.less fun b z => z.elim (fun z => .inl (.inl z)) fun z => (o b z).elim .inr fun e => .inl (.inr e)
  refine ⟨⟨by simp [k.len], k.kept, ?_, ?_, ?_, fun q z => k.f0 q (.inl z), ?_, ?_, ?_, ?_, ?_, k.tb, k.h0⟩, o⟩
  · intro a b s1 t1 q e1 m1 e2 m2 q1 q2
    rcases get_set e1 with ⟨rfl, _, rfl⟩ | ⟨n1, e1⟩
    · rcases get_set e2 with ⟨rfl, _, rfl⟩ | ⟨n2, e2⟩
      · rfl
      · rw [List.getElem?_set_self (by rw [k.len]; exact hi)] at q1
        rw [List.getElem?_set_ne n2] at q2
        cases q1
        exact absurd (.inr ⟨b, t1, e2, m2, q2⟩) np
    · rw [List.getElem?_set_ne n1] at q1
      rcases get_set e2 with ⟨rfl, _, rfl⟩ | ⟨n2, e2⟩
      · rw [List.getElem?_set_self (by rw [k.len]; exact hi)] at q2
        cases q2
        exact absurd (.inr ⟨a, s1, e1, m1, q1⟩) np
      · rw [List.getElem?_set_ne n2] at q2
        exact k.inj a b s1 t1 q e1 m1 e2 m2 q1 q2
  · intro a d' q e q1
    rcases get_set e with ⟨rfl, hl, e'⟩ | ⟨n1, e1⟩
    · rw [List.getElem?_set_self (by rw [k.len]; exact hi)] at q1
      cases q1; exact hn
    · rw [List.getElem?_set_ne n1] at q1
      exact k.new a d' q e1 q1
  · intro q z w
    rcases o q z with z | rfl
    · exact k.nf q z (.inl w)
    · exact np (.inl w)
  · intro a d' e
    rcases get_set e with ⟨rfl, hl, e'⟩ | ⟨n1, e1⟩
    · cases e'
    · rw [List.getElem?_set_ne n1]
      obtain ⟨u, e2, r⟩ := k.sh a d' e1
      exact ⟨u, e2, r.mv m⟩
  · intro a d' e
    rcases get_set e with ⟨rfl, hl, e'⟩ | ⟨n1, e1⟩
    · cases e'
      exact ⟨p, by rw [List.getElem?_set_self (by rw [k.len]; exact hi)], t.mv m rfl⟩
    · rw [List.getElem?_set_ne n1]
      obtain ⟨u, e2, r⟩ := k.ow a d' e1
      exact ⟨u, e2, r.mv m rfl⟩
  · intro a d' e
    rcases get_set e with ⟨rfl, hl, e'⟩ | ⟨n1, e1⟩
    · cases e'
    · rw [List.getElem?_set_ne n1]
      obtain ⟨u, e2, r⟩ := k.io a d' e1
      exact ⟨u, e2, r.mv m rfl⟩
  · intro a q h
    obtain ⟨e1, d', e2⟩ := k.ioA a q h
    have n : i ≠ a := fun z => by subst z; exact hio d' e2
    rw [List.getElem?_set_ne n, List.getElem?_set_ne n]
    exact ⟨e1, d', e2⟩
  · intro a d' e
    rcases get_set e with ⟨rfl, hl, e'⟩ | ⟨n1, e1⟩
    · cases e'
    · exact k.ioB a d' e1
theorem set_self {α : Type} {l : List α} {i : Nat} {a : α} (h : l[i]? = some a) : l.set i a = l := by
  apply List.ext_getElem?
  intro j
  by_cases c : i = j
  · subst c
    rw [List.getElem?_set_self (List.getElem?_eq_some_iff.mp h).1, h]
  · rw [List.getElem?_set_ne c]
/-- an owned object is given away -/
theorem Ok.share (k : Ok G C H σ ε) {j : Nat} {d : D} {v : V} (e : ε[j]? = some (.ow d)) (ev : σ[j]? = some (some v)) :
    Ok G C H σ (ε.set j (.sh d)) ∧ Rp G H (C.F σ (ε.set j (.sh d))) v d ∧ ∀ b, own σ (ε.set j (.sh d)) b → own σ ε b := by
  obtain ⟨p, e1, t⟩ := k.ow j d e
  rw [ev] at e1; cases e1
  have hl : j < ε.length := (List.getElem?_eq_some_iff.mp e).1
  have o : ∀ b, own σ (ε.set j (.sh d)) b → own σ ε b := fun b z => own_set' (i := j) (v := some (.ref p)) (s := .sh d) rfl (by rw [set_self ev]; exact z)
  have np : ¬C.F σ (ε.set j (.sh d)) p := by
    rintro (z | ⟨a, s, e2, m2, e3⟩)
    · exact k.nf p ⟨j, _, e, rfl, ev⟩ z
    · rcases get_set e2 with ⟨rfl, _, rfl⟩ | ⟨n, e2⟩
      · cases m2
      · exact n (k.inj j a _ _ p e rfl e2 m2 ev e3)
  have r : Rp G H (C.F σ (ε.set j (.sh d))) (.ref p) d := t.rp (fun b z => z.imp id (o b)) np
  have m : Mv H H (C.F σ ε) (C.F σ (ε.set j (.sh d))) := Mv.less fun b z => z.imp id (o b)
  refine ⟨⟨by simp [k.len], k.kept, ?_, ?_, fun q z => k.nf q (o q z), k.f0, ?_, ?_, ?_, ?_, ?_, k.tb, k.h0⟩, r, o⟩
  · intro a b s1 t1 q e1 m1 e2 m2 q1 q2
    rcases get_set e1 with ⟨rfl, _, rfl⟩ | ⟨n1, e1⟩
    · cases m1
    rcases get_set e2 with ⟨rfl, _, rfl⟩ | ⟨n2, e2⟩
    · cases m2
    exact k.inj a b s1 t1 q e1 m1 e2 m2 q1 q2
  · intro a d' q e1 q1
    rcases get_set e1 with ⟨rfl, _, e'⟩ | ⟨n1, e1⟩
    · cases e'
    exact k.new a d' q e1 q1
  · intro a d' e1
    rcases get_set e1 with ⟨rfl, _, e'⟩ | ⟨n1, e1⟩
    · cases e'; exact ⟨_, ev, r⟩
    · obtain ⟨u, e2, r⟩ := k.sh a d' e1
      exact ⟨u, e2, r.mv m⟩
  · intro a d' e1
    rcases get_set e1 with ⟨rfl, _, e'⟩ | ⟨n1, e1⟩
    · cases e'
    · obtain ⟨u, e2, r⟩ := k.ow a d' e1
      exact ⟨u, e2, r.mv m rfl⟩
  · intro a d' e1
    rcases get_set e1 with ⟨rfl, _, e'⟩ | ⟨n1, e1⟩
    · cases e'
    · obtain ⟨u, e2, r⟩ := k.io a d' e1
      exact ⟨u, e2, r.mv m rfl⟩
  · intro a q h
    obtain ⟨e1, d', e2⟩ := k.ioA a q h
    have n : j ≠ a := fun z => by subst z; rw [e] at e2; cases e2
    rw [List.getElem?_set_ne n]
    exact ⟨e1, d', e2⟩
  · intro a d' e1
    rcases get_set e1 with ⟨rfl, _, e'⟩ | ⟨n1, e1⟩
    · cases e'
    · exact k.ioB a d' e1

/-- x = v, slot i -/
def Sl.isIo : Sl → Bool
  | .io _ => true
  | _ => false
def setV (ε : Ev) (i : Nat) (fv : Fv) : Option Ev :=
  match fv with
  | .sh d => some (ε.set i (.sh d))
  | .fr d => some (ε.set i (.ow d))
  | .at j => match ε[j]? with
    | some (.sh d) => some (ε.set i (.sh d))
    | some (.ow d) => some ((ε.set j (.sh d)).set i (.sh d))
    | _ => none
def setS (ε : Ev) (i : Nat) (fv : Fv) : Option Ev :=
  match ε[i]? with
  | none => none
  | some (.io _) => none
  | some _ => setV ε i fv
theorem setS_ok {i : Nat} {fv : Fv} {ε' : Ev} (h : setS ε i fv = some ε') : i < ε.length ∧ ∀ d, ε[i]? ≠ some (.io d) := by
  unfold setS at h
  cases q : ε[i]? with
  | none => rw [q] at h; cases h
  | some s =>
    refine ⟨(List.getElem?_eq_some_iff.mp q).1, fun d z => ?_⟩
    cases z
    rw [q] at h; cases h
theorem setS_eq {i : Nat} {fv : Fv} {ε' : Ev} (h : setS ε i fv = some ε') : setV ε i fv = some ε' := by
  unfold setS at h
  cases q : ε[i]? with
  | none => rw [q] at h; cases h
  | some s =>
    rw [q] at h
    cases s with
    | io d => cases h
    | no => exact h
    | sh d => exact h
    | ow d => exact h
theorem setS_sound {Hs : Hp} {i : Nat} {fv : Fv} {v : V} {ε' : Ev} (k : Ok G C H σ ε) (vr : VR G C Hs H σ ε v fv) (h : setS ε i fv = some ε') (hh : ∀ p, Hs p = none → C.H0 p = none) :
    Ok G C H (σ.set i (some v)) ε' ∧ ∀ b, own (σ.set i (some v)) ε' b → own σ ε b ∨ Hs b = none := by
  obtain ⟨hi, hio⟩ := setS_ok h
  have h := setS_eq h
  cases fv with
  | sh d =>
    cases h
    exact ⟨k.put rfl hio (fun d' e => by cases e; exact ⟨v, rfl, vr⟩), fun b z => .inl (own_set' rfl z)⟩
  | fr d =>
    cases h
    obtain ⟨p, rfl, n, np, kp, t⟩ := vr
    obtain ⟨k2, o⟩ := Ok.putOw kp (hh p n) np t hi hio
    exact ⟨k2, fun b z => (o b z).imp id (fun (e : b = p) => by rw [e]; exact n)⟩
  | «at» j =>
    have ev : σ[j]? = some (some v) := vr
    unfold setV at h
    dsimp only at h
    cases q : ε[j]? with
    | none => rw [q] at h; cases h
    | some s =>
      rw [q] at h
      cases s with
      | no => cases h
      | io d => cases h
      | sh d =>
        cases h
        obtain ⟨u, e1, r⟩ := k.sh j d q
        rw [ev] at e1; cases e1
        exact ⟨k.put rfl hio (fun d' e => by cases e; exact ⟨v, rfl, r⟩), fun b z => .inl (own_set' rfl z)⟩
      | ow d =>
        cases h
        obtain ⟨k1, r, o⟩ := k.share q ev
        refine ⟨k1.put rfl (fun d' e => ?_) (fun d' e => by cases e; exact ⟨v, rfl, r⟩), fun b z => .inl (o b (own_set' rfl z))⟩
        rcases get_set e with ⟨_, _, e'⟩ | ⟨_, e'⟩
        · cases e'
        · exact hio d' e'

/-! ### small statements -/
def sDSet (i : Nat) (de : Dn Fv) : Dn Fl := fun ε => (de ε).bind fun fv ε1 => match setS ε1 i fv with
  | some ε2 => .ok .nx ε2
  | none => .no
theorem sSet {i : Nat} {x : Str} {e : Expr} {de : Dn Fv} {pos pos' : Pos} (hN : X.N.Nodup) (hi : X.N[i]? = some x) (hx : Loc X.env.scope x) (he : PEp G X W e de) (hs : swapsWith e (some (.Name x pos')) pos.line X.env = pure false := by rfl)
    (hf : X.fn x = true ∨ X.env.scope.names.lookup x = some .local := by first | exact .inl rfl | exact .inr rfl | assumption) : PSp G X W (.Assign [.Name x pos'] e pos) (sDSet i de) := by
  refine PS.imp (ps_set hN hi hx he hs hf) ?_
  rintro E σ H ⟨C, ε, ok, post⟩
  refine wE_bind (P := PostS G W C σ ε H E) ok post (fun _ _ h => PostS.px h) id fun fv ε1 v H1 st1 ok1 vr p => ?_
  cases q : setS ε1 i fv with
  | none => rw [q] at p; exact p.elim
  | some ε2 =>
    rw [q] at p
    obtain ⟨k, o⟩ := setS_sound ok1 vr q ok.h0
    exact p _ H1 ⟨st1.keep, fun b z => (o b z).elim (st1.own b) .inr, st1.al⟩ k
def sDX (de : Dn Fv) : Dn Fl := fun ε => (de ε).bind fun _ ε1 => .ok .nx ε1
theorem sX {e : Expr} {de : Dn Fv} {pos : Pos} (he : PEp G X W e de) (hs : swapsWith e none pos.line X.env = pure false := by rfl) : PSp G X W (.Expr e pos) (sDX de) := by
  refine PS.imp (ps_expr he hs) ?_
  rintro E σ H ⟨C, ε, ok, post⟩
  exact wE_bind (P := PostS G W C σ ε H E) ok post (fun _ _ h => PostS.px h) id fun fv ε1 v H1 st1 ok1 vr p => p σ H1 st1 ok1
def retF (ε : Ev) (fv : Fv) : Re Fl := match fv with
  | .at j => match ε[j]? with
    | some (.sh d) => .ok (.rt (.sh d)) ε
    | some (.ow d) => .ok (.rt (.fr d)) (ε.set j .no)
    | _ => .no
  | x => .ok (.rt x) ε
def sDR (de : Dn Fv) : Dn Fl := fun ε => (de ε).bind fun fv ε1 => retF ε1 fv
/-- an owned object leaves its slot -/
theorem Ok.leave (k : Ok G C H σ ε) {j : Nat} {d : D} {v : V} (e : ε[j]? = some (.ow d)) (ev : σ[j]? = some (some v)) : VR G C C.H0 H σ (ε.set j .no) v (.fr d) := by
  obtain ⟨p, e1, t⟩ := k.ow j d e
  rw [ev] at e1; cases e1
  have o : ∀ b, own σ (ε.set j .no) b → own σ ε b := fun b z => own_set' (i := j) (v := some (.ref p)) (s := .no) rfl (by rw [set_self ev]; exact z)
  have np : ¬C.F σ (ε.set j .no) p := by
    rintro (z | ⟨a, s, e2, m2, e3⟩)
    · exact k.nf p ⟨j, _, e, rfl, ev⟩ z
    · rcases get_set e2 with ⟨rfl, _, rfl⟩ | ⟨n, e2⟩
      · cases m2
      · exact n (k.inj j a _ _ p e rfl e2 m2 ev e3)
  have inc : ∀ b, (C.add p).F σ (ε.set j .no) b → C.F σ ε b := fun b z => z.elim (fun z => z.elim .inl fun e' => .inr (by rw [show b = p from e']; exact ⟨j, _, e, rfl, ev⟩)) fun z => .inr (o b z)
  have m : Mv H H (C.F σ ε) ((C.add p).F σ (ε.set j .no)) := Mv.less inc
  have k0 : Ok G C H σ (ε.set j .no) := by
    have := k.put (i := j) (v := some (.ref p)) (s := .no) rfl (fun d' z => by rw [e] at z; cases z) (fun d' z => by cases z)
    rwa [set_self ev] at this
  refine ⟨p, rfl, k.new j d p e ev, np, ⟨k0.len, k0.kept, k0.inj, k0.new, fun q z w => ?_, fun q z => ?_, ?_, ?_, ?_, k0.ioA, k0.ioB, k0.tb, k0.h0⟩, t.mv m rfl⟩
  · rcases w with w | w
    · exact k0.nf q z w
    · exact np (.inr ((show q = p from w) ▸ z))
  · rcases z with z | z
    · exact k.f0 q z
    · intro w
      obtain ⟨o', eo⟩ := t.some
      rw [show q = p from z, eo] at w
      cases w
  · intro a d' e1
    rcases get_set e1 with ⟨rfl, _, e'⟩ | ⟨n1, e1⟩
    · cases e'
    · obtain ⟨u, e2, r⟩ := k.sh a d' e1
      exact ⟨u, e2, r.mv m⟩
  · intro a d' e1
    rcases get_set e1 with ⟨rfl, _, e'⟩ | ⟨n1, e1⟩
    · cases e'
    · obtain ⟨u, e2, r⟩ := k.ow a d' e1
      exact ⟨u, e2, r.mv m rfl⟩
  · intro a d' e1
    rcases get_set e1 with ⟨rfl, _, e'⟩ | ⟨n1, e1⟩
    · cases e'
    · obtain ⟨u, e2, r⟩ := k.io a d' e1
      exact ⟨u, e2, r.mv m rfl⟩
theorem sR {e : Expr} {de : Dn Fv} {pos : Pos} (he : PEp G X W e de) : PSp G X W (.Return (some e) pos) (sDR de) := by
  refine PS.imp (ps_ret he) ?_
  rintro E σ H ⟨C, ε, ok, post⟩
  refine wE_bind (P := PostS G W C σ ε H E) ok post (fun _ _ h => PostS.px h) id fun fv ε1 v H1 st1 ok1 vr p => ?_
  cases fv with
  | sh d => exact p σ v H1 st1 ok1 vr
  | fr d =>
    obtain ⟨q, e1, n, r⟩ := vr
    exact p σ v H1 st1 ok1 ⟨q, e1, ok.h0 q n, r⟩
  | «at» j =>
    have ev : σ[j]? = some (some v) := vr
    unfold retF at p
    dsimp only at p
    cases q : ε1[j]? with
    | none => rw [q] at p; exact p.elim
    | some s =>
      rw [q] at p
      cases s with
      | no => exact p.elim
      | io d => exact p.elim
      | sh d =>
        obtain ⟨u, e1, r⟩ := ok1.sh j d q
        rw [ev] at e1; cases e1
        exact p σ v H1 st1 ok1 r
      | ow d =>
        have l := ok1.leave q ev
        refine p σ v H1 ⟨st1.keep, fun b z => st1.own b ?_, st1.al⟩ ?_ l
        · exact own_set' (i := j) (v := some v) (s := .no) rfl (by rw [set_self ev]; exact z)
        · obtain ⟨_, _, _, _, k, _⟩ := l
          exact k.unadd
def sDRN : Dn Fl := fun ε => .ok (.rt (.sh .non)) ε
theorem sRN {pos : Pos} : PSp G X W (.Return none pos) sDRN := by
  refine PS.imp ps_retN ?_
  rintro E σ H ⟨C, ε, ok, post⟩
  exact post σ .non H Stp.refl ok .non
def bDN : Dn Fl := fun ε => .ok .nx ε
theorem bNil : PBp G X W [] bDN := PSs.imp pss_nil fun E σ H ⟨C, ε, ok, post⟩ => post σ H Stp.refl ok
theorem sPass {pos : Pos} : PSp G X W (.Pass pos) bDN := PS.imp ps_pass fun E σ H ⟨C, ε, ok, post⟩ => post σ H Stp.refl ok
def sDBk : Dn Fl := fun ε => .ok .bk ε
theorem sBreak {pos : Pos} : PSp G X W (.Break pos) sDBk := PS.imp ps_break fun E σ H ⟨C, ε, ok, post⟩ => post σ H Stp.refl ok
def sDCt : Dn Fl := fun ε => .ok .ct ε
theorem sCont {pos : Pos} : PSp G X W (.Continue pos) sDCt := PS.imp ps_continue fun E σ H ⟨C, ε, ok, post⟩ => post σ H Stp.refl ok
def sDNv : Dn Fl := fun _ => .no
theorem sNever {s : Stmt} : PSp G X W s sDNv := PS.imp ps_never fun E σ H ⟨C, ε, ok, post⟩ => post
theorem bOne {s : Stmt} {d : Dn Fl} (h : PSp G X W s d) : PBp G X W [s] d := pss_one h
def thenF (k : Dn Fl) (fl : Fl) (ε : Ev) : Re Fl := match fl with
  | .nx => k ε
  | x => .ok x ε
def bDC (a b : Dn Fl) : Dn Fl := fun ε => (a ε).bind (thenF b)
theorem bCons {s : Stmt} {ss : List Stmt} {a b : Dn Fl} (h1 : PSp G X W s a) (h2 : PBp G X W ss b) : PBp G X W (s :: ss) (bDC a b) := by
  refine PSs.imp (pss_cons h1 h2) ?_
  rintro E σ H ⟨C, ε, ok, post⟩
  refine ⟨C, ε, ok, ?_⟩
  unfold bDC at post
  cases e : a ε with
  | no => rw [e] at post; exact post.elim
  | exc x ε' => rw [e] at post; exact post
  | ok fl ε1 =>
    rw [e] at post
    cases fl with
    | nx => exact fun σ' H' st k => ⟨C, ε1, k, PostS.from st post⟩
    | bk => exact post
    | ct => exact post
    | rt v => exact post
def sDIf (c : Dn Bool) (a b : Dn Fl) : Dn Fl := fun ε => (c ε).bind fun t ε1 => if t = true then a ε1 else b ε1
theorem sIf {c : Expr} {a b : List Stmt} {dc : Dn Bool} {da db : Dn Fl} {pos : Pos} (hc : PTp G X W c dc) (ha : PBp G X W a da) (hb : PBp G X W b db) : PSp G X W (.If c a b pos) (sDIf dc da db) := by
  refine PS.imp (ps_if hc ha hb) ?_
  rintro E σ H ⟨C, ε, ok, post⟩
  refine wT_bind (P := PostS G W C σ ε H E) ok post (fun _ _ h => PostS.px h) id fun t ε1 H1 st1 ok1 p => ?_
  cases t with
  | true => exact ⟨C, ε1, ok1, PostS.from st1 p⟩
  | false => exact ⟨C, ε1, ok1, PostS.from st1 p⟩

/-! ### while -/
def loopF (k : Dn Fl) (fl : Fl) (ε : Ev) : Re Fl := match fl with
  | .nx => k ε
  | .ct => k ε
  | .bk => .ok .nx ε
  | .rt v => .ok (.rt v) ε
def whileD (c : Dn Bool) (b : Dn Fl) : Nat → Dn Fl
  | 0 => fun _ => .no
  | n + 1 => fun ε => (c ε).bind fun t ε1 => if t = true then (b ε1).bind (loopF (whileD c b n)) else .ok .nx ε1
def fuel : Nat := 1000000000
def sDW (c : Dn Bool) (b : Dn Fl) : Dn Fl := whileD c b fuel
theorem sWhile {c : Expr} {body : List Stmt} {dc : Dn Bool} {db : Dn Fl} {pos : Pos} (hp : PassesOwn (model X.prog X.w) X.A X.env X.xe) (hc : PTp G X W c dc) (hb : PBp G X W body db) : PSp G X W (.While c body [] pos) (sDW dc db) := by
  refine PS.imp (ps_while hp hc hb) ?_
  rintro E σ H ⟨C, ε, ok, post⟩
  refine ⟨fun m σ' H' => ∃ ε', Ok G C H' σ' ε' ∧ PostS G W C σ' ε' H' E (whileD dc db m ε'), ⟨fuel, ε, ok, post⟩, ?_⟩
  rintro m σ1 H1 ⟨ε1, ok1, p1⟩
  cases m with
  | zero => exact p1.elim
  | succ m =>
    refine wT_bind (P := PostS G W C σ1 ε1 H1 E) ok1 p1 (fun _ _ h => PostS.px h) id fun t ε2 H2 st2 ok2 p => ?_
    cases t with
    | false => exact p σ1 H2 st2 ok2
    | true =>
      have p := PostS.from st2 p
      refine ⟨fun σ' H' => ∃ ε', Ok G C H' σ' ε' ∧ PostS G W C σ' ε' H' E (whileD dc db m ε'), fun σ' H' h => ⟨m, Nat.lt_succ_self m, h⟩, C, ε2, ok2, ?_⟩
      rw [if_pos rfl] at p
      cases e : db ε2 with
      | no => rw [e] at p; exact p.elim
      | exc x ε' => rw [e] at p; exact p
      | ok fl ε3 =>
        rw [e] at p
        cases fl with
        | nx => exact fun σ' H' st k => ⟨ε3, k, PostS.from st p⟩
        | ct => exact fun σ' H' st k => ⟨ε3, k, PostS.from st p⟩
        | bk => exact p
        | rt v => exact p

/-! ### targets -/
abbrev Tg := D → Ev → Option Ev
def Off (vs : List Nat) (σ σ' : L2.St) : Prop := σ'.length = σ.length ∧ ∀ j, j ∉ vs → σ'[j]? = σ[j]?
def wG (G : Gx) (vs : List Nat) (g : Tg) : TG := fun v σ H Q => ∃ C ε d ε', Ok G C H σ ε ∧ Rp G H (C.F σ ε) v d ∧ g d ε = some ε' ∧ ∀ σ' H', Off vs σ σ' → Stp σ ε σ' ε' H H' → Ok G C H' σ' ε' → Q σ' H'
abbrev PGp (G : Gx) (X : Cx) (t : Expr) (vs : List Nat) (g : Tg) : Prop := PG X t (wG G vs g)
theorem PG.imp {e : Expr} {t t' : TG} (h : PG X e t) (k : ∀ v σ H Q, t' v σ H Q → t v σ H Q) : PG X e t' := ⟨fun pins s σ H v u Q I r z => h.run pins s σ H v u Q I r (k v σ H Q z)⟩
theorem PGs.imp {es : List Expr} {t t' : TGs} (h : PGs X es t) (k : ∀ v σ H Q, t' v σ H Q → t v σ H Q) : PGs X es t' := ⟨fun pins s σ H v u Q I r z => h.run pins s σ H v u Q I r (k v σ H Q z)⟩
def tgN (i : Nat) : Tg := fun d ε => setS ε i (.sh d)
theorem gN {i : Nat} {x : Str} {pos : Pos} (hN : X.N.Nodup) (hi : X.N[i]? = some x) (hx : Loc X.env.scope x) (hf : X.fn x = true ∨ X.env.scope.names.lookup x = some .local := by first | exact .inl rfl | exact .inr rfl | assumption) : PGp G X (.Name x pos) [i] (tgN i) := by
  refine PG.imp (pg_name hN hi hx hf) ?_
  rintro v σ H Q ⟨C, ε, d, ε', ok, r, e, q⟩
  obtain ⟨k, o⟩ := setS_sound (Hs := H) (fv := .sh d) ok r e ok.h0
  exact q _ H ⟨by simp, fun j hj => by rw [List.getElem?_set_ne (fun z => hj (by simp [z]))]⟩ ⟨fun _ _ e _ _ => e, o, fun _ e => e⟩ k
def wGs (G : Gx) (is : List Nat) (g : List D → Ev → Option Ev) : TGs := fun vs σ H Q => ∃ C ε ds ε', Ok G C H σ ε ∧ RpAll G H (C.F σ ε) vs ds ∧ g ds ε = some ε' ∧ ∀ σ' H', Off is σ σ' → Stp σ ε σ' ε' H H' → Ok G C H' σ' ε' → Q σ' H'
abbrev PGsp (G : Gx) (X : Cx) (t : List Expr) (is : List Nat) (g : List D → Ev → Option Ev) : Prop := PGs X t (wGs G is g)
def tgsN : List D → Ev → Option Ev := fun ds ε => match ds with
  | [] => some ε
  | _ => none
def tgsC (g : Tg) (gs : List D → Ev → Option Ev) : List D → Ev → Option Ev := fun ds ε => match ds with
  | d :: ds => (g d ε).bind (gs ds)
  | [] => none
theorem gNil : PGsp G X [] [] tgsN := by
  refine PGs.imp pgs_nil ?_
  rintro v σ H Q ⟨C, ε, ds, ε', ok, r, e, q⟩
  cases r with
  | nil => cases e; exact ⟨rfl, q σ H ⟨rfl, fun _ _ => rfl⟩ Stp.refl ok⟩
  | cons a b => cases e
theorem gCons {e : Expr} {es : List Expr} {g : Tg} {gs : List D → Ev → Option Ev} {is js : List Nat} (h1 : PGp G X e is g) (h2 : PGsp G X es js gs)
    (hs : (assignEach (e :: es) X.env).map (·.2) = assign e X.env :: (assignEach es X.env).map (·.2) := by rfl) : PGsp G X (e :: es) (is ++ js) (tgsC g gs) := by
  refine PGs.imp (pgs_cons h1 h2 hs) ?_
  rintro v σ H Q ⟨C, ε, ds, ε', ok, r, e, q⟩
  cases r with
  | nil => cases e
  | @cons v vs d ds a b =>
    cases e1 : g d ε with
    | none => rw [tgsC, e1] at e; cases e
    | some ε1 =>
      rw [tgsC, e1] at e
      refine ⟨v, vs, rfl, C, ε, d, ε1, ok, a, e1, fun σ1 H1 o1 st1 k1 => ⟨C, ε1, ds, ε', k1, b.mv st1.mv, e, fun σ' H' o2 st k => q σ' H' ⟨o2.1.trans o1.1, fun j hj => (o2.2 j fun z => hj (List.mem_append_right _ z)).trans (o1.2 j fun z => hj (List.mem_append_left _ z))⟩ (st1.trans st) k⟩⟩
def tgT (n : Nat) (gs : List D → Ev → Option Ev) : Tg := fun d ε => match d with
  | .tup ds => if ds.length = n then gs ds ε else none
  | _ => none
theorem gT {es : List Expr} {k n : Nat} {gs : List D → Ev → Option Ev} {is : List Nat} {pos : Pos} (hK : X.K = G.K) (hc : X.calm = true) (h : PGsp G X es is gs)
    (hn : (assignEach es X.env).length = n := by rfl) (hst : (assignEach es X.env).findIdx? (·.1) = none := by rfl) : PGp G X (.Tuple es k pos) is (tgT n gs) := by
  refine PG.imp (pgK_tup hK hc h hn hst) ?_
  rintro v σ H Q ⟨C, ε, d, ε', ok, r, e, q⟩
  cases r with
  | @tup a vs ds s r =>
    simp only [tgT] at e
    split at e
    · rename_i hl
      exact ⟨a, vs, rfl, s.sq, by rw [r.length, hl], C, ε, ds, ε', ok, r, e, q⟩
    · cases e
  | _ => cases e
def sDAsg (de : Dn Fv) (g : Tg) : Dn Fl := fun ε => (de ε).bind fun fv ε1 => match fv with
  | .sh d => match g d ε1 with
    | some ε2 => .ok .nx ε2
    | none => .no
  | .fr d => match g d ε1 with
    | some ε2 => .ok .nx ε2
    | none => .no
  | .at j => match ε1[j]? with
    | some (.sh d) => match g d ε1 with
      | some ε2 => .ok .nx ε2
      | none => .no
    | _ => .no
/-- (a, b, ..) = e -/
theorem sAsg {tg e : Expr} {de : Dn Fv} {g : Tg} {is : List Nat} {pos : Pos} (he : PEp G X W e de) (hg : PGp G X tg is g) (hs : swapsWithSole [tg] e pos.line X.env = pure false := by rfl) (hw : swappedStores [tg] e X.env = pure none := by rfl)
    (h1 : (assignEach [tg] X.env).map (·.2) = [assign tg X.env] := by rfl) : PSp G X W (.Assign [tg] e pos) (sDAsg de g) := by
  refine PS.imp (ps_asg he hg hs hw h1) ?_
  rintro E σ H ⟨C, ε, ok, post⟩
  refine wE_bind (P := PostS G W C σ ε H E) ok post (fun _ _ h => PostS.px h) id fun fv ε1 v H1 st1 ok1 vr p => ?_
  have fin : ∀ d, Rp G H1 (C.F σ ε1) v d → PostS G W C σ ε H E (match g d ε1 with
      | some ε2 => .ok .nx ε2
      | none => .no) → wG G is g v σ H1 E.nx := fun d r p => by
    cases q : g d ε1 with
    | none => rw [q] at p; exact p.elim
    | some ε2 =>
      rw [q] at p
      exact ⟨C, ε1, d, ε2, ok1, r, q, fun σ' H' _ st k => p σ' H' (st1.trans st) k⟩
  cases fv with
  | sh d => exact fin d vr p
  | fr d =>
    obtain ⟨q, rfl, _, np, _, t⟩ := vr
    exact fin d (t.rp (fun b z => z.imp .inl id) np) p
  | «at» j =>
    have ev : σ[j]? = some (some v) := vr
    dsimp only at p
    cases q : ε1[j]? with
    | none => rw [q] at p; exact p.elim
    | some s =>
      rw [q] at p
      cases s with
      | no => exact p.elim
      | io d => exact p.elim
      | ow d => exact p.elim
      | sh d =>
        obtain ⟨u, e1, r⟩ := ok1.sh j d q
        rw [ev] at e1; cases e1
        exact fin d r p

/-! ### for -/
def Ylds (G : Gx) (H : Hp) (F : Addr → Prop) (J : It) (ds : List D) : Prop := ∀ (i : Nat) (H1 : Hp) (F1 : Addr → Prop), Mv H H1 F F1 → FOld H1 F1 →
  (∀ d, ds[i]? = some d → J.go i H1 ∧ ∀ x H2, J.yld i H1 x H2 → (∀ b o, H1 b = some o → H2 b = some o) ∧ Rp G H2 F1 x d) ∧ (i = ds.length → J.stop i H1)
def PostI (G : Gx) (W : WX) (C : Fr) (σ : L2.St) (ε : Ev) (H : Hp) (R : It → Hp → Prop) : Re (List D) → Prop
  | .ok ds ε' => ∀ J H', Stp σ ε σ ε' H H' → Ok G C H' σ ε' → Ylds G H' (C.F σ ε') J ds → R J H'
  | .exc x ε' => PX G W C σ ε H x ε'
  | .no => False
def wI (G : Gx) (W : WX) (den : Dn (List D)) : TI := fun σ H R => ∃ C ε, Ok G C H σ ε ∧ PostI G W C σ ε H R (den ε)
abbrev PIp (G : Gx) (X : Cx) (W : WX) (tg iter : Expr) (den : Dn (List D)) : Prop := PI X tg iter (wI G W den)
theorem PI.imp {tg e : Expr} {t t' : TI} (h : PI X tg e t) (k : ∀ σ H Q, t' σ H Q → t σ H Q) : PI X tg e t' := ⟨fun pins s σ H Q I z => h.run pins s σ H Q I (k σ H Q z)⟩
theorem wI_bind {γ : Type} {P : Re γ → Prop} {da : Dn (List D)} {k : List D → Ev → Re γ} {R : It → Hp → Prop} (ok : Ok G C H σ ε) (hP : P ((da ε).bind k)) (hx : ∀ x ε', P (.exc x ε') → PX G W C σ ε H x ε') (hn : ¬P .no)
    (hk : ∀ ds ε1 J H1, Stp σ ε σ ε1 H H1 → Ok G C H1 σ ε1 → Ylds G H1 (C.F σ ε1) J ds → P (k ds ε1) → R J H1) : wI G W da σ H R := by
  refine ⟨C, ε, ok, ?_⟩
  cases e : da ε with
  | ok fv ε1 => rw [e] at hP; exact fun v H1 st ok1 vr => hk fv ε1 v H1 st ok1 vr hP
  | exc x ε' => rw [e] at hP; exact hx x ε' hP
  | no => rw [e] at hP; exact hn hP
def forD (g : Tg) (b : Dn Fl) : List D → Dn Fl
  | [] => fun ε => .ok .nx ε
  | d :: ds => fun ε => match g d ε with
    | some ε1 => (b ε1).bind (loopF (forD g b ds))
    | none => .no
def sDF (di : Dn (List D)) (g : Tg) (b : Dn Fl) : Dn Fl := fun ε => (di ε).bind fun ds ε1 => forD g b ds ε1
theorem sFor {tg iter : Expr} {body : List Stmt} {di : Dn (List D)} {g : Tg} {is : List Nat} {db : Dn Fl} {pos : Pos} (hp : PassesOwn (model X.prog X.w) X.A X.env X.xe) (hc : X.calm = true) (hi : PIp G X W tg iter di) (hg : PGp G X tg is g) (hb : PBp G X W body db)
    (hs : ∀ x, foldedSetIterable iter X.env x = pure x := by intro _; rfl) : PSp G X W (.For tg iter body [] pos) (sDF di g db) := by
  refine PS.imp (ps_for hp hc hi hg hb hs) ?_
  rintro E σ H ⟨C, ε, ok, post⟩
  refine wI_bind (P := PostS G W C σ ε H E) ok post (fun _ _ h => PostS.px h) id fun ds ε1 J H1 st1 ok1 yl p1 => ?_
  have p1 := PostS.from st1 p1
  refine ⟨fun i m σ' H' => ∃ ε', Ok G C H' σ' ε' ∧ (Mv H1 H' (C.F σ ε1) (C.F σ' ε') ∧ ∀ b, H' b = none → H1 b = none) ∧ i ≤ ds.length ∧ m = ds.length - i ∧ PostS G W C σ' ε' H' E (forD g db (ds.drop i) ε'), ⟨ds.length, ε1, ok1, ⟨Mv.refl, fun _ e => e⟩, Nat.zero_le _, rfl, p1⟩, ?_⟩
  rintro i m σ2 H2 ⟨ε2, ok2, ⟨mv2, al2⟩, hi2, rfl, p2⟩
  obtain ⟨y1, y2⟩ := yl i H2 _ mv2 ok2.fold
  by_cases c : i = ds.length
  · subst c
    rw [List.drop_length] at p2
    exact .inl ⟨y2 rfl, p2 σ2 H2 Stp.refl ok2⟩
  · have hlt : i < ds.length := by omega
    obtain ⟨go, yld⟩ := y1 ds[i] (List.getElem?_eq_getElem hlt)
    rw [List.drop_eq_getElem_cons hlt] at p2
    unfold forD at p2
    cases e1 : g ds[i] ε2 with
    | none => rw [e1] at p2; exact p2.elim
    | some ε3 =>
      rw [e1] at p2
      dsimp only at p2
      refine .inr ⟨go, fun σ' H' => ∃ ε', Ok G C H' σ' ε' ∧ (Mv H1 H' (C.F σ ε1) (C.F σ' ε') ∧ ∀ b, H' b = none → H1 b = none) ∧ PostS G W C σ' ε' H' E (forD g db (ds.drop (i + 1)) ε'), fun σ' H' ⟨ε', a, b, c⟩ => ⟨ds.length - (i + 1), by omega, ε', a, b, by omega, rfl, c⟩, fun x H3 hy => ?_⟩
      obtain ⟨gr, rx⟩ := yld x H3 hy
      have st3 : Stp σ2 ε2 σ2 ε2 H2 H3 := Stp.grow gr
      have mv3 : Mv H1 H3 (C.F σ ε1) (C.F σ2 ε2) := ⟨fun b o e n t => gr b o (mv2.keep b o e n t), mv2.frb⟩
      have p3 := PostS.from st3 p2
      have al3 : ∀ b, H3 b = none → H1 b = none := fun b e => al2 b (none_of_grow gr e)
      have tr : ∀ {σ' ε' H'}, Stp σ2 ε2 σ' ε' H3 H' → (Mv H1 H' (C.F σ ε1) (C.F σ' ε') ∧ ∀ b, H' b = none → H1 b = none) := fun {σ' ε' H'} st => by
        have m := st.mv (C := C)
        refine ⟨⟨fun b o e n t => m.keep b o (mv3.keep b o e n t) (mv3.nf e n) t, fun b z => ?_⟩, fun b e => al3 b (st.al b e)⟩
        rcases m.frb b z with z | z
        · exact mv3.frb b z
        · exact .inr (al3 b z)
      refine ⟨C, ε2, ds[i], ε3, ok2.grow gr, rx, e1, fun σ4 H4 _ st4 ok4 => ⟨C, ε3, ok4, ?_⟩⟩
      have p4 := PostS.from st4 p3
      cases e2 : db ε3 with
      | no => rw [e2] at p4; exact p4.elim
      | exc x ε' => rw [e2] at p4; exact p4
      | ok fl ε5 =>
        rw [e2] at p4
        cases fl with
        | nx => exact fun σ' H' st k => ⟨ε5, k, tr (st4.trans st), PostS.from st p4⟩
        | ct => exact fun σ' H' st k => ⟨ε5, k, tr (st4.trans st), PostS.from st p4⟩
        | bk => exact p4
        | rt v => exact p4
end
end PL

namespace PL
open PySem PySem.Spec PyProof.Rows L2 AB
open TL (tl)
theorem sz_le {n : Nat} (h : n ≤ 16000000) : n ≤ sizeLine := Nat.le_trans h sizeLine_big
section
variable {G : Gx} {X : Cx} {W : WX} {C : Fr} {σ : L2.St} {ε : Ev} {H : Hp} {F : Addr → Prop}

/-! ### truth -/
def tru : D → Option Bool
  | .non => some false
  | .bl b => some b
  | .int i => some (i != 0)
  | .str l => if l.length ≤ 16000000 then some (!l.isEmpty) else none
  | .lst ds => some (!ds.isEmpty)
  | .tup ds => some (!ds.isEmpty)
  | .dct es => some (!es.isEmpty)
  | _ => none
theorem RpAll.emp {vs : List V} {ds : List D} (h : RpAll G H F vs ds) : vs.isEmpty = ds.isEmpty := by cases h <;> rfl
theorem tru_sound {v : V} {d : D} {b : Bool} (r : Rt G H F v d) (h : tru d = some b) : TruV G.K v H b := by
  cases d with
  | non => cases r; cases h; rfl
  | bl c => cases r; cases h; rfl
  | int i => cases r; cases h; rfl
  | str l =>
    cases r
    simp only [tru] at h
    split at h
    · cases h
      refine ⟨by rw [sl_len]; exact sz_le (by assumption), ?_⟩
      rw [sl_len]
      cases l with
      | nil => rfl
      | cons c l => simp; omega
    · cases h
  | lst ds => obtain ⟨a, vs, rfl, s, r⟩ := r; cases h; exact .inl ⟨vs, SqL.of s, by rw [r.emp]⟩
  | tup ds =>
    cases r with
    | tup s r => cases h; exact .inr (.inl ⟨_, s.sq, by rw [r.emp]⟩)
  | dct es =>
    obtain ⟨a, kvs, rfl, e, k, r⟩ := r; cases h
    refine .inr (.inr ⟨kvs, e, ?_⟩)
    cases kvs <;> cases es <;> first | rfl | (simp at k)
  | _ => cases h
def trF (fv : Fv) (ε : Ev) : Re Bool := match rd ε fv with
  | some d => match tru d with
    | some b => .ok b ε
    | none => .no
  | none => .no
def tDV (de : Dn Fv) : Dn Bool := fun ε => (de ε).bind fun fv ε1 => trF fv.old ε1
theorem trF_sound {v : V} {fv : Fv} (k : Ok G C H σ ε) {Hs : Hp} (vr : VR G C Hs H σ ε v fv) {b : Bool} {ε' : Ev} (h : trF fv.old ε = .ok b ε') : ε' = ε ∧ TruV G.K v H b := by
  unfold trF at h
  cases e1 : rd ε fv.old with
  | none => rw [e1] at h; cases h
  | some d =>
    rw [e1] at h
    dsimp only at h
    cases e2 : tru d with
    | none => rw [e2] at h; cases h
    | some c =>
      rw [e2] at h
      cases h
      have rt := (vr.old .nil).rt k (ds := [d]) (by simp [rds, e1])
      cases rt with
      | cons r _ => exact ⟨rfl, tru_sound r e2⟩
theorem tV {e : Expr} {de : Dn Fv} (hK : X.K = G.K) (he : PEp G X W e de) (hi : ∀ whole, isTrue e X.env whole = (do let v ← whole; standAt e.pos; holding [v] (truthy v)) := by intro _; rfl) : PTp G X W e (tDV de) := by
  refine PT.imp (pt_truth he hi) ?_
  rintro σ H Q ⟨C, ε, ok, post⟩
  refine wE_bind (P := PostT G W C σ ε H Q) ok post (fun _ _ h => h) id fun fv ε1 v H1 st1 ok1 vr p => ?_
  cases q : trF fv.old ε1 with
  | no => rw [q] at p; exact p.elim
  | exc x ε' =>
    unfold trF at q
    split at q
    · split at q <;> cases q
    · cases q
  | ok b ε' =>
    rw [q] at p
    obtain ⟨rfl, t⟩ := trF_sound ok1 vr q
    rw [hK]
    exact ⟨b, t, p H1 st1 ok1⟩
def bT (d : Dn Fv) : Dn Bool := fun ε => (d ε).bind fun fv ε1 => match fv with
  | .sh (.bl b) => .ok b ε1
  | _ => .no
theorem tB_of {e : Expr} {te : TE} {de : Dn Fv} (h : PT X e (tTest te)) (hw : ∀ σ H Q, wE G W de σ H Q → te σ H Q) : PTp G X W e (bT de) := by
  refine PT.imp h ?_
  rintro σ H Q ⟨C, ε, ok, post⟩
  refine hw σ H _ (wE_bind (P := PostT G W C σ ε H Q) ok post (fun _ _ h => h) id fun fv ε1 v H1 st1 ok1 vr p => ?_)
  cases fv with
  | sh d =>
    cases d with
    | bl b =>
      have r : Rp G H1 (C.F σ ε1) v (.bl b) := vr
      cases r
      exact ⟨b, rfl, p H1 st1 ok1⟩
    | _ => exact p.elim
  | _ => exact p.elim
def tDN (d : Dn Bool) : Dn Bool := fun ε => (d ε).bind fun b ε1 => .ok (!b) ε1
theorem tN {a : Expr} {da : Dn Bool} {pos : Pos} (ha : PTp G X W a da) : PTp G X W (.UnaryOp .Not a pos) (tDN da) := by
  refine PT.imp (pt_not ha) ?_
  rintro σ H Q ⟨C, ε, ok, post⟩
  exact wT_bind (P := PostT G W C σ ε H Q) ok post (fun _ _ h => h) id fun b ε1 H1 st1 ok1 p => p H1 st1 ok1
def tDA (a b : Dn Bool) : Dn Bool := fun ε => (a ε).bind fun c ε1 => if c = true then b ε1 else .ok false ε1
def tDO (a b : Dn Bool) : Dn Bool := fun ε => (a ε).bind fun c ε1 => if c = true then .ok true ε1 else b ε1
section
variable {a b : Expr} {rest : List Expr} {pos : Pos} {da db : Dn Bool}
theorem wA1 (ha : PTp G X W a da) : PWp G X W (.BoolOp .And [a] pos) da := pw_and1 ha
theorem wO1 (ha : PTp G X W a da) : PWp G X W (.BoolOp .Or [a] pos) da := pw_or1 ha
theorem wAn (ha : PTp G X W a da) (hb : PWp G X W (.BoolOp .And (b :: rest) pos) db) : PWp G X W (.BoolOp .And (a :: b :: rest) pos) (tDA da db) := by
  refine PW.imp (pw_and ha hb) ?_
  rintro σ H Q ⟨C, ε, ok, post⟩
  refine wT_bind (P := PostT G W C σ ε H Q) ok post (fun _ _ h => h) id fun c ε1 H1 st1 ok1 p => ?_
  cases c with
  | true => exact ⟨C, ε1, ok1, PostT.from st1 p⟩
  | false => exact p H1 st1 ok1
theorem wOn (ha : PTp G X W a da) (hb : PWp G X W (.BoolOp .Or (b :: rest) pos) db) : PWp G X W (.BoolOp .Or (a :: b :: rest) pos) (tDO da db) := by
  refine PW.imp (pw_or ha hb) ?_
  rintro σ H Q ⟨C, ε, ok, post⟩
  refine wT_bind (P := PostT G W C σ ε H Q) ok post (fun _ _ h => h) id fun c ε1 H1 st1 ok1 p => ?_
  cases c with
  | true => exact p H1 st1 ok1
  | false => exact ⟨C, ε1, ok1, PostT.from st1 p⟩
theorem tW {e : Expr} {d : Dn Bool} (h : PWp G X W e d) : PTp G X W e d := PW.pt h
end
/-! values: and, or, not, if -/
def eDA (a b : Dn Fv) : Dn Fv := fun ε => (a ε).bind fun x ε1 => (trF x.old ε1).bind fun c ε2 => if c = true then b ε2 else .ok x ε2
def eDO (a b : Dn Fv) : Dn Fv := fun ε => (a ε).bind fun x ε1 => (trF x.old ε1).bind fun c ε2 => if c = true then .ok x ε2 else b ε2
theorem trF_bind {γ : Type} {P : Re γ → Prop} {k : Bool → Ev → Re γ} {v : V} {fv : Fv} (ok : Ok G C H σ ε) {Hs : Hp} (vr : VR G C Hs H σ ε v fv) (h : P ((trF fv.old ε).bind k)) (hn : ¬P .no) : ∃ b, TruV G.K v H b ∧ P (k b ε) := by
  cases q : trF fv.old ε with
  | no => rw [q] at h; exact (hn h).elim
  | exc x ε' =>
    unfold trF at q
    split at q
    · split at q <;> cases q
    · cases q
  | ok b ε' =>
    rw [q] at h
    obtain ⟨rfl, t⟩ := trF_sound ok vr q
    exact ⟨b, t, h⟩
section
variable {a b c : Expr} {rest : List Expr} {pos : Pos} {da db : Dn Fv} {dc : Dn Bool}
theorem eOne {op} (h : PEp G X W a da) : PEp G X W (.BoolOp op [a] pos) da := pe_one h
theorem eAnd (hK : X.K = G.K) (ha : PEp G X W a da) (hb : PEp G X W (.BoolOp .And (b :: rest) pos) db) : PEp G X W (.BoolOp .And (a :: b :: rest) pos) (eDA da db) := by
  refine PE.imp (pe_andT ha hb) ?_
  rintro σ H Q ⟨C, ε, ok, post⟩
  refine wE_bind (P := PostE G W C σ ε H Q) ok post (fun _ _ h => h) id fun fx ε1 x H1 st1 ok1 vr1 p => ?_
  obtain ⟨c, t, p⟩ := trF_bind (P := PostE G W C σ ε H Q) ok1 vr1 p id
  rw [hK]
  refine ⟨c, t, ?_⟩
  cases c with
  | true => exact ⟨C, ε1, ok1, PostE.from st1 p⟩
  | false => exact p x H1 st1 ok1 vr1
theorem eOr (hK : X.K = G.K) (ha : PEp G X W a da) (hb : PEp G X W (.BoolOp .Or (b :: rest) pos) db) : PEp G X W (.BoolOp .Or (a :: b :: rest) pos) (eDO da db) := by
  refine PE.imp (pe_orT ha hb) ?_
  rintro σ H Q ⟨C, ε, ok, post⟩
  refine wE_bind (P := PostE G W C σ ε H Q) ok post (fun _ _ h => h) id fun fx ε1 x H1 st1 ok1 vr1 p => ?_
  obtain ⟨c, t, p⟩ := trF_bind (P := PostE G W C σ ε H Q) ok1 vr1 p id
  rw [hK]
  refine ⟨c, t, ?_⟩
  cases c with
  | true => exact p x H1 st1 ok1 vr1
  | false => exact ⟨C, ε1, ok1, PostE.from st1 p⟩
def eDNt (a : Dn Fv) : Dn Fv := fun ε => (a ε).bind fun x ε1 => (trF x.old ε1).bind fun c ε2 => .ok (.sh (.bl (!c))) ε2
theorem eNot (hK : X.K = G.K) (ha : PEp G X W a da) : PEp G X W (.UnaryOp .Not a pos) (eDNt da) := by
  refine PE.imp (pe_notT ha) ?_
  rintro σ H Q ⟨C, ε, ok, post⟩
  refine wE_bind (P := PostE G W C σ ε H Q) ok post (fun _ _ h => h) id fun fx ε1 x H1 st1 ok1 vr1 p => ?_
  obtain ⟨c, t, p⟩ := trF_bind (P := PostE G W C σ ε H Q) ok1 vr1 p id
  rw [hK]
  exact ⟨c, t, p _ H1 st1 ok1 (.bl _)⟩
def eDIf (c : Dn Bool) (a b : Dn Fv) : Dn Fv := fun ε => (c ε).bind fun t ε1 => if t = true then a ε1 else b ε1
theorem eIf (hc : PTp G X W c dc) (ha : PEp G X W a da) (hb : PEp G X W b db) : PEp G X W (.IfExp c a b pos) (eDIf dc da db) := by
  refine PE.imp (pe_ifExp hc ha hb) ?_
  rintro σ H Q ⟨C, ε, ok, post⟩
  refine wT_bind (P := PostE G W C σ ε H Q) ok post (fun _ _ h => h) id fun t ε1 H1 st1 ok1 p => ?_
  cases t with
  | true => exact ⟨C, ε1, ok1, PostE.from st1 p⟩
  | false => exact ⟨C, ε1, ok1, PostE.from st1 p⟩
end

/-! ### giving values away -/
def shr : List Fv → Ev → Option (List D × Ev)
  | [], ε => some ([], ε)
  | .sh d :: fs, ε => (shr fs ε).map fun r => (d :: r.1, r.2)
  | .at j :: fs, ε => match ε[j]? with
    | some (.sh d) => (shr fs ε).map fun r => (d :: r.1, r.2)
    | some (.ow d) => (shr fs (ε.set j (.sh d))).map fun r => (d :: r.1, r.2)
    | _ => none
  | .fr _ :: _, _ => none
theorem Stp.less {ε1 : Ev} (h : ∀ b, PL.own σ ε1 b → PL.own σ ε b) : Stp σ ε σ ε1 H H := ⟨fun _ _ e _ _ => e, fun b z => .inl (h b z), fun _ e => e⟩
theorem shr_sound : ∀ {fs : List Fv} {vs : List V} {ε : Ev} {ds : List D} {ε' : Ev}, Ok G C H σ ε → VRs G C H σ ε vs fs → shr fs ε = some (ds, ε') →
    Ok G C H σ ε' ∧ RpAll G H (C.F σ ε') vs ds ∧ ∀ b, own σ ε' b → own σ ε b
  | [], vs, ε, ds, ε', k, r, h => by
    cases r; cases h
    exact ⟨k, .nil, fun _ z => z⟩
  | .sh d :: fs, _, ε, ds, ε', k, r, h => by
    cases r with
    | sh r rs =>
      simp only [shr] at h
      cases q : shr fs ε with
      | none => rw [q] at h; cases h
      | some p =>
        rw [q] at h; cases h
        obtain ⟨k1, a, o⟩ := shr_sound k rs q
        exact ⟨k1, .cons (r.mv (Mv.less fun b z => z.imp id (o b))) a, o⟩
  | .at j :: fs, _, ε, ds, ε', k, r, h => by
    cases r with
    | @«at» v _ vs _ r rs =>
      simp only [shr] at h
      cases q0 : ε[j]? with
      | none => rw [q0] at h; cases h
      | some s =>
        rw [q0] at h
        cases s with
        | no => cases h
        | io d => cases h
        | sh d =>
          dsimp only at h
          cases q : shr fs ε with
          | none => rw [q] at h; cases h
          | some p =>
            rw [q] at h; cases h
            obtain ⟨k1, a, o⟩ := shr_sound k rs q
            obtain ⟨u, e1, ru⟩ := k.sh j d q0
            rw [r] at e1; cases e1
            exact ⟨k1, .cons (ru.mv (Mv.less fun b z => z.imp id (o b))) a, o⟩
        | ow d =>
          dsimp only at h
          cases q : shr fs (ε.set j (.sh d)) with
          | none => rw [q] at h; cases h
          | some p =>
            rw [q] at h; cases h
            obtain ⟨k0, ru, o0⟩ := k.share q0 r
            obtain ⟨k1, a, o⟩ := shr_sound k0 (rs.stp (Stp.less o0)) q
            exact ⟨k1, .cons (ru.mv (Mv.less fun b z => z.imp id (o b))) a, fun b z => o0 b (o b z)⟩
  | .fr d :: fs, _, ε, ds, ε', k, r, h => by cases h

/-! ### lists and tuples, written -/
def mkL (f : List D → Fv) (fs : List Fv) (ε : Ev) : Re Fv := match shr fs ε with
  | some (ds, ε') => if ds.length ≤ 16000000 then .ok (f ds) ε' else .no
  | none => .no
def dLst (da : Dn (List Fv)) : Dn Fv := fun ε => (da ε).bind (mkL fun ds => .fr (.lst ds))
def dTup (da : Dn (List Fv)) : Dn Fv := fun ε => (da ε).bind (mkL fun ds => .sh (.tup ds))
theorem mkL_sound {f : List D → Fv} {fs : List Fv} {vs : List V} (hf : ∀ ds i, f ds ≠ .at i) {Q : VK} (ok : Ok G C H σ ε) (vr : VRs G C H σ ε vs fs) (p : PostE G W C σ ε H Q (mkL f fs ε)) :
    ∃ ds ε', vs.length ≤ sizeLine ∧ Ok G C H σ ε' ∧ RpAll G H (C.F σ ε') vs ds ∧ PostV G H (C.F σ ε') Q (f ds) := by
  unfold mkL at p
  cases q : shr fs ε with
  | none => rw [q] at p; exact p.elim
  | some r =>
    obtain ⟨ds, ε'⟩ := r
    rw [q] at p
    obtain ⟨k1, a, o⟩ := shr_sound ok vr q
    dsimp only at p
    split at p
    · exact ⟨ds, ε', by rw [a.length]; exact sz_le (by assumption), k1, a, PostE.v k1 (PostE.from (Stp.less o) p) (hf ds)⟩
    · exact p.elim
theorem eLst {es : List Expr} {da : Dn (List Fv)} {pos : Pos} (h : PAp G X W es da) : PEp G X W (.List es pos) (dLst da) := by
  refine PE.imp (pe_lst h) ?_
  rintro σ H Q ⟨C, ε, ok, post⟩
  refine wA_bind (P := PostE G W C σ ε H Q) ok post (fun _ _ h => h) id fun fs ε1 vs H1 st1 ok1 vr p => ?_
  obtain ⟨ds, ε', hl, k, a, pv⟩ := mkL_sound (fun ds i z => by cases z) ok1 vr (PostE.from st1 p)
  exact ⟨hl, fun q hq => pv.lst a hq⟩
theorem eTup {es : List Expr} {da : Dn (List Fv)} {pos : Pos} {x1} (h : PAp G X W es da) : PEp G X W (.Tuple es x1 pos) (dTup da) := by
  refine PE.imp (pe_tup h) ?_
  rintro σ H Q ⟨C, ε, ok, post⟩
  refine wA_bind (P := PostE G W C σ ε H Q) ok post (fun _ _ h => h) id fun fs ε1 vs H1 st1 ok1 vr p => ?_
  obtain ⟨ds, ε', hl, k, a, pv⟩ := mkL_sound (fun ds i z => by cases z) ok1 vr (PostE.from st1 p)
  exact ⟨hl, fun q hq => pv.tup a hq (k.fresh hq).2⟩

/-! ### what a loop walks -/
theorem ylds_list {a : Addr} {vs : List V} {ds : List D} (s : SL G H F a vs) (r : RpAll G H F vs ds) : Ylds G H F (Itl G.K a) ds := by
  intro i H1 F1 m fo
  have s1 := s.mv m
  have r1 := r.mv m
  refine ⟨fun d e => ?_, fun e => ⟨vs, s1.sq, by rw [r.length, e]; exact Nat.le_refl _⟩⟩
  obtain ⟨v, ev, rv⟩ := r1.get' e
  refine ⟨⟨vs, v, s1.sq, ev⟩, fun x H2 hy => ?_⟩
  obtain ⟨rfl, hy⟩ := hy
  have := hy vs s1.sq
  rw [ev] at this; cases this
  exact ⟨fun _ _ e => e, rv⟩
theorem ylds_tup {a : Addr} {vs : List V} {ds : List D} (s : ST G H F a vs) (r : RpAll G H F vs ds) : Ylds G H F (Itt G.K a) ds := by
  intro i H1 F1 m fo
  have s1 := s.mv m
  have r1 := r.mv m
  refine ⟨fun d e => ?_, fun e => ⟨vs, s1.sq, by rw [r.length, e]; exact Nat.le_refl _⟩⟩
  obtain ⟨v, ev, rv⟩ := r1.get' e
  refine ⟨⟨vs, v, s1.sq, ev⟩, fun x H2 hy => ?_⟩
  obtain ⟨rfl, hy⟩ := hy
  have := hy vs s1.sq
  rw [ev] at this; cases this
  exact ⟨fun _ _ e => e, rv⟩
def rngD (lo : Int) (n : Nat) : List D := (List.range n).map fun (k : Nat) => .int (lo + (k : Int))
theorem ylds_rng (lo : Int) (n : Nat) : Ylds G H F (Itr lo n) (rngD lo n) := by
  intro i H1 F1 m fo
  unfold rngD
  refine ⟨fun d e => ?_, fun e => by simp at e; exact Nat.le_of_eq e.symm⟩
  have hi : i < n := by have := (List.getElem?_eq_some_iff.mp e).1; simpa using this
  refine ⟨hi, fun x H2 hy => ?_⟩
  obtain ⟨rfl, rfl⟩ := hy
  rw [List.getElem?_map, List.getElem?_range hi] at e
  cases e
  exact ⟨fun _ _ e => e, .int _⟩
def chrsD (l : List Nat) : List D := l.map fun c => .str [c]
theorem sOk_mem {l : List Nat} {c : Nat} (h : sOk l = true) (m : c ∈ l) : sOk [c] = true := by
  unfold sOk at h ⊢
  rw [List.all_eq_true] at h
  simpa using h c m
theorem sl_size (l : List Nat) : (sl l).cps.size = l.length := by simp [sl]
theorem ylds_str {l : List Nat} (h : sOk l = true) : Ylds G H F (Its (sl l)) (chrsD l) := by
  intro i H1 F1 m fo
  unfold chrsD
  refine ⟨fun d e => ?_, fun e => by
    rw [List.length_map] at e
    show (sl l).cps.size ≤ i
    rw [sl_size, e]; exact Nat.le_refl _⟩
  have hi : i < l.length := by have := (List.getElem?_eq_some_iff.mp e).1; simpa using this
  refine ⟨by show i < (sl l).cps.size; rw [sl_size]; exact hi, fun x H2 hy => ?_⟩
  obtain ⟨rfl, c, hc, rfl⟩ := hy
  have hc' : l[i]? = some c := by simpa [sl] using hc
  rw [List.getElem?_map, hc'] at e
  cases e
  exact ⟨fun _ _ e => e, .str (sOk_mem h (List.mem_of_getElem? hc'))⟩
/-- the items of what a loop walks -/
def itemsF (fv : Fv) (ε : Ev) : Re (List D) := match shr [fv] ε with
  | some ([.lst ds], ε') => .ok ds ε'
  | some ([.tup ds], ε') => .ok ds ε'
  | some ([.str l], ε') => .ok (chrsD l) ε'
  | _ => .no
def dI (de : Dn Fv) : Dn (List D) := fun ε => (de ε).bind fun fv ε1 => itemsF fv.old ε1
theorem PI.or {tg e : Expr} {t t' : TI} (h : PI X tg e t) (h' : PI X tg e t') : PI X tg e (fun σ H R => t σ H R ∨ t' σ H R) := ⟨fun pins s σ H R I z => z.elim (h.run pins s σ H R I) (h'.run pins s σ H R I)⟩
theorem iV {tg e : Expr} {de : Dn Fv} (hK : X.K = G.K) (he : PEp G X W e de) : PIp G X W tg e (dI de) := by
  refine PI.imp (PI.or (piK_list (K := G.K) hK he) (PI.or (piK_tup (K := G.K) hK he) (pi_str he))) ?_
  rintro σ H R ⟨C, ε, ok, post⟩
  have key : ∀ (d : D), (∀ ds, d ≠ .lst ds → True) → True := fun _ _ => trivial
  cases q0 : de ε with
  | no => simp only [dI, q0] at post; exact post.elim
  | exc x ε' =>
    simp only [dI, q0] at post
    exact .inl ⟨C, ε, ok, by rw [q0]; exact post⟩
  | ok fv ε1 =>
    simp only [dI, q0, Re.bind] at post
    have go : ∀ {te : V → Hp → Prop}, (∀ v H1, Stp σ ε σ ε1 H H1 → Ok G C H1 σ ε1 → VRs G C H1 σ ε1 [v] [fv.old] → te v H1) → wE G W de σ H te := fun {te} h => ⟨C, ε, ok, by
      rw [q0]
      exact fun v H1 st k vr => h v H1 st k (vr.old .nil)⟩
    unfold itemsF at post
    cases q1 : shr [fv.old] ε1 with
    | none => rw [q1] at post; exact post.elim
    | some r =>
      obtain ⟨ds, ε2⟩ := r
      rw [q1] at post
      have sound : ∀ v H1, Ok G C H1 σ ε1 → VRs G C H1 σ ε1 [v] [fv.old] → Ok G C H1 σ ε2 ∧ RpAll G H1 (C.F σ ε2) [v] ds ∧ ∀ b, own σ ε2 b → own σ ε1 b := fun v H1 k vs => shr_sound k vs q1
      cases ds with
      | nil => exact post.elim
      | cons d ds =>
        cases ds with
        | cons d' ds => cases d <;> exact post.elim
        | nil =>
          cases d with
          | lst xs =>
            refine .inl (go fun v H1 st k vs => ?_)
            obtain ⟨k2, r2, o⟩ := sound v H1 k vs
            cases r2 with
            | cons r2 _ =>
              cases r2 with
              | lst e n r => exact ⟨_, rfl, ⟨_, SqL.of e⟩, post _ H1 (st.trans (Stp.less o)) k2 (ylds_list (.inl ⟨.inl e, n⟩) r)⟩
          | tup xs =>
            refine .inr (.inl (go fun v H1 st k vs => ?_))
            obtain ⟨k2, r2, o⟩ := sound v H1 k vs
            cases r2 with
            | cons r2 _ =>
              cases r2 with
              | tup s r => exact ⟨_, rfl, ⟨_, s.sq⟩, post _ H1 (st.trans (Stp.less o)) k2 (ylds_tup s r)⟩
          | str l =>
            refine .inr (.inr (go fun v H1 st k vs => ?_))
            obtain ⟨k2, r2, o⟩ := sound v H1 k vs
            cases r2 with
            | cons r2 _ =>
              cases r2 with
              | str hs => exact ⟨_, rfl, post _ H1 (st.trans (Stp.less o)) k2 (ylds_str hs)⟩
          | _ => exact post.elim
def rng1 (fs : List Fv) (ε : Ev) : Re (List D) := match rds ε fs with
  | some [.int j] => if -(2 ^ 62) ≤ j ∧ j < 2 ^ 62 then .ok (rngD 0 j.toNat) ε else .no
  | _ => .no
def rng2 (fs : List Fv) (ε : Ev) : Re (List D) := match rds ε fs with
  | some [.int i, .int j] => if -(2 ^ 62) ≤ i ∧ i < 2 ^ 62 ∧ -(2 ^ 62) ≤ j ∧ j < 2 ^ 62 then .ok (rngD i (j - i).toNat) ε else .no
  | _ => .no
theorem RtAll.ints1 {vs : List V} {j : Int} (h : RtAll G H F vs [.int j]) : vs = [.int j] := by
  cases h with
  | cons a b => cases b; cases a; rfl
theorem RtAll.ints2 {vs : List V} {i j : Int} (h : RtAll G H F vs [.int i, .int j]) : vs = [.int i, .int j] := by
  cases h with
  | cons a b => cases a; rw [b.ints1]
theorem iR1 {tg a : Expr} {da : Dn (List Fv)} {p pos : Pos} (hg : Gl X "range") (hm : X.mg "range" = none) (ha : PAp G X W [a] da) (hs : starEach [a] X.env = [(false, eval a X.env)] := by rfl) :
    PIp G X W tg (.Call (.Name "range" p) [a] [] pos) (fun ε => (da ε).bind rng1) := by
  refine PI.imp (pi_range1 hg hm ha hs) ?_
  rintro σ H R ⟨C, ε, ok, post⟩
  refine wA_bind (P := PostI G W C σ ε H R) ok post (fun _ _ h => h) id fun fs ε1 vs H1 st1 ok1 vr p => ?_
  unfold rng1 at p
  split at p
  · rename_i j q
    split at p
    · rename_i c
      exact ⟨j, (vr.rt ok1 q).ints1, c.1, c.2, p _ H1 st1 ok1 (ylds_rng 0 _)⟩
    · exact p.elim
  · exact p.elim
theorem iR2 {tg a b : Expr} {da : Dn (List Fv)} {p pos : Pos} (hg : Gl X "range") (hm : X.mg "range" = none) (ha : PAp G X W [a, b] da) (hs : starEach [a, b] X.env = [(false, eval a X.env), (false, eval b X.env)] := by rfl) (hs2 : starEach [b] X.env = [(false, eval b X.env)] := by rfl) :
    PIp G X W tg (.Call (.Name "range" p) [a, b] [] pos) (fun ε => (da ε).bind rng2) := by
  refine PI.imp (pi_range2 hg hm ha hs hs2) ?_
  rintro σ H R ⟨C, ε, ok, post⟩
  refine wA_bind (P := PostI G W C σ ε H R) ok post (fun _ _ h => h) id fun fs ε1 vs H1 st1 ok1 vr p => ?_
  unfold rng2 at p
  split at p
  · rename_i i j q
    split at p
    · rename_i c
      exact ⟨i, j, (vr.rt ok1 q).ints2, c, p _ H1 st1 ok1 (ylds_rng i _)⟩
    · exact p.elim
  · exact p.elim
/-- enumerate -/
def enumD (ds : List D) : List D := (List.range ds.length).zipWith (fun (k : Nat) d => D.tup [.int (k : Int), d]) ds
theorem enumD_get {ds : List D} {i : Nat} {d : D} (h : (enumD ds)[i]? = some d) : ∃ y, ds[i]? = some y ∧ d = .tup [.int (i : Nat), y] := by
  unfold enumD at h
  rw [List.getElem?_zipWith] at h
  cases e1 : (List.range ds.length)[i]? with
  | none => rw [e1] at h; cases h
  | some k =>
    cases e2 : ds[i]? with
    | none => rw [e1, e2] at h; cases h
    | some y =>
      rw [e1, e2] at h
      cases h
      have hi : i < ds.length := (List.getElem?_eq_some_iff.mp e2).1
      rw [List.getElem?_range hi] at e1
      cases e1
      exact ⟨y, rfl, rfl⟩
theorem enumD_len (ds : List D) : (enumD ds).length = ds.length := by simp [enumD]
theorem ylds_enum {a : Addr} {vs : List V} {ds : List D} (s : SL G H F a vs) (r : RpAll G H F vs ds) : Ylds G H F (Ite G.K a) (enumD ds) := by
  intro i H1 F1 m fo
  have s1 := s.mv m
  have r1 := r.mv m
  refine ⟨fun d e => ?_, fun e => ⟨vs, s1.sq, by rw [r.length, e, enumD_len]; exact Nat.le_refl _⟩⟩
  obtain ⟨y, ey, rfl⟩ := enumD_get e
  obtain ⟨v, ev, rv⟩ := r1.get' ey
  refine ⟨⟨vs, v, s1.sq, ev⟩, fun x H2 hy => ?_⟩
  obtain ⟨T, w, rfl, nT, rfl, hy⟩ := hy
  have := hy vs s1.sq
  rw [ev] at this; cases this
  exact ⟨grow_new nT, .tup (.inl ⟨.inl upd_same, fo.n nT⟩) (.cons (.int _) (.cons (rv.mv (mv_old nT)) .nil))⟩
theorem ylds_enumS {l : List Nat} (h : sOk l = true) : Ylds G H F (Ites (sl l)) (enumD (chrsD l)) := by
  intro i H1 F1 m fo
  refine ⟨fun d e => ?_, fun e => by
    rw [enumD_len, chrsD, List.length_map] at e
    show i = (sl l).length
    rw [sl_len, e]⟩
  obtain ⟨y, ey, rfl⟩ := enumD_get e
  have hi : i < l.length := by have := (List.getElem?_eq_some_iff.mp ey).1; simpa [chrsD] using this
  refine ⟨by show i < (sl l).length; rw [sl_len]; exact hi, fun x H2 hy => ?_⟩
  obtain ⟨T, c, rfl, nT, rfl, hc⟩ := hy
  have hc' : l[i]? = some c := by simpa [sl, tl] using hc
  rw [chrsD, List.getElem?_map, hc'] at ey
  cases ey
  exact ⟨grow_new nT, .tup (.inl ⟨.inl upd_same, fo.n nT⟩) (.cons (.int _) (.cons (.str (sOk_mem h (List.mem_of_getElem? hc'))) .nil))⟩
def enumF (fs : List Fv) (ε : Ev) : Re (List D) := match shr fs ε with
  | some ([.lst ds], ε') => .ok (enumD ds) ε'
  | some ([.str l], ε') => .ok (enumD (chrsD l)) ε'
  | _ => .no
theorem iEn {e : Expr} {da : Dn (List Fv)} {p pos tpos : Pos} {elts : List Expr} {kk : Nat} (hK : X.K = G.K) (hg : Gl X "enumerate") (hm : X.mg "enumerate" = none) (ha : PAp G X W [e] da)
    (hs : starEach [e] X.env = [(false, eval e X.env)] := by rfl) : PIp G X W (.Tuple elts kk tpos) (.Call (.Name "enumerate" p) [e] [] pos) (fun ε => (da ε).bind enumF) := by
  refine PI.imp (PI.or (enumK (K := G.K) hK hg hm ha hs) (pi_enumS hg hm ha hs)) ?_
  rintro σ H R ⟨C, ε, ok, post⟩
  cases q0 : da ε with
  | no => simp only [q0] at post; exact post.elim
  | exc x ε' =>
    simp only [q0] at post
    exact .inl ⟨C, ε, ok, by rw [q0]; exact post⟩
  | ok fs ε1 =>
    simp only [q0, Re.bind] at post
    unfold enumF at post
    cases q1 : shr fs ε1 with
    | none => rw [q1] at post; exact post.elim
    | some r =>
      obtain ⟨ds, ε2⟩ := r
      rw [q1] at post
      cases ds with
      | nil => exact post.elim
      | cons d ds =>
        cases ds with
        | cons d' ds => cases d <;> exact post.elim
        | nil =>
          cases d with
          | lst xs =>
            refine .inl ⟨C, ε, ok, ?_⟩
            rw [q0]
            intro vs H1 st k vr
            obtain ⟨k2, r2, o⟩ := shr_sound k vr q1
            cases r2 with
            | cons r2 rn =>
              cases rn
              cases r2 with
              | lst e n r => exact ⟨_, _, rfl, SqL.of e, post _ H1 (st.trans (Stp.less o)) k2 (ylds_enum (.inl ⟨.inl e, n⟩) r)⟩
          | str l =>
            refine .inr ⟨C, ε, ok, ?_⟩
            rw [q0]
            intro vs H1 st k vr
            obtain ⟨k2, r2, o⟩ := shr_sound k vr q1
            cases r2 with
            | cons r2 rn =>
              cases rn
              cases r2 with
              | str hs => exact ⟨_, rfl, post _ H1 (st.trans (Stp.less o)) k2 (ylds_enumS hs)⟩
          | _ => exact post.elim
end
end PL

namespace PL
open PySem PySem.Spec PyProof.Rows L2 AB
open TL (tl)

/-! ### owned objects are written -/
def Sl.with : Sl → D → Sl
  | .io _, d => .io d
  | _, d => .ow d
def putIo : Ev → List Nat → List D → Ev
  | ε, j :: js, d :: ds => putIo (match ε[j]? with
    | some s => ε.set j (s.with d)
    | none => ε) js ds
  | ε, _, _ => ε
theorem with_mut (s : Sl) (d : D) : (s.with d).mut = true := by cases s <;> rfl
theorem putIo_len : ∀ (js : List Nat) (outs : List D) (ε : Ev), (putIo ε js outs).length = ε.length
  | [], outs, ε => by cases outs <;> rfl
  | j :: js, [], ε => rfl
  | j :: js, d :: ds, ε => by
    unfold putIo
    rw [putIo_len js ds]
    split <;> simp
theorem putIo_out : ∀ (js : List Nat) (outs : List D) (ε : Ev) (i : Nat), i ∉ js → (putIo ε js outs)[i]? = ε[i]?
  | [], outs, ε, i, _ => by cases outs <;> rfl
  | j :: js, [], ε, i, _ => rfl
  | j :: js, d :: ds, ε, i, h => by
    unfold putIo
    rw [putIo_out js ds _ i fun z => h (List.mem_cons_of_mem _ z)]
    split
    · rw [List.getElem?_set_ne (fun (z : j = i) => h (by rw [← z]; exact List.mem_cons_self))]
    · rfl
theorem putIo_in : ∀ (js : List Nat) (outs : List D) (ε : Ev) (n i : Nat) (d : D) (s : Sl), js.Nodup → js[n]? = some i → outs[n]? = some d → ε[i]? = some s → (putIo ε js outs)[i]? = some (s.with d)
  | [], outs, ε, n, i, d, s, _, e, _, _ => by simp at e
  | j :: js, [], ε, n, i, d, s, _, _, e, _ => by simp at e
  | j :: js, d' :: ds, ε, n, i, d, s, nd, e1, e2, e3 => by
    rw [List.nodup_cons] at nd
    unfold putIo
    cases n with
    | zero =>
      simp at e1 e2
      subst e1 e2
      rw [putIo_out js ds _ j nd.1, e3]
      exact List.getElem?_set_self (List.getElem?_eq_some_iff.mp e3).1
    | succ n =>
      have e1 : js[n]? = some i := by simpa using e1
      have ne : j ≠ i := fun z => nd.1 (z ▸ List.mem_of_getElem? e1)
      refine putIo_in js ds _ n i d s nd.2 e1 (by simpa using e2) ?_
      split
      · rw [List.getElem?_set_ne ne]; exact e3
      · exact e3
section
variable {G : Gx} {X : Cx} {W : WX} {C : Fr} {σ : L2.St} {ε : Ev} {H H' : Hp} {F : Addr → Prop}
theorem putIo_cases {js : List Nat} {outs : List D} (nd : js.Nodup) (hl : outs.length = js.length) {i : Nat} {s : Sl} (h : (putIo ε js outs)[i]? = some s) :
    (i ∉ js ∧ ε[i]? = some s) ∨ ∃ (n : Nat) (s0 : Sl) (d : D), js[n]? = some i ∧ outs[n]? = some d ∧ ε[i]? = some s0 ∧ s = s0.with d := by
  by_cases c : i ∈ js
  · obtain ⟨n, hn, e⟩ := List.getElem_of_mem c
    have e1 : js[n]? = some i := by rw [List.getElem?_eq_getElem hn, e]
    have e2 : outs[n]? = some outs[n] := List.getElem?_eq_getElem (by omega)
    have hi : i < ε.length := by
      have := (List.getElem?_eq_some_iff.mp h).1
      rwa [putIo_len] at this
    have e3 := List.getElem?_eq_getElem hi
    have := putIo_in js outs ε n i _ _ nd e1 e2 e3
    rw [this] at h
    cases h
    exact .inr ⟨n, _, _, e1, e2, e3, rfl⟩
  · rw [putIo_out js outs ε i c] at h
    exact .inl ⟨c, h⟩
/-- the objects at as (slots js) are written -/
theorem Ok.after {js : List Nat} {as : List Addr} {outs : List D} {F0' : Addr → Prop} (k : Ok G C H σ ε) (hj : js.length = as.length) (ho : outs.length = js.length)
    (hs : ∀ (n j : Nat) (a : Addr), js[n]? = some j → as[n]? = some a → σ[j]? = some (some (.ref a)) ∧ ∃ s, ε[j]? = some s ∧ s.mut = true) (nd : js.Nodup)
    (kp : ∀ b o, H b = some o → b ∉ as → NT o → H' b = some o) (al : ∀ b, H' b = none → H b = none) (tb : ∀ p ∈ G.T, LamX.TabS H' p.1 p.2) (h0 : ∀ q, C.F0 q → F0' q) (h1 : ∀ q, F0' q → C.F0 q ∨ (H q = none ∧ H' q ≠ none))
    (tops : ∀ (n : Nat) (a : Addr) (d : D), as[n]? = some a → outs[n]? = some d → Top G H' (fun q => F0' q ∨ own σ ε q) a d) :
    Ok G { C with F0 := F0' } H' σ (putIo ε js outs) ∧ ∀ b, own σ (putIo ε js outs) b → own σ ε b := by
  have hs2 : ∀ (n j : Nat), js[n]? = some j → ∃ a, as[n]? = some a ∧ σ[j]? = some (some (.ref a)) ∧ ∃ s, ε[j]? = some s ∧ s.mut = true := fun n j e => by
    have hn : n < as.length := by rw [← hj]; exact (List.getElem?_eq_some_iff.mp e).1
    have e2 := List.getElem?_eq_getElem hn
    exact ⟨_, e2, hs n j _ e e2⟩
  have wm : ∀ {i : Nat} {s : Sl}, (putIo ε js outs)[i]? = some s → s.mut = true → ∃ s0, ε[i]? = some s0 ∧ s0.mut = true := fun {i s} e m => by
    rcases putIo_cases nd ho e with ⟨_, e⟩ | ⟨n, s0, d, e1, e2, e3, _⟩
    · exact ⟨s, e, m⟩
    · obtain ⟨a, _, _, s', e4, m4⟩ := hs2 n i e1
      exact ⟨s', e4, m4⟩
  have o1 : ∀ b, own σ (putIo ε js outs) b → own σ ε b := fun b ⟨i, s, e, m, q⟩ => by
    obtain ⟨s0, e0, m0⟩ := wm e m
    exact ⟨i, s0, e0, m0, q⟩
  -- where an owned address stands among as
  have asj : ∀ {i : Nat} {s : Sl} {p : Addr}, ε[i]? = some s → s.mut = true → σ[i]? = some (some (.ref p)) → i ∉ js → p ∉ as := fun {i s p} e m q hi hp => by
    obtain ⟨n, hn, e1⟩ := List.getElem_of_mem hp
    have hn2 : n < js.length := by omega
    obtain ⟨a, ea, q2, s2, e2, m2⟩ := hs2 n _ (List.getElem?_eq_getElem hn2)
    rw [List.getElem?_eq_getElem hn, e1] at ea
    cases ea
    have := k.inj i _ s s2 p e m e2 m2 q q2
    exact hi (this ▸ List.getElem_mem hn2)
  have ownAs : ∀ a ∈ as, own σ ε a := fun a ha => by
    obtain ⟨n, hn, e1⟩ := List.getElem_of_mem ha
    have hn2 : n < js.length := by omega
    obtain ⟨a', ea, q2, s2, e2, m2⟩ := hs2 n _ (List.getElem?_eq_getElem hn2)
    rw [List.getElem?_eq_getElem hn, e1] at ea
    cases ea
    exact ⟨_, s2, e2, m2, q2⟩
  have mv : Mv H H' (C.F σ ε) (Fr.F { C with F0 := F0' } σ (putIo ε js outs)) :=
    ⟨fun b o e n t => kp b o e (fun z => n (.inr (ownAs b z))) t, fun b z => z.elim (fun q => (h1 b q).imp .inl And.left) fun q => .inl (.inr (o1 b q))⟩
  have mv2 : Mv H' H' (fun q => F0' q ∨ own σ ε q) (Fr.F { C with F0 := F0' } σ (putIo ε js outs)) := Mv.less fun b z => z.imp id (o1 b)
  refine ⟨⟨by rw [putIo_len]; exact k.len, ?_, ?_, ?_, ?_, ?_, ?_, ?_, ?_, ?_, ?_, tb, fun b e => k.h0 b (al b e)⟩, o1⟩
  · intro b o e n t
    refine kp b o (k.kept b o e n t) (fun z => ?_) t
    obtain ⟨i, s, e1, m, q⟩ := ownAs b z
    cases s with
    | no => cases m
    | sh d => cases m
    | ow d => have := k.new i d b e1 q; rw [e] at this; cases this
    | io d =>
      obtain ⟨a, ha⟩ := k.ioB i d e1
      obtain ⟨q2, _⟩ := k.ioA i a ha
      rw [q] at q2; cases q2
      exact n i ha
  · intro i j s t p e1 m1 e2 m2 q1 q2
    obtain ⟨s1, e1, m1⟩ := wm e1 m1
    obtain ⟨s2, e2, m2⟩ := wm e2 m2
    exact k.inj i j s1 s2 p e1 m1 e2 m2 q1 q2
  · intro i d p e q
    rcases putIo_cases nd ho e with ⟨_, e⟩ | ⟨n, s0, d', e1, e2, e3, e4⟩
    · exact k.new i d p e q
    · cases s0 with
      | ow d0 => exact k.new i d0 p e3 q
      | io d0 => cases e4
      | no =>
        obtain ⟨a, _, _, s', e5, m5⟩ := hs2 n i e1
        rw [e3] at e5; cases e5; cases m5
      | sh d0 =>
        obtain ⟨a, _, _, s', e5, m5⟩ := hs2 n i e1
        rw [e3] at e5; cases e5; cases m5
  · intro p z w
    have z := o1 p z
    rcases h1 p w with w | ⟨w, _⟩
    · exact k.nf p z w
    · obtain ⟨o, eo⟩ := k.own_some z
      rw [w] at eo; cases eo
  · intro p z
    rcases h1 p z with w | ⟨_, w⟩
    · intro e
      have nas : p ∉ as := fun ha => k.nf p (ownAs p ha) w
      exact k.f0 p w (al p e)
    · exact w
  · intro i d e
    rcases putIo_cases nd ho e with ⟨_, e⟩ | ⟨n, s0, d', e1, e2, e3, e4⟩
    · obtain ⟨v, q, r⟩ := k.sh i d e
      exact ⟨v, q, r.mv mv⟩
    · have := with_mut s0 d'
      rw [← e4] at this; cases this
  · intro i d e
    rcases putIo_cases nd ho e with ⟨hi, e⟩ | ⟨n, s0, d', e1, e2, e3, e4⟩
    · obtain ⟨p, q, r⟩ := k.ow i d e
      obtain ⟨o, eo⟩ := r.some
      exact ⟨p, q, r.mv mv (by rw [eo, kp p o eo (asj e rfl q hi) (r.nt eo)])⟩
    · obtain ⟨a, ea, q, _⟩ := hs2 n i e1
      have t := tops n a d' ea e2
      have : d = d' := by cases s0 <;> cases e4 <;> rfl
      subst this
      exact ⟨a, q, t.mv mv2 rfl⟩
  · intro i d e
    rcases putIo_cases nd ho e with ⟨hi, e⟩ | ⟨n, s0, d', e1, e2, e3, e4⟩
    · obtain ⟨p, q, r⟩ := k.io i d e
      obtain ⟨o, eo⟩ := r.some
      exact ⟨p, q, r.mv mv (by rw [eo, kp p o eo (asj e rfl q hi) (r.nt eo)])⟩
    · obtain ⟨a, ea, q, _⟩ := hs2 n i e1
      have t := tops n a d' ea e2
      have : d = d' := by cases s0 <;> cases e4 <;> rfl
      subst this
      exact ⟨a, q, t.mv mv2 rfl⟩
  · intro i a h
    obtain ⟨q, d, e⟩ := k.ioA i a h
    refine ⟨q, ?_⟩
    by_cases c : i ∈ js
    · obtain ⟨n, hn, e1⟩ := List.getElem_of_mem c
      have e2 : outs[n]? = some outs[n] := List.getElem?_eq_getElem (by omega)
      exact ⟨_, putIo_in js outs ε n i _ _ nd (by rw [List.getElem?_eq_getElem hn, e1]) e2 e⟩
    · exact ⟨d, by rw [putIo_out js outs ε i c]; exact e⟩
  · intro i d e
    rcases putIo_cases nd ho e with ⟨hi, e⟩ | ⟨n, s0, d', e1, e2, e3, e4⟩
    · exact k.ioB i d e
    · cases s0 with
      | io d0 => exact k.ioB i d0 e3
      | _ => cases e4

/-! ### a def's promise -/
inductive Rf where
  | ok (r : Fv) (outs : List D) | exc (x : Xc) (outs : List D) | no
def ioAs : List Bool → List V → List Addr
  | true :: m, .ref a :: vs => a :: ioAs m vs
  | _ :: m, _ :: vs => ioAs m vs
  | _, _ => []
inductive ArgR (G : Gx) (H : Hp) (F : Addr → Prop) : List Bool → List V → List D → Prop
  | nil : ArgR G H F [] [] []
  | val {m : List Bool} {v : V} {vs : List V} {d : D} {ds : List D} : Rp G H F v d → ArgR G H F m vs ds → ArgR G H F (false :: m) (v :: vs) (d :: ds)
  | io {m : List Bool} {a : Addr} {vs : List V} {d : D} {ds : List D} : Top G H F a d → F a → ArgR G H F m vs ds → ArgR G H F (true :: m) (.ref a :: vs) (d :: ds)
def Kpt (G : Gx) (as : List Addr) (H H' : Hp) : Prop := (∀ b o, H b = some o → b ∉ as → NT o → H' b = some o) ∧ (∀ b, H' b = none → H b = none) ∧ ∀ p ∈ G.T, LamX.TabS H' p.1 p.2
def Outs (G : Gx) (H : Hp) (F : Addr → Prop) (as : List Addr) (outs : List D) : Prop := outs.length = as.length ∧ ∀ (n : Nat) (a : Addr) (d : D), as[n]? = some a → outs[n]? = some d → Top G H F a d
def ResR (G : Gx) (H : Hp) (F : Addr → Prop) (H' : Hp) (as : List Addr) (outs : List D) (v : V) : Fv → Prop
  | .sh d => Outs G H' F as outs ∧ Rp G H' F v d
  | .fr d => ∃ p, v = .ref p ∧ H p = none ∧ Outs G H' (fun q => F q ∨ q = p) as outs ∧ Top G H' (fun q => F q ∨ q = p) p d
  | .at _ => False
def PostF (G : Gx) (H : Hp) (F : Addr → Prop) (as : List Addr) (Q : VK) (E : XK) : Rf → Prop
  | .ok r outs => ∀ v H', Kpt G as H H' → ResR G H F H' as outs v r → Q v H'
  | .exc x outs => ∀ c d H', Kpt G as H H' → Outs G H' F as outs → XR G H' F c d x → E c d H'
  | .no => False
def spP (G : Gx) (mask : List Bool) (f : List D → Rf) : Sp := fun vs H Q E => ∃ F ds, FOld H F ∧ (∀ p ∈ G.T, LamX.TabS H p.1 p.2) ∧ ArgR G H F mask vs ds ∧ (ioAs mask vs).Nodup ∧ PostF G H F (ioAs mask vs) Q E (f ds)
theorem ArgR.len {m : List Bool} {vs : List V} {ds : List D} (h : ArgR G H F m vs ds) : vs.length = m.length ∧ ds.length = m.length := by
  induction h with
  | nil => exact ⟨rfl, rfl⟩
  | val _ _ ih => simp [ih.1, ih.2]
  | io _ _ _ ih => simp [ih.1, ih.2]

/-! ### arguments are passed -/
def passA : List Bool → List Fv → Ev → Option (List D × List Nat × Ev)
  | [], [], ε => some ([], [], ε)
  | false :: m, .sh d :: fs, ε => (passA m fs ε).map fun r => (d :: r.1, r.2.1, r.2.2)
  | false :: m, .at j :: fs, ε => match ε[j]? with
    | some (.sh d) => (passA m fs ε).map fun r => (d :: r.1, r.2.1, r.2.2)
    | some (.ow d) => (passA m fs (ε.set j (.sh d))).map fun r => (d :: r.1, r.2.1, r.2.2)
    | _ => none
  | true :: m, .at j :: fs, ε => (passA m fs ε).bind fun r => match r.2.2[j]? with
    | some (.ow d) => if j ∈ r.2.1 then none else some (d :: r.1, j :: r.2.1, r.2.2)
    | some (.io d) => if j ∈ r.2.1 then none else some (d :: r.1, j :: r.2.1, r.2.2)
    | _ => none
  | _, _, _ => none
theorem passA_sound : ∀ {m : List Bool} {fs : List Fv} {vs : List V} {ε : Ev} {ds : List D} {js : List Nat} {ε' : Ev}, Ok G C H σ ε → VRs G C H σ ε vs fs → passA m fs ε = some (ds, js, ε') →
    Ok G C H σ ε' ∧ (∀ b, own σ ε' b → own σ ε b) ∧ ArgR G H (C.F σ ε') m vs ds ∧ js.Nodup ∧ js.length = (ioAs m vs).length ∧
      ∀ (n j : Nat) (a : Addr), js[n]? = some j → (ioAs m vs)[n]? = some a → σ[j]? = some (some (.ref a)) ∧ ∃ s, ε'[j]? = some s ∧ s.mut = true
  | [], [], vs, ε, ds, js, ε', k, r, h => by
    cases r; cases h
    exact ⟨k, fun _ z => z, .nil, .nil, rfl, fun n j a e => by simp at e⟩
  | false :: m, .sh d :: fs, _, ε, ds, js, ε', k, r, h => by
    cases r with
    | sh r rs =>
      simp only [passA] at h
      cases q : passA m fs ε with
      | none => rw [q] at h; cases h
      | some p =>
        rw [q] at h; cases h
        obtain ⟨k1, o, a, nd, hl, hj⟩ := passA_sound k rs q
        refine ⟨k1, o, .val (r.mv (Mv.less fun b z => z.imp id (o b))) a, nd, ?_, ?_⟩ <;> (unfold ioAs; assumption)
  | false :: m, .at j :: fs, _, ε, ds, js, ε', k, r, h => by
    cases r with
    | @«at» v _ vs _ r rs =>
      simp only [passA] at h
      cases q0 : ε[j]? with
      | none => rw [q0] at h; cases h
      | some s =>
        rw [q0] at h
        cases s with
        | no => cases h
        | io d => cases h
        | sh d =>
          dsimp only at h
          cases q : passA m fs ε with
          | none => rw [q] at h; cases h
          | some p =>
            rw [q] at h; cases h
            obtain ⟨k1, o, a, nd, hl, hj⟩ := passA_sound k rs q
            obtain ⟨u, e1, ru⟩ := k.sh j d q0
            rw [r] at e1; cases e1
            refine ⟨k1, o, .val (ru.mv (Mv.less fun b z => z.imp id (o b))) a, nd, ?_, ?_⟩ <;> (unfold ioAs; assumption)
        | ow d =>
          dsimp only at h
          cases q : passA m fs (ε.set j (.sh d)) with
          | none => rw [q] at h; cases h
          | some p =>
            rw [q] at h; cases h
            obtain ⟨k0, ru, o0⟩ := k.share q0 r
            obtain ⟨k1, o, a, nd, hl, hj⟩ := passA_sound k0 (rs.stp (Stp.less o0)) q
            refine ⟨k1, fun b z => o0 b (o b z), .val (ru.mv (Mv.less fun b z => z.imp id (o b))) a, nd, ?_, ?_⟩ <;> (unfold ioAs; assumption)
  | true :: m, .at j :: fs, _, ε, ds, js, ε', k, r, h => by
    cases r with
    | @«at» v _ vs _ r rs =>
      simp only [passA] at h
      cases q : passA m fs ε with
      | none => rw [q] at h; cases h
      | some p =>
        obtain ⟨ds1, js1, ε1⟩ := p
        rw [q] at h
        obtain ⟨k1, o, a, nd, hl, hj⟩ := passA_sound k rs q
        simp only [Option.bind_some] at h
        have fin : ∀ (s : Sl) (d : D), ε1[j]? = some s → s.mut = true → (∃ p, v = .ref p ∧ Top G H (C.F σ ε1) p d) → (if j ∈ js1 then none else some (d :: ds1, j :: js1, ε1)) = some (ds, js, ε') →
            Ok G C H σ ε' ∧ (∀ b, own σ ε' b → own σ ε b) ∧ ArgR G H (C.F σ ε') (true :: m) (v :: vs) ds ∧ js.Nodup ∧ js.length = (ioAs (true :: m) (v :: vs)).length ∧
              ∀ (n j : Nat) (a : Addr), js[n]? = some j → (ioAs (true :: m) (v :: vs))[n]? = some a → σ[j]? = some (some (.ref a)) ∧ ∃ s, ε'[j]? = some s ∧ s.mut = true := by
          rintro s d es ms ⟨p, rfl, t⟩ hh
          split at hh
          · cases hh
          · rename_i hn
            cases hh
            refine ⟨k1, o, .io t (.inr ⟨j, s, es, ms, r⟩) a, List.nodup_cons.mpr ⟨hn, nd⟩, by simp [ioAs, hl], ?_⟩
            intro n i b e1 e2
            cases n with
            | zero =>
              simp [ioAs] at e1 e2
              subst e1 e2
              exact ⟨r, s, es, ms⟩
            | succ n => exact hj n i b (by simpa using e1) (by simpa [ioAs] using e2)
        cases q1 : ε1[j]? with
        | none => rw [q1] at h; cases h
        | some s =>
          rw [q1] at h
          cases s with
          | no => cases h
          | sh d => cases h
          | ow d =>
            obtain ⟨p, e1, t⟩ := k1.ow j d q1
            rw [r] at e1; cases e1
            exact fin _ d q1 rfl ⟨p, rfl, t⟩ h
          | io d =>
            obtain ⟨p, e1, t⟩ := k1.io j d q1
            rw [r] at e1; cases e1
            exact fin _ d q1 rfl ⟨p, rfl, t⟩ h
  | [], .sh _ :: _, _, _, _, _, _, _, _, h => by cases h
  | [], .at _ :: _, _, _, _, _, _, _, _, h => by cases h
  | [], .fr _ :: _, _, _, _, _, _, _, _, h => by cases h
  | _ :: _, [], _, _, _, _, _, _, _, h => by rename_i b _ _ _ _ _ _ _ _; cases b <;> cases h
  | true :: _, .sh _ :: _, _, _, _, _, _, _, _, h => by cases h
  | b :: _, .fr _ :: _, _, _, _, _, _, _, _, h => by cases b <;> cases h
def callF (mask : List Bool) (f : List D → Rf) (fs : List Fv) (ε : Ev) : Re Fv := match passA mask fs ε with
  | some (ds, js, ε1) => match f ds with
    | .ok r outs => .ok r (putIo ε1 js outs)
    | .exc x outs => .exc x (putIo ε1 js outs)
    | .no => .no
  | none => .no
theorem ioAs_nodup {js : List Nat} {as : List Addr} {ε : Ev} (k : Ok G C H σ ε) (nd : js.Nodup) (hl : js.length = as.length)
    (hj : ∀ (n j : Nat) (a : Addr), js[n]? = some j → as[n]? = some a → σ[j]? = some (some (.ref a)) ∧ ∃ s, ε[j]? = some s ∧ s.mut = true) : as.Nodup := by
  refine List.pairwise_iff_getElem.mpr fun i j hi hlt hij e => ?_
  obtain ⟨q1, s1, e1, m1⟩ := hj i _ _ (List.getElem?_eq_getElem (by omega)) (List.getElem?_eq_getElem hi)
  obtain ⟨q2, s2, e2, m2⟩ := hj j _ _ (List.getElem?_eq_getElem (by omega)) (List.getElem?_eq_getElem hlt)
  rw [e] at q1
  have z := k.inj _ _ s1 s2 _ e1 m1 e2 m2 q1 q2
  have := (List.getElem_inj nd).mp z
  omega
/-- a call by its promise -/
theorem callF_sound {mask : List Bool} {f : List D → Rf} {fs : List Fv} {vs : List V} {Q : VK} (ok : Ok G C H σ ε) (vr : VRs G C H σ ε vs fs) (p : PostE G W C σ ε H Q (callF mask f fs ε)) : spP G mask f vs H Q (WE W σ) := by
  unfold callF at p
  cases q : passA mask fs ε with
  | none => rw [q] at p; exact p.elim
  | some r =>
    obtain ⟨ds, js, ε1⟩ := r
    rw [q] at p
    obtain ⟨k, o, a, nd, hl, hj⟩ := passA_sound ok vr q
    refine ⟨C.F σ ε1, ds, k.fold, k.tb, a, ioAs_nodup k nd hl hj, ?_⟩
    dsimp only at p
    have st0 : Stp σ ε σ ε1 H H := Stp.less o
    have ownAs : ∀ a ∈ ioAs mask vs, own σ ε1 a := fun a ha => by
      obtain ⟨n, hn, e1⟩ := List.getElem_of_mem ha
      obtain ⟨q2, s2, e2, m2⟩ := hj n _ _ (List.getElem?_eq_getElem (by omega)) (List.getElem?_eq_getElem hn)
      rw [e1] at q2
      exact ⟨_, s2, e2, m2, q2⟩
    have stp : ∀ {H' : Hp} {outs : List D}, Kpt G (ioAs mask vs) H H' → (∀ b, own σ (putIo ε1 js outs) b → own σ ε1 b) → Stp σ ε σ (putIo ε1 js outs) H H' := fun {H' outs} kp o2 =>
      st0.trans ⟨fun b u e n t => kp.1 b u e (fun z => n (ownAs b z)) t, fun b z => .inl (o2 b z), kp.2.1⟩
    cases e : f ds with
    | no => rw [e] at p; exact p.elim
    | exc x outs =>
      rw [e] at p
      intro c d H' kp ho xr
      have ⟨k2, o2⟩ := Ok.after (F0' := C.F0) k hl (by rw [ho.1, hl]) hj nd kp.1 kp.2.1 kp.2.2 (fun _ z => z) (fun _ z => .inl z) ho.2
      refine p c d H' (stp kp o2) k2 ?_
      obtain ⟨g, xr⟩ := xr
      refine ⟨g, xr.imp id ?_⟩
      rintro ⟨a, ws, e1, e2, e3, r⟩
      exact ⟨a, ws, e1, e2, e3, r.mv (Mv.less fun b z => z.imp id (o2 b))⟩
    | ok r outs =>
      rw [e] at p
      intro v H' kp rr
      cases r with
      | «at» i => exact rr.elim
      | sh d =>
        obtain ⟨ho, r⟩ := rr
        have ⟨k2, o2⟩ := Ok.after (F0' := C.F0) k hl (by rw [ho.1, hl]) hj nd kp.1 kp.2.1 kp.2.2 (fun _ z => z) (fun _ z => .inl z) ho.2
        exact p v H' (stp kp o2) k2 (r.mv (Mv.less fun b z => z.imp id (o2 b)))
      | fr d =>
        obtain ⟨a, rfl, na, ho, t⟩ := rr
        have na' : H' a ≠ none := by obtain ⟨u, eu⟩ := t.some; rw [eu]; intro z; cases z
        have inc : ∀ q, ((C.F0 q ∨ q = a) ∨ own σ ε1 q) → (C.F σ ε1 q ∨ q = a) := fun q z => by
          rcases z with (z | z) | z
          · exact .inl (.inl z)
          · exact .inr z
          · exact .inl (.inr z)
        have ⟨k2, o2⟩ := Ok.after (F0' := fun q => C.F0 q ∨ q = a) k hl (by rw [ho.1, hl]) hj nd kp.1 kp.2.1 kp.2.2 (fun _ z => .inl z)
          (fun q z => z.imp id (fun (e : q = a) => by rw [e]; exact ⟨na, na'⟩))
          (fun n b d' e1 e2 => (ho.2 n b d' e1 e2).mv (Mv.less inc) rfl)
        have k3 : Ok G (C.add a) H' σ (putIo ε1 js outs) := k2
        refine p _ H' (stp kp o2) k3.unadd ⟨a, rfl, na, ?_, k3, t.mv (Mv.less fun q z => inc q (z.imp id (o2 q))) rfl⟩
        intro z
        exact (k.fresh na).2 (z.imp id (o2 a))
end
end PL

namespace PL
open PySem PySem.Spec PyProof.Rows L2 AB
open TL (tl)

/-- what is known of a context -/
structure Cok (G : Gx) (X : Cx) (W : WX) (k : Nat) : Prop where
  hK : X.K = G.K
  hm : X.mg = G.mg
  hP : X.prog = G.prog
  hw : X.w = G.w
  hb : X.base = G.base
  calm : X.calm = true
  hr : Room k X.A
  gd : X.A.guards = some []
  tk : Takes X W
  po : PassesOwn (model X.prog X.w) X.A X.env X.xe
abbrev W0 : WX := fun _ _ _ _ => False
abbrev FnP (G : Gx) (k : Nat) (f : Addr) (fd : FuncData) (ps : List Str) (mask : List Bool) (den : List D → Rf) : Prop :=
  FnG G.prog G.w G.K G.mg G.base (L2.CX G.prog G.w) k f fd ps (spP G mask den)
section
variable {G : Gx} {X : Cx} {W : WX} {C : Fr} {σ : L2.St} {ε : Ev} {H H' : Hp} {F : Addr → Prop} {k : Nat}
theorem Cok.blk (c : Cok G X W k) {s : Shared} {H : Hp} {scope : Scope} {cenv : Env} {fp : List Addr} : Cok G (X.blk s H scope cenv fp) W0 k :=
  ⟨c.hK, c.hm, c.hP, c.hw, c.hb, c.calm, c.hr, c.gd, takes0, PassesOwn.never⟩
theorem Cok.u (c : Cok G X W k) : X.A.units + 64 < cLine := c.hr.units
theorem Cok.u1 (c : Cok G X W k) : X.A.units + 65 < cLine := by have := c.hr.un; omega

/-! ### calls -/
theorem run_fnG {CX : CXT} {j : Nat} {f : Addr} {fd : FuncData} {ps : List Str} {sp : Sp} {E : L2.St → XK} {pins : List (Addr × Obj)} {s : Shared} {Q : VK} {us : List Value} {vs : List V} (F : FnG X.prog X.w X.K X.mg X.base CX j f fd ps sp)
    (hr : Room j X.A) (hg : X.A.guards = some []) (hb : Binds X.K fd ps []) (hx : PassesAt CX X σ (E σ)) (I : L2.Inv X pins σ H s) (r : Vals vs us) (h : sp vs H Q (E σ)) :
    wpAny (model X.prog X.w) X.A (call (.ref f) us) (EP X pins σ Q) X.xe s := by
  have hl : us.length = ps.length := by rw [← r.length]; exact F.gl _ _ _ _ h
  have b := hb s us I.kIn (by rw [List.append_nil]; exact hl)
  rw [List.append_nil] at b
  refine wpAny_call (codeAny_mono (F.go X.A X.stack s H ⟨us, []⟩ us vs Q (E σ) hr hg I.env0 b r h) fun r s' hq => ?_)
  cases r with
  | error e => exact hx pins H s e s' I hq
  | ok fl =>
    cases fl with
    | ret u => exact I.after hq
    | next => exact False.elim hq
    | brk => exact False.elim hq
    | cont => exact False.elim hq
section
variable {j : Nat} {f : Addr} {fd : FuncData} {ps : List Str} {mask : List Bool} {den : List D → Rf} {x : Str} {p pos : Pos} {e : Expr} {es : List Expr} {da : Dn (List Fv)}
theorem pe_callG {sp : Sp} {t : TA} (c : Cok G X W k) (F : FnG G.prog G.w G.K G.mg G.base (L2.CX G.prog G.w) j f fd ps sp) (hj : j ≤ k) (hg : Gl X x) (hm : G.mg x = some (.ref f)) (hk : PySem.W.keepIn G.K (.ref f) = true) (hb : Binds G.K fd ps [])
    (ha : PA X (e :: es) t) (hdb : (x == ("__debug__" : Str)) = false := by decide) (he : starEach (e :: es) X.env = (false, eval e X.env) :: starEach es X.env := by rfl) (hpl : (backTo pos (starEach es X.env)).any (·.1) = false := by rfl) :
    PE X (.Call (.Name x p) (e :: es) [] pos) (tCallS sp (WE W) t) := by
  have F' : FnG X.prog X.w X.K X.mg X.base (L2.CX X.prog X.w) j f fd ps sp := by rw [c.hP, c.hw, c.hK, c.hm, c.hb]; exact F
  rw [← c.hm] at hm
  rw [← c.hK] at hk hb
  refine ⟨fun pins s σ H Q I h => ?_⟩
  refine wpAny_Call_Name_kw (ld_glob I hg hm ?_ hdb)
  refine PySem.W.callWith_K (h₀ := X.base) I.ok.mod.kin hk (thn (ha.run pos pins s σ H _ I h) fun us s1 ⟨vs, H1, I1, r, q⟩ => ⟨I1.kIn, ?_⟩) he hpl
  exact run_fnG F' (c.hr.mono hj) c.gd hb (passAt c.tk σ) I1 r q
theorem pe_callG0 {sp : Sp} (c : Cok G X W k) (F : FnG G.prog G.w G.K G.mg G.base (L2.CX G.prog G.w) j f fd ps sp) (hj : j ≤ k) (hg : Gl X x) (hm : G.mg x = some (.ref f)) (hk : PySem.W.keepIn G.K (.ref f) = true) (hb : Binds G.K fd ps [])
    (hdb : (x == ("__debug__" : Str)) = false := by decide) : PE X (.Call (.Name x p) [] [] pos) (tCallS sp (WE W) tNil) := by
  have F' : FnG X.prog X.w X.K X.mg X.base (L2.CX X.prog X.w) j f fd ps sp := by rw [c.hP, c.hw, c.hK, c.hm, c.hb]; exact F
  rw [← c.hm] at hm
  rw [← c.hK] at hk hb
  refine ⟨fun pins s σ H Q I h => ?_⟩
  refine wpAny_Call_Name_kw (ld_glob I hg hm ?_ hdb)
  exact PySem.W.callWith_K0 I.kIn hk (run_fnG (us := []) F' (c.hr.mono hj) c.gd hb (passAt c.tk σ) I .nil h)
def dCall (mask : List Bool) (den : List D → Rf) (da : Dn (List Fv)) : Dn Fv := fun ε => (da ε).bind (callF mask den)
theorem eCall (c : Cok G X W k) (F : FnP G j f fd ps mask den) (hj : j ≤ k) (hg : Gl X x) (hm : G.mg x = some (.ref f)) (hk : PySem.W.keepIn G.K (.ref f) = true) (hb : Binds G.K fd ps [])
    (ha : PAp G X W (e :: es) da) (hdb : (x == ("__debug__" : Str)) = false := by decide) (he : starEach (e :: es) X.env = (false, eval e X.env) :: starEach es X.env := by rfl) (hpl : (backTo pos (starEach es X.env)).any (·.1) = false := by rfl) :
    PEp G X W (.Call (.Name x p) (e :: es) [] pos) (dCall mask den da) := by
  refine PE.imp (pe_callG c F hj hg hm hk hb ha hdb he hpl) ?_
  rintro σ H Q ⟨C, ε, ok, post⟩
  refine wA_bind (P := PostE G W C σ ε H Q) ok post (fun _ _ h => h) id fun fs ε1 vs H1 st1 ok1 vr p => ?_
  exact callF_sound ok1 vr (PostE.from st1 p)
theorem eCall0 (c : Cok G X W k) (F : FnP G j f fd ps mask den) (hj : j ≤ k) (hg : Gl X x) (hm : G.mg x = some (.ref f)) (hk : PySem.W.keepIn G.K (.ref f) = true) (hb : Binds G.K fd ps [])
    (hdb : (x == ("__debug__" : Str)) = false := by decide) : PEp G X W (.Call (.Name x p) [] [] pos) (dCall mask den aNil) := by
  refine PE.imp (pe_callG0 c F hj hg hm hk hb hdb) ?_
  rintro σ H Q ⟨C, ε, ok, post⟩
  exact callF_sound ok .nil post
end

/-! ### a def's body -/
def startE : List Bool → List D → Ev
  | true :: m, d :: ds => .io d :: startE m ds
  | false :: m, d :: ds => .sh d :: startE m ds
  | _, _ => []
def outsE : List Bool → Ev → Option (List D)
  | true :: m, .io d :: ε => (outsE m ε).map (d :: ·)
  | false :: m, _ :: ε => outsE m ε
  | [], _ => some []
  | _, _ => none
def endF (mask : List Bool) (fl : Fl) (ε : Ev) : Rf := match outsE mask ε with
  | some outs => match fl with
    | .nx => .ok (.sh .non) outs
    | .rt (.sh d) => .ok (.sh d) outs
    | .rt (.fr d) => .ok (.fr d) outs
    | _ => .no
  | none => .no
def bodyF (mask : List Bool) (n : Nat) (den : Dn Fl) (ds : List D) : Rf := match den (startE mask ds ++ List.replicate (n - mask.length) .no) with
  | .ok fl ε => endF mask fl ε
  | .exc x ε => match outsE mask ε with
    | some outs => .exc x outs
    | none => .no
  | .no => .no
theorem startE_len {m : List Bool} {vs : List V} {ds : List D} (h : ArgR G H F m vs ds) : (startE m ds).length = m.length := by
  induction h with
  | nil => rfl
  | val _ _ ih => simp [startE, ih]
  | io _ _ _ ih => simp [startE, ih]
theorem startE_get {m : List Bool} {vs : List V} {ds : List D} (h : ArgR G H F m vs ds) : ∀ {i : Nat} {s : Sl}, (startE m ds)[i]? = some s → ∃ v, vs[i]? = some v ∧
    ((∃ d, s = .sh d ∧ Rp G H F v d) ∨ ∃ a d, s = .io d ∧ v = .ref a ∧ Top G H F a d ∧ F a ∧ m[i]? = some true) := by
  induction h with
  | nil => intro i s e; simp [startE] at e
  | val r _ ih =>
    intro i s e
    cases i with
    | zero => simp [startE] at e; subst e; exact ⟨_, rfl, .inl ⟨_, rfl, r⟩⟩
    | succ i => simpa using ih (by simpa [startE] using e)
  | io t f _ ih =>
    intro i s e
    cases i with
    | zero => simp [startE] at e; subst e; exact ⟨_, rfl, .inr ⟨_, _, rfl, rfl, t, f, rfl⟩⟩
    | succ i => simpa using ih (by simpa [startE] using e)
theorem startE_io {m : List Bool} {vs : List V} {ds : List D} (h : ArgR G H F m vs ds) : ∀ {i : Nat} {a : Addr}, m[i]? = some true → vs[i]? = some (.ref a) → ∃ d, (startE m ds)[i]? = some (.io d) := by
  induction h with
  | nil => intro i a e; simp at e
  | val r _ ih =>
    intro i a e e2
    cases i with
    | zero => simp at e
    | succ i => simpa [startE] using ih (by simpa using e) (by simpa using e2)
  | io t f _ ih =>
    intro i a e e2
    cases i with
    | zero => exact ⟨_, rfl⟩
    | succ i => simpa [startE] using ih (by simpa using e) (by simpa using e2)
theorem ioAs_mem {m : List Bool} {vs : List V} {ds : List D} (h : ArgR G H F m vs ds) {a : Addr} : a ∈ ioAs m vs ↔ ∃ i : Nat, m[i]? = some true ∧ vs[i]? = some (.ref a) := by
  induction h with
  | nil => simp [ioAs]
  | @val m v vs d ds r _ ih =>
    unfold ioAs
    rw [ih]
    constructor
    · rintro ⟨i, e1, e2⟩; exact ⟨i + 1, by simpa using e1, by simpa using e2⟩
    · rintro ⟨i, e1, e2⟩
      cases i with
      | zero => simp at e1
      | succ i => exact ⟨i, by simpa using e1, by simpa using e2⟩
  | @io m b vs d ds t f _ ih =>
    unfold ioAs
    rw [List.mem_cons, ih]
    constructor
    · rintro (rfl | ⟨i, e1, e2⟩)
      · exact ⟨0, rfl, rfl⟩
      · exact ⟨i + 1, by simpa using e1, by simpa using e2⟩
    · rintro ⟨i, e1, e2⟩
      cases i with
      | zero => simp at e2; exact .inl e2.symm
      | succ i => exact .inr ⟨i, by simpa using e1, by simpa using e2⟩
theorem ioAs_inj {m : List Bool} {vs : List V} {ds : List D} (h : ArgR G H F m vs ds) : (ioAs m vs).Nodup → ∀ {i j : Nat} {a : Addr}, m[i]? = some true → vs[i]? = some (.ref a) → m[j]? = some true → vs[j]? = some (.ref a) → i = j := by
  induction h with
  | nil => intro _ i j a e; simp at e
  | @val m v vs d ds r _ ih =>
    intro nd i j a e1 e2 e3 e4
    unfold ioAs at nd
    cases i with
    | zero => simp at e1
    | succ i =>
      cases j with
      | zero => simp at e3
      | succ j => exact congrArg (· + 1) (ih nd (by simpa using e1) (by simpa using e2) (by simpa using e3) (by simpa using e4))
  | @io m b vs d ds t f ar ih =>
    intro nd i j a e1 e2 e3 e4
    unfold ioAs at nd
    rw [List.nodup_cons] at nd
    cases i with
    | zero =>
      cases j with
      | zero => rfl
      | succ j =>
        simp at e2
        subst e2
        exact absurd ((ioAs_mem ar).mpr ⟨j, by simpa using e3, by simpa using e4⟩) nd.1
    | succ i =>
      cases j with
      | zero =>
        simp at e4
        subst e4
        exact absurd ((ioAs_mem ar).mpr ⟨i, by simpa using e1, by simpa using e2⟩) nd.1
      | succ j => exact congrArg (· + 1) (ih nd.2 (by simpa using e1) (by simpa using e2) (by simpa using e3) (by simpa using e4))
theorem outs_ok {T : Addr → D → Prop} {m : List Bool} {vs : List V} {ds : List D} (h : ArgR G H F m vs ds) : ∀ {ε : Ev} {outs : List D}, outsE m ε = some outs →
    (∀ (i : Nat) (a : Addr) (d : D), m[i]? = some true → vs[i]? = some (.ref a) → ε[i]? = some (.io d) → T a d) → outs.length = (ioAs m vs).length ∧ ∀ (n : Nat) (a : Addr) (d : D), (ioAs m vs)[n]? = some a → outs[n]? = some d → T a d := by
  induction h with
  | nil =>
    intro ε outs e _
    simp [outsE] at e
    subst e
    exact ⟨rfl, fun n a d e => by simp [ioAs] at e⟩
  | @val m v vs d ds r _ ih =>
    intro ε outs e hT
    unfold ioAs
    cases ε with
    | nil => cases e
    | cons s ε =>
      simp only [outsE] at e
      exact ih e fun i a d e1 e2 e3 => hT (i + 1) a d (by simpa using e1) (by simpa using e2) (by simpa using e3)
  | @io m b vs d ds t f ar ih =>
    intro ε outs e hT
    unfold ioAs
    cases ε with
    | nil => cases e
    | cons s ε =>
      cases s with
      | io d' =>
        simp only [outsE] at e
        cases q : outsE m ε with
        | none => rw [q] at e; cases e
        | some os =>
          rw [q] at e
          cases e
          obtain ⟨h1, h2⟩ := ih q fun i a d e1 e2 e3 => hT (i + 1) a d (by simpa using e1) (by simpa using e2) (by simpa using e3)
          refine ⟨by simp [h1], fun n a d e1 e2 => ?_⟩
          cases n with
          | zero =>
            simp at e1 e2
            subst e1 e2
            exact hT 0 _ _ rfl rfl rfl
          | succ n => exact h2 n a d (by simpa using e1) (by simpa using e2)
      | _ => cases e
theorem start_get {N : List Str} {vs : List V} {i : Nat} {v : V} (h : vs[i]? = some v) : (L2.start N vs)[i]? = some (some v) := by
  unfold L2.start
  have hi : i < (vs.map some).length := by simpa using (List.getElem?_eq_some_iff.mp h).1
  rw [List.getElem?_append_left hi, List.getElem?_map, h]
  rfl
theorem start_inv {N : List Str} {vs : List V} {i : Nat} {v : V} (h : (L2.start N vs)[i]? = some (some v)) : vs[i]? = some v := by
  unfold L2.start at h
  by_cases hi : i < (vs.map some).length
  · rw [List.getElem?_append_left hi, List.getElem?_map] at h
    cases q : vs[i]? with
    | none => rw [q] at h; cases h
    | some u => rw [q] at h; cases h; rfl
  · rw [List.getElem?_append_right (by omega)] at h
    rw [List.getElem?_replicate] at h
    split at h <;> cases h
theorem noE_get {m : List Bool} {ds : List D} {n i : Nat} {s : Sl} (h : (startE m ds ++ List.replicate n Sl.no)[i]? = some s) : (startE m ds)[i]? = some s ∨ s = .no := by
  by_cases hi : i < (startE m ds).length
  · rw [List.getElem?_append_left hi] at h
    exact .inl h
  · rw [List.getElem?_append_right (by omega), List.getElem?_replicate] at h
    split at h <;> cases h
    exact .inr rfl
theorem Ok.st0 {N : List Str} {m : List Bool} {vs : List V} {ds : List D} (hN : m.length ≤ N.length) (fo : FOld H F) (ar : ArgR G H F m vs ds) (tb : ∀ p ∈ G.T, LamX.TabS H p.1 p.2) (nd : (ioAs m vs).Nodup) :
    Ok G ⟨H, fun i a => m[i]? = some true ∧ vs[i]? = some (.ref a), fun q => F q ∧ q ∉ ioAs m vs⟩ H (L2.start N vs) (startE m ds ++ List.replicate (N.length - m.length) .no) := by
  obtain ⟨l1, l2⟩ := ar.len
  have ow1 : ∀ p, own (L2.start N vs) (startE m ds ++ List.replicate (N.length - m.length) .no) p → p ∈ ioAs m vs := fun p ⟨i, s, e, mu, q⟩ => by
    rcases noE_get e with e | rfl
    · obtain ⟨v, ev, h⟩ := startE_get ar e
      have q := start_inv q
      rw [ev] at q; cases q
      rcases h with ⟨d, rfl, _⟩ | ⟨a, d, rfl, e1, t, f, hm⟩
      · cases mu
      · cases e1
        exact (ioAs_mem ar).mpr ⟨i, hm, ev⟩
    · cases mu
  have hF : ∀ q, Fr.F ⟨H, fun i a => m[i]? = some true ∧ vs[i]? = some (.ref a), fun q => F q ∧ q ∉ ioAs m vs⟩ (L2.start N vs) (startE m ds ++ List.replicate (N.length - m.length) .no) q → F q := fun q z => by
    rcases z with z | z
    · exact z.1
    · obtain ⟨i, hm, ev⟩ := (ioAs_mem ar).mp (ow1 q z)
      obtain ⟨d, e⟩ := startE_io ar hm ev
      obtain ⟨v, ev', h⟩ := startE_get ar e
      rw [ev] at ev'; cases ev'
      rcases h with ⟨d, e2, _⟩ | ⟨a, d, _, e1, t, f, _⟩
      · cases e2
      · cases e1; exact f
  have mv : Mv H H F _ := Mv.less hF
  refine ⟨?_, fun b o e _ _ => e, ?_, ?_, ?_, ?_, ?_, ?_, ?_, ?_, ?_, tb, fun _ e => e⟩
  · unfold L2.start
    simp [startE_len ar]
    omega
  · intro i j s t p e1 m1 e2 m2 q1 q2
    rcases noE_get e1 with e1 | rfl
    · rcases noE_get e2 with e2 | rfl
      · obtain ⟨v, ev, h⟩ := startE_get ar e1
        obtain ⟨u, eu, h'⟩ := startE_get ar e2
        have q1 := start_inv q1
        have q2 := start_inv q2
        rw [ev] at q1; cases q1
        rw [eu] at q2; cases q2
        rcases h with ⟨d, rfl, _⟩ | ⟨a, d, rfl, e1, t, f, hm⟩
        · cases m1
        · rcases h' with ⟨d, rfl, _⟩ | ⟨a', d', rfl, e1', t', f', hm'⟩
          · cases m2
          · exact ioAs_inj ar nd hm ev hm' eu
      · cases m2
    · cases m1
  · intro i d p e q
    rcases noE_get e with e | e
    · obtain ⟨v, ev, h⟩ := startE_get ar e
      rcases h with ⟨d, e2, _⟩ | ⟨a, d, e2, _⟩ <;> cases e2
    · cases e
  · intro p z w
    exact w.2 (ow1 p z)
  · intro p z
    exact fo p z.1
  · intro i d e
    rcases noE_get e with e | e
    · obtain ⟨v, ev, h⟩ := startE_get ar e
      rcases h with ⟨d, e2, r⟩ | ⟨a, d, e2, _⟩
      · cases e2
        exact ⟨v, start_get ev, r.mv mv⟩
      · cases e2
    · cases e
  · intro i d e
    rcases noE_get e with e | e
    · obtain ⟨v, ev, h⟩ := startE_get ar e
      rcases h with ⟨d, e2, _⟩ | ⟨a, d, e2, _⟩ <;> cases e2
    · cases e
  · intro i d e
    rcases noE_get e with e | e
    · obtain ⟨v, ev, h⟩ := startE_get ar e
      rcases h with ⟨d, e2, _⟩ | ⟨a, d, e2, rfl, t, f, _⟩
      · cases e2
      · cases e2
        exact ⟨a, start_get ev, t.mv mv rfl⟩
    · cases e
  · rintro i a ⟨hm, ev⟩
    obtain ⟨d, e⟩ := startE_io ar hm ev
    refine ⟨start_get ev, d, ?_⟩
    rw [List.getElem?_append_left (List.getElem?_eq_some_iff.mp e).1]
    exact e
  · intro i d e
    rcases noE_get e with e | e
    · obtain ⟨v, ev, h⟩ := startE_get ar e
      rcases h with ⟨d, e2, _⟩ | ⟨a, d, e2, rfl, t, f, hm⟩
      · cases e2
      · exact ⟨a, hm, ev⟩
    · cases e
/-- a def is what its body computes -/
theorem fn_plainC {x : Str} {st : Stmt} {f : Addr} {fd : FuncData} {N ps : List Str} {mask : List Bool} {den : Dn Fl} (Fu : Fun G.K x x st f fd) (S : FnScope N ps (defScope st)) (hl : mask.length = ps.length) (hN : mask.length ≤ N.length)
    (body : ∀ (cdv : Value), cdv = fd.code → ∀ (A : Around) (outer : List Env) (s : Shared) (H : Hp) (E : XK), Cok G (cxOf (L2.CX G.prog G.w) G.prog G.w G.K G.mg G.base N x (defScope st) f cdv A outer s H E) (fun c d _ H' => E c d H') k →
      PBp G (cxOf (L2.CX G.prog G.w) G.prog G.w G.K G.mg G.base N x (defScope st) f cdv A outer s H E) (fun c d _ H' => E c d H') (defBody st) den) :
    FnP G (k + 1) f fd ps mask (bodyF mask N.length den) := by
  refine gun_okC Fu S (fun vs H Q E h => ?_) (fun cdv hcode A outer s H vs Q E hr hg h => ?_)
  · obtain ⟨F, ds, _, _, ar, _⟩ := h
    rw [ar.len.1, hl]
  · obtain ⟨F, ds, fo, tb, ar, nd, pf⟩ := h
    refine ⟨_, body cdv hcode A outer s H E ⟨rfl, rfl, rfl, rfl, rfl, rfl, hr, hg, takes_of rfl rfl rfl rfl, passes_of rfl⟩, ?_⟩
    refine ⟨_, _, Ok.st0 hN fo ar tb nd, ?_⟩
    unfold bodyF at pf
    generalize hε : startE mask ds ++ List.replicate (N.length - mask.length) Sl.no = ε0 at pf
    -- the end's frame
    have fin : ∀ {C' : Fr} {σ' : L2.St} {ε' : Ev} {H' : Hp} {F' : Addr → Prop}, Ok G C' H' σ' ε' → C'.io = (fun i a => mask[i]? = some true ∧ vs[i]? = some (.ref a)) →
        (∀ b, F' b → C'.F σ' ε' b) → ∀ outs, outsE mask ε' = some outs → Outs G H' F' (ioAs mask vs) outs := fun {C' σ' ε' H' F'} ok hio inc outs eo => by
      obtain ⟨a1, a2⟩ := outs_ok (T := Top G H' F') ar eo fun i a d hm ev e => by
        obtain ⟨p, q, t⟩ := ok.io i d e
        have := (ok.ioA i a (by rw [hio]; exact ⟨hm, ev⟩)).1
        rw [q] at this; cases this
        exact t.mv (Mv.less inc) rfl
      exact ⟨a1, a2⟩
    have inc : ∀ {σ' : L2.St} {ε' : Ev} {H' : Hp}, Ok G ⟨H, fun i a => mask[i]? = some true ∧ vs[i]? = some (.ref a), fun q => F q ∧ q ∉ ioAs mask vs⟩ H' σ' ε' →
        ∀ b, F b → Fr.F ⟨H, fun i a => mask[i]? = some true ∧ vs[i]? = some (.ref a), fun q => F q ∧ q ∉ ioAs mask vs⟩ σ' ε' b := fun {σ' ε' H'} ok b hb => by
      by_cases c : b ∈ ioAs mask vs
      · obtain ⟨i, hm, ev⟩ := (ioAs_mem ar).mp c
        obtain ⟨q, d, e⟩ := ok.ioA i b ⟨hm, ev⟩
        exact .inr ⟨i, _, e, rfl, q⟩
      · exact .inl ⟨hb, c⟩
    have kpt : ∀ {σ' : L2.St} {ε' : Ev} {H' : Hp}, Ok G ⟨H, fun i a => mask[i]? = some true ∧ vs[i]? = some (.ref a), fun q => F q ∧ q ∉ ioAs mask vs⟩ H' σ' ε' → (∀ b, H' b = none → H b = none) → Kpt G (ioAs mask vs) H H' :=
      fun {σ' ε' H'} ok al => ⟨fun b o e n t => ok.kept b o e (fun i hi => n ((ioAs_mem ar).mpr ⟨i, hi⟩)) t, al, ok.tb⟩
    have endOk : ∀ {σ' : L2.St} {ε' : Ev} {H' : Hp} {v : V} {fv : Fv} {outs : List D}, Ok G ⟨H, fun i a => mask[i]? = some true ∧ vs[i]? = some (.ref a), fun q => F q ∧ q ∉ ioAs mask vs⟩ H' σ' ε' → (∀ b, H' b = none → H b = none) →
        VR G ⟨H, fun i a => mask[i]? = some true ∧ vs[i]? = some (.ref a), fun q => F q ∧ q ∉ ioAs mask vs⟩ H H' σ' ε' v fv → (∀ i, fv ≠ .at i) → outsE mask ε' = some outs → PostF G H F (ioAs mask vs) Q E (.ok fv outs) → Q v H' := by
      intro σ' ε' H' v fv outs ok al vr hat eo pf
      refine pf v H' (kpt ok al) ?_
      cases fv with
      | «at» i => exact absurd rfl (hat i)
      | sh d => exact ⟨fin ok rfl (inc ok) outs eo, vr.mv (Mv.less (inc ok))⟩
      | fr d =>
        obtain ⟨p, rfl, hn, np, kp, t⟩ := vr
        have inc2 : ∀ b, (F b ∨ b = p) → Fr.F (Fr.add ⟨H, fun i a => mask[i]? = some true ∧ vs[i]? = some (.ref a), fun q => F q ∧ q ∉ ioAs mask vs⟩ p) σ' ε' b := fun b z => by
          rcases z with z | z
          · exact (inc ok b z).imp .inl id
          · exact .inl (.inr z)
        exact ⟨p, rfl, hn, fin kp rfl inc2 outs eo, t.mv (Mv.less inc2) rfl⟩
    cases e : den ε0 with
    | no => rw [e] at pf; exact pf.elim
    | exc y ε' =>
      rw [e] at pf
      dsimp only at pf
      cases eo : outsE mask ε' with
      | none => rw [eo] at pf; exact pf.elim
      | some outs =>
        rw [eo] at pf
        intro c d σ' H' st ok xr
        refine pf c d H' (kpt ok st.al) (fin ok rfl (inc ok) outs eo) ?_
        obtain ⟨g, xr⟩ := xr
        refine ⟨g, xr.imp id ?_⟩
        rintro ⟨a, ws, e1, e2, e3, r⟩
        exact ⟨a, ws, e1, e2, e3, r.mv (Mv.less (inc ok))⟩
    | ok fl ε' =>
      rw [e] at pf
      dsimp only at pf
      unfold endF at pf
      cases eo : outsE mask ε' with
      | none => rw [eo] at pf; exact pf.elim
      | some outs =>
        rw [eo] at pf
        cases fl with
        | bk => exact pf.elim
        | ct => exact pf.elim
        | nx => exact fun σ' H' st ok => endOk (fv := .sh .non) ok st.al .non (fun i z => by cases z) eo pf
        | rt fv =>
          cases fv with
          | «at» i => exact pf.elim
          | sh d => exact fun σ' v H' st ok vr => endOk ok st.al vr (fun i z => by cases z) eo pf
          | fr d => exact fun σ' v H' st ok vr => endOk ok st.al vr (fun i z => by cases z) eo pf
theorem fn_plain {x : Str} {st : Stmt} {f : Addr} {fd : FuncData} {N ps : List Str} {mask : List Bool} {den : Dn Fl} (Fu : Fun G.K x x st f fd) (S : FnScope N ps (defScope st)) (hl : mask.length = ps.length) (hN : mask.length ≤ N.length)
    (body : ∀ (cdv : Value) (A : Around) (outer : List Env) (s : Shared) (H : Hp) (E : XK), Cok G (cxOf (L2.CX G.prog G.w) G.prog G.w G.K G.mg G.base N x (defScope st) f cdv A outer s H E) (fun c d _ H' => E c d H') k →
      PBp G (cxOf (L2.CX G.prog G.w) G.prog G.w G.K G.mg G.base N x (defScope st) f cdv A outer s H E) (fun c d _ H' => E c d H') (defBody st) den) :
    FnP G (k + 1) f fd ps mask (bodyF mask N.length den) := fn_plainC Fu S hl hN fun cdv _ => body cdv
end
end PL

namespace PL
open PySem PySem.Spec PyProof.Rows L2 AB
open TL (tl)

/-! ### list comprehensions -/
def wipeE (ε : Ev) : List Nat → Ev
  | [] => ε
  | v :: vs => (wipeE ε vs).set v .no
def resE (ε' ε1 : Ev) : List Nat → Ev
  | [] => ε'
  | v :: vs => resE (ε'.set v (match ε1[v]? with
    | some s => s
    | none => .no)) ε1 vs
def noMut (ε : Ev) (vs : List Nat) : Bool := vs.all fun v => match ε[v]? with
  | some s => !s.mut
  | none => false
def compD (vs : List Nat) (g : Tg) (c : Dn Bool) (e : Dn Fv) : List D → List D → Dn (List D)
  | [], acc => fun ε => .ok acc ε
  | x :: xs, acc => fun ε => match g x ε with
    | none => .no
    | some ε1 => match c ε1 with
      | .ok true ε2 => match e ε2 with
        | .ok fv ε3 => match shr [fv.old] ε3 with
          | some ([d], ε4) => if acc.length < 16000000 then compD vs g c e xs (acc ++ [d]) (wipeE ε4 vs) else .no
          | _ => .no
        | _ => .no
      | .ok false ε2 => compD vs g c e xs acc (wipeE ε2 vs)
      | _ => .no
def dLc (di : Dn (List D)) (vs : List Nat) (g : Tg) (c : Dn Bool) (e : Dn Fv) : Dn Fv := fun ε => (di ε).bind fun xs ε1 =>
  if noMut ε1 vs = true then (compD vs g c e xs [] (wipeE ε1 vs)).bind fun ds ε2 => .ok (.fr (.lst ds)) (resE ε2 ε1 vs) else .no
section
variable {G : Gx} {X : Cx} {W : WX} {C : Fr} {σ : L2.St} {ε : Ev} {H H' : Hp} {F : Addr → Prop} {k : Nat}
theorem Ok.wip (k : Ok G C H σ ε) : ∀ (vs : List Nat), (∀ v ∈ vs, ∀ a, ¬C.io v a) → Ok G C H (wipe σ vs) (wipeE ε vs) ∧ ∀ b, own (wipe σ vs) (wipeE ε vs) b → own σ ε b
  | [], _ => ⟨k, fun _ z => z⟩
  | v :: vs, h => by
    obtain ⟨k1, o⟩ := Ok.wip k vs fun i hi => h i (List.mem_cons_of_mem _ hi)
    refine ⟨k1.put rfl (fun d e => ?_) (fun d e => by cases e), fun b z => o b (own_set' rfl z)⟩
    obtain ⟨a, ha⟩ := k1.ioB v d e
    exact h v List.mem_cons_self a ha
theorem wipe_none {σ : L2.St} {v : Nat} {vs : List Nat} (h : v ∈ vs) {u : V} : (wipe σ vs)[v]? ≠ some (some u) := fun e => (wipe_some e).2 h
theorem Ok.restore {ε1 : Ev} {Fs : Addr → Prop} : ∀ (vs : List Nat) {ε' : Ev}, vs.Nodup → Ok G C H (wipe σ vs) ε' → (∀ b, C.F (wipe σ vs) ε' b → Fs b) → (∀ v ∈ vs, v < σ.length) → (∀ v ∈ vs, ∃ s, ε1[v]? = some s ∧ s.mut = false ∧ ∀ d, s = .sh d → ∃ u, σ[v]? = some (some u) ∧ Rp G H Fs u d) →
    Ok G C H σ (resE ε' ε1 vs) ∧ ∀ b, own σ (resE ε' ε1 vs) b → own (wipe σ vs) ε' b
  | [], ε', _, k, _, _, _ => ⟨k, fun _ z => z⟩
  | v :: vs, ε', nd, k, inc, hlen, h => by
    rw [List.nodup_cons] at nd
    obtain ⟨s, e1, ms, hs⟩ := h v List.mem_cons_self
    unfold resE
    rw [e1]
    dsimp only
    have hl : v < σ.length := hlen v List.mem_cons_self
    have eσ : σ[v]? = some σ[v] := List.getElem?_eq_getElem hl
    have back : (L2.wipe σ (v :: vs)).set v σ[v] = L2.wipe σ vs := by
      show ((L2.wipe σ vs).set v none).set v σ[v] = L2.wipe σ vs
      rw [List.set_set]
      exact set_self ((wipe_out nd.1).trans eσ)
    have k1 := k.put (i := v) (v := σ[v]) (s := s) ms (fun d e => by
      obtain ⟨p, q, _⟩ := k.io v d e
      exact wipe_none List.mem_cons_self q) (fun d e => by
      obtain ⟨u, eu, r⟩ := hs d e
      rw [eσ] at eu
      exact ⟨u, Option.some.inj eu, r.mv (Mv.less inc)⟩)
    have o1 : ∀ b, own (L2.wipe σ vs) (ε'.set v s) b → own (L2.wipe σ (v :: vs)) ε' b := fun b z => own_set' (i := v) (v := σ[v]) ms (by rw [back]; exact z)
    rw [back] at k1
    obtain ⟨k2, o2⟩ := Ok.restore vs nd.2 k1 (fun b z => inc b (z.imp id (o1 b))) (fun i hi => hlen i (List.mem_cons_of_mem _ hi)) fun i hi => h i (List.mem_cons_of_mem _ hi)
    exact ⟨k2, fun b z => o1 b (o2 b z)⟩
theorem Ok.wr {D : Addr} {o : HO} (ht : ∀ P q, LamX.TabS H P q → LamX.TabS (upd H D o) P q) (k : Ok G (C.add D) H σ ε) (h0 : C.H0 D = none) : Ok G (C.add D) (upd H D o) σ ε := by
  have m : Mv H (upd H D o) ((C.add D).F σ ε) ((C.add D).F σ ε) := ⟨fun b u e n _ => by rw [upd_ne fun z => n (.inl (.inr z))]; exact e, fun b z => .inl z⟩
  have ne : ∀ {p : Addr}, own σ ε p → p ≠ D := fun {p} z e => k.nf p z (.inr e)
  refine ⟨k.len, fun b u e n t => ?_, k.inj, k.new, k.nf, fun q z e => ?_, ?_, ?_, ?_, k.ioA, k.ioB, fun p hp => ht _ _ (k.tb p hp), fun b e => k.h0 b ?_⟩
  · rw [upd_ne fun z => by subst z; rw [show C.H0 b = some u from e] at h0; cases h0]
    exact k.kept b u e n t
  · unfold upd at e
    split at e
    · cases e
    · exact k.f0 q z e
  · intro i d e
    obtain ⟨v, q, r⟩ := k.sh i d e
    exact ⟨v, q, r.mv m⟩
  · intro i d e
    obtain ⟨p, q, r⟩ := k.ow i d e
    exact ⟨p, q, r.mv m (upd_ne (ne ⟨i, _, e, rfl, q⟩))⟩
  · intro i d e
    obtain ⟨p, q, r⟩ := k.io i d e
    exact ⟨p, q, r.mv m (upd_ne (ne ⟨i, _, e, rfl, q⟩))⟩
  · unfold upd at e
    split at e
    · cases e
    · exact e
theorem wipe_off {σ2 : L2.St} {vs is : List Nat} (hsub : ∀ i ∈ is, i ∈ vs) (h : Off is (L2.wipe σ vs) σ2) : L2.wipe σ2 vs = L2.wipe σ vs := by
  have hl : σ2.length = σ.length := by rw [h.1, wipe_length]
  apply List.ext_getElem?
  intro j
  by_cases c : j ∈ vs
  · by_cases hj : j < σ.length
    · have none_of : ∀ (τ : L2.St), τ.length = σ.length → (L2.wipe τ vs)[j]? = some none := fun τ ht => by
        have h1 : j < (L2.wipe τ vs).length := by rw [wipe_length, ht]; exact hj
        rw [List.getElem?_eq_getElem h1]
        cases q : (L2.wipe τ vs)[j] with
        | none => rfl
        | some u => exact absurd (by rw [List.getElem?_eq_getElem h1, q]) (wipe_none (σ := τ) c (u := u))
      rw [none_of σ2 hl, none_of σ rfl]
    · rw [List.getElem?_eq_none (by rw [wipe_length]; omega), List.getElem?_eq_none (by rw [wipe_length]; omega)]
  · rw [wipe_out c, h.2 j fun z => c (hsub j z)]
/-- the comprehension's reading -/
theorem lc_read {di : Dn (List D)} {vs is : List Nat} {g : Tg} {c : Dn Bool} {e : Dn Fv} (hnd : vs.Nodup) (hsub : ∀ i ∈ is, i ∈ vs) {σ : L2.St} {H : Hp} {Q : VK} (h : wE G W (dLc di vs g c e) σ H Q) :
    tLc (wI G W di) (wG G is g) (wT G W0 c) (wE G W0 e) vs σ H Q := by
  obtain ⟨C, ε, ok, post⟩ := h
  refine wI_bind (P := PostE G W C σ ε H Q) ok post (fun _ _ h => h) id fun xs ε1 J H1 st1 ok1 yl p1 => ?_
  have p1 := PostE.from st1 p1
  split at p1
  case isFalse => exact p1.elim
  case isTrue hnm =>
  intro D hD
  have slot : ∀ v ∈ vs, ∃ s, ε1[v]? = some s ∧ s.mut = false := fun v hv => by
    have := (List.all_eq_true.mp hnm) v hv
    cases q : ε1[v]? with
    | none => rw [q] at this; cases this
    | some s => rw [q] at this; exact ⟨s, rfl, by simpa using this⟩
  have noio : ∀ v ∈ vs, ∀ a, ¬C.io v a := fun v hv a ha => by
    obtain ⟨_, d, e1⟩ := ok1.ioA v a ha
    obtain ⟨s, e2, ms⟩ := slot v hv
    rw [e1] at e2; cases e2; cases ms
  have h0D : C.H0 D = none := (ok1.fresh hD).1
  obtain ⟨kw, ow⟩ := ok1.wip vs noio
  have lenσ : ∀ v ∈ vs, v < σ.length := fun v hv => by
    obtain ⟨s, e2, _⟩ := slot v hv
    rw [ok1.len]; exact (List.getElem?_eq_some_iff.mp e2).1
  refine ⟨fun i m H' => ∃ ε' acc vacc, Ok G (C.add D) H' (L2.wipe σ vs) ε' ∧ H' D = some (.lst vacc) ∧ RpAll G H' ((C.add D).F (L2.wipe σ vs) ε') vacc acc ∧ Stp σ ε1 (L2.wipe σ vs) ε' H1 H' ∧ i ≤ xs.length ∧ m = xs.length - i ∧
    PostE G W C σ ε1 H1 Q ((compD vs g c e (xs.drop i) acc ε').bind fun ds ε2 => .ok (.fr (.lst ds)) (resE ε2 ε1 vs)), ⟨xs.length, wipeE ε1 vs, [], [], kw.add hD, upd_same, .nil,
      ⟨fun b o e _ _ => grow_new hD b o e, fun b z => .inl (ow b z), fun b z => none_of_grow (grow_new hD) z⟩, Nat.zero_le _, rfl, p1⟩, ?_⟩
  rintro i m H2 ⟨ε2, acc, vacc, ok2, hD2, racc, st2, hi, rfl, p2⟩
  have mv2 : Mv H1 H2 (C.F σ ε1) ((C.add D).F (L2.wipe σ vs) ε2) := by
    have m := st2.mv (C := C)
    refine ⟨m.keep, fun b z => ?_⟩
    rcases z with (z | z) | z
    · exact .inl (.inl z)
    · exact .inr ((show b = D from z) ▸ hD)
    · exact (m.frb b (.inr z))
  obtain ⟨y1, y2⟩ := yl i H2 _ mv2 ok2.fold
  by_cases hc : i = xs.length
  · subst hc
    rw [List.drop_length] at p2
    refine .inl ⟨y2 rfl, ?_⟩
    have hres : ∀ v ∈ vs, ∃ s, ε1[v]? = some s ∧ s.mut = false ∧ ∀ d, s = .sh d → ∃ u, σ[v]? = some (some u) ∧ Rp G H2 ((C.add D).F (L2.wipe σ vs) ε2) u d := fun v hv => by
      obtain ⟨s, e2, ms⟩ := slot v hv
      refine ⟨s, e2, ms, fun d es => ?_⟩
      subst es
      obtain ⟨u, eu, r⟩ := ok1.sh v d e2
      exact ⟨u, eu, r.mv mv2⟩
    obtain ⟨k3, o3⟩ := Ok.restore vs hnd ok2 (fun _ z => z) lenσ hres
    refine p2 _ H2 ⟨st2.keep, fun b z => st2.own b (o3 b z), st2.al⟩ k3.unadd ⟨D, rfl, hD, ?_, k3, ⟨vacc, hD2, racc.mv (Mv.less fun b z => z.imp id (o3 b))⟩⟩
    rintro (z | z)
    · exact (ok1.fresh hD).2 (.inl z)
    · exact k3.nf D z (.inr rfl)
  · have hlt : i < xs.length := by omega
    obtain ⟨go, yld⟩ := y1 xs[i] (List.getElem?_eq_getElem hlt)
    rw [List.drop_eq_getElem_cons hlt] at p2
    refine .inr ⟨go, fun H' => ∃ ε' acc vacc, Ok G (C.add D) H' (L2.wipe σ vs) ε' ∧ H' D = some (.lst vacc) ∧ RpAll G H' ((C.add D).F (L2.wipe σ vs) ε') vacc acc ∧ Stp σ ε1 (L2.wipe σ vs) ε' H1 H' ∧
      PostE G W C σ ε1 H1 Q ((compD vs g c e (xs.drop (i + 1)) acc ε').bind fun ds ε2 => .ok (.fr (.lst ds)) (resE ε2 ε1 vs)),
      fun H' ⟨ε', acc, vacc, a1, a2, a3, a4, a5⟩ => ⟨xs.length - (i + 1), by omega, ε', acc, vacc, a1, a2, a3, a4, by omega, rfl, a5⟩, fun x H3 hy => ?_⟩
    obtain ⟨gr, rx⟩ := yld x H3 hy
    unfold compD at p2
    cases eg : g xs[i] ε2 with
    | none => rw [eg] at p2; exact p2.elim
    | some ε3 =>
      rw [eg] at p2
      dsimp only at p2
      have st3 : Stp σ ε1 (L2.wipe σ vs) ε2 H1 H3 := st2.trans (Stp.grow gr)
      have ok3 := ok2.grow gr
      have racc3 := racc.mv ((Stp.grow (σ := L2.wipe σ vs) (ε := ε2) gr).mv (C := C.add D))
      refine ⟨C.add D, ε2, xs[i], ε3, ok3, rx, eg, fun σ4 H4 off st4 ok4 => ⟨wipe_off hsub off, ?_⟩⟩
      have hw4 := wipe_off hsub off
      have wip : ∀ {ε' : Ev} {H' : Hp}, Ok G (C.add D) H' σ4 ε' → Ok G (C.add D) H' (L2.wipe σ vs) (wipeE ε' vs) ∧ ∀ b, own (L2.wipe σ vs) (wipeE ε' vs) b → own σ4 ε' b := fun {ε' H'} k => by
        have := k.wip vs noio
        rwa [hw4] at this
      have keepD : ∀ {ε' : Ev} {H' : Hp}, Stp (L2.wipe σ vs) ε2 σ4 ε' H3 H' → H' D = some (.lst vacc) := fun {ε' H'} st =>
        st.keep D _ (gr _ _ hD2) (fun z => ok3.nf D z (.inr rfl)) .lst
      refine ⟨C.add D, ε3, ok4, ?_⟩
      cases ec : c ε3 with
      | no => rw [ec] at p2; exact p2.elim
      | exc x ε' => rw [ec] at p2; exact p2.elim
      | ok b ε4 =>
        rw [ec] at p2
        intro H5 st5 ok5
        have st35 := st4.trans st5
        cases b with
        | false =>
          rw [if_neg Bool.false_ne_true]
          obtain ⟨k6, o6⟩ := wip ok5
          refine ⟨wipeE ε4 vs, acc, vacc, k6, keepD st35, ?_, ?_, p2⟩
          · exact (racc3.mv (st35.mv (C := C.add D))).mv (Mv.less fun b z => z.imp id (o6 b))
          · have := st3.trans st35
            exact ⟨this.keep, fun b z => this.own b (o6 b z), this.al⟩
        | true =>
          rw [if_pos rfl]
          dsimp only at p2
          refine ⟨C.add D, ε4, ok5, ?_⟩
          cases ee : e ε4 with
          | no => rw [ee] at p2; exact p2.elim
          | exc x ε' => rw [ee] at p2; exact p2.elim
          | ok fv ε5 =>
            rw [ee] at p2
            intro y H6 st6 ok6 vr6
            dsimp only at p2
            cases es : shr [fv.old] ε5 with
            | none => rw [es] at p2; exact p2.elim
            | some r =>
              obtain ⟨ds, ε6⟩ := r
              rw [es] at p2
              obtain ⟨k7, r7, o7⟩ := shr_sound ok6 (vr6.old .nil) es
              cases r7 with
              | cons ry rn =>
                cases rn
                dsimp only at p2
                split at p2
                case isFalse => exact p2.elim
                case isTrue hacc =>
                have st36 := (st35.trans st6).trans (Stp.less (H := H6) o7)
                have hD6 := keepD st36
                have racc6 := racc3.mv (st36.mv (C := C.add D))
                obtain ⟨k8, o8⟩ := wip k7
                have k9 : Ok G (C.add D) (upd H6 D (.lst (vacc ++ [y]))) (L2.wipe σ vs) (wipeE ε6 vs) := k8.wr (fun _ _ t => tab_lst hD6 t) h0D
                refine ⟨vacc, hD6, Nat.lt_of_lt_of_le (by rw [racc.length]; exact hacc) sizeLine_big, wipeE ε6 vs, _, vacc ++ [y], k9, upd_same, ?_, ?_, p2⟩
                · have mvD : Mv H6 (upd H6 D (.lst (vacc ++ [y]))) ((C.add D).F σ4 ε6) ((C.add D).F (L2.wipe σ vs) (wipeE ε6 vs)) :=
                    ⟨fun b u e n _ => by rw [upd_ne fun z => n (.inl (.inr z))]; exact e, fun b z => .inl (z.imp id (o8 b))⟩
                  exact (racc6.mv mvD).app (.cons (ry.mv mvD) .nil)
                · have := st3.trans st36
                  refine ⟨fun b u e n t => ?_, fun b z => this.own b (o8 b z), fun b z => this.al b ?_⟩
                  · rw [upd_ne fun z => by subst z; rw [e] at hD; cases hD]
                    exact this.keep b u e n t
                  · unfold upd at z
                    split at z
                    · cases z
                    · exact z
section
variable {elt tg iter : Expr} {ifs : List Expr} {scope : Scope} {own : List (Str × Nat)} {pos : Pos} {di : Dn (List D)} {is : List Nat} {g : Tg} {c : Dn Bool} {e : Dn Fv}
theorem cNil : PTs X [] (wT G W (fun ε => .ok true ε)) := ⟨fun pins s σ H Q I h => pts_nil.run pins s σ H Q I (by
  obtain ⟨C, ε, ok, post⟩ := h
  exact post H Stp.refl ok)⟩
theorem cOne {t : Expr} {c : Dn Bool} (h : PTp G X W t c) : PTs X [t] (wT G W c) := pts_one h
theorem eLc (cx : Cok G X W k) (hN : X.N.Nodup) (hi : PIp G X W tg iter di) (ok : BlkOk X.N X.env.scope scope own) (hnd : (own.map (·.2)).Nodup) (hsub : ∀ i ∈ is, i ∈ own.map (·.2))
    (hg : ∀ (s : Shared) (H : Hp) (C : Addr) (cl : List (Str × Addr)) (fp : List Addr), Cok G (X.blk s H scope (compEnvC scope cl C X.env) fp) W0 k → PGp G (X.blk s H scope (compEnvC scope cl C X.env) fp) tg is g)
    (ht : ∀ (s : Shared) (H : Hp) (C : Addr) (cl : List (Str × Addr)) (fp : List Addr), Cok G (X.blk s H scope (compEnvC scope cl C X.env) fp) W0 k → PTs (X.blk s H scope (compEnvC scope cl C X.env) fp) ifs (wT G W0 c))
    (he : ∀ (s : Shared) (H : Hp) (C : Addr) (cl : List (Str × Addr)) (fp : List Addr), Cok G (X.blk s H scope (compEnvC scope cl C X.env) fp) W0 k → PEp G (X.blk s H scope (compEnvC scope cl C X.env) fp) W0 elt e)
    (hs : ∀ x, foldedSetIterable iter X.env x = pure x := by intro _; rfl) : PEp G X W (.ListComp elt [⟨tg, iter, ifs, 0⟩] scope pos) (dLc di (own.map (·.2)) g c e) :=
  PE.imp (pe_lc cx.calm hN hi ok (fun s H C cl fp => hg s H C cl fp cx.blk) (fun s H C cl fp => ht s H C cl fp cx.blk) (fun s H C cl fp => he s H C cl fp cx.blk) hs) fun σ H Q h => lc_read hnd hsub h
theorem sSetLc {i : Nat} {y : Str} {py spos : Pos} (cx : Cok G X W k) (hN : X.N.Nodup) (hy : X.N[i]? = some y) (hyl : X.env.scope.names.lookup y = some .local)
    (hsw : swapsWith (.ListComp elt [⟨tg, iter, ifs, 0⟩] scope pos) (some (.Name y py)) spos.line X.env = pure true) (hi : PIp G X W tg iter di) (ok : BlkOk X.N X.env.scope scope own) (hnd : (own.map (·.2)).Nodup) (hsub : ∀ i ∈ is, i ∈ own.map (·.2))
    (hg : ∀ (s : Shared) (H : Hp) (C : Addr) (cl : List (Str × Addr)) (fp : List Addr), Cok G (X.blk s H scope (compEnvC scope cl C X.env) fp) W0 k → PGp G (X.blk s H scope (compEnvC scope cl C X.env) fp) tg is g)
    (ht : ∀ (s : Shared) (H : Hp) (C : Addr) (cl : List (Str × Addr)) (fp : List Addr), Cok G (X.blk s H scope (compEnvC scope cl C X.env) fp) W0 k → PTs (X.blk s H scope (compEnvC scope cl C X.env) fp) ifs (wT G W0 c))
    (he : ∀ (s : Shared) (H : Hp) (C : Addr) (cl : List (Str × Addr)) (fp : List Addr), Cok G (X.blk s H scope (compEnvC scope cl C X.env) fp) W0 k → PEp G (X.blk s H scope (compEnvC scope cl C X.env) fp) W0 elt e)
    (hs : ∀ x, foldedSetIterable iter X.env x = pure x := by intro _; rfl) : PSp G X W (.Assign [.Name y py] (.ListComp elt [⟨tg, iter, ifs, 0⟩] scope pos) spos) (sDSet i (dLc di (own.map (·.2)) g c e)) := by
  refine PS.imp (ps_setLc cx.calm hN hy hyl hsw hi ok (fun s H C cl fp => hg s H C cl fp cx.blk) (fun s H C cl fp => ht s H C cl fp cx.blk) (fun s H C cl fp => he s H C cl fp cx.blk) hs) ?_
  rintro E σ H ⟨C, ε, ok, post⟩
  refine lc_read hnd hsub ?_
  refine wE_bind (P := PostS G W C σ ε H E) ok post (fun _ _ h => PostS.px h) id fun fv ε1 v H1 st1 ok1 vr p => ?_
  cases q : setS ε1 i fv with
  | none => rw [q] at p; exact p.elim
  | some ε2 =>
    rw [q] at p
    obtain ⟨k, o⟩ := setS_sound ok1 vr q ok.h0
    exact p _ H1 ⟨st1.keep, fun b z => (o b z).elim (st1.own b) .inr, st1.al⟩ k
end
end
end PL

namespace PL
open PySem PySem.Spec PyProof.Rows L2 AB
open TL (tl)

/-! ### texts -/
theorem tl_sl (l : List Nat) : tl (sl l) = l := by simp [sl, tl]
theorem sl_app (a b : List Nat) : sl a ++ sl b = sl (a ++ b) := TL.ext_tl (by rw [TL.tl_append, tl_sl, tl_sl, tl_sl])
theorem sOk_app {a b : List Nat} (h : sOk a = true) (k : sOk b = true) : sOk (a ++ b) = true := by
  unfold sOk at *
  rw [List.all_append, h, k]; rfl
theorem sOk_sub {a b : List Nat} (h : sOk b = true) (k : ∀ c ∈ a, c ∈ b) : sOk a = true := by
  unfold sOk at *
  rw [List.all_eq_true] at *
  exact fun c hc => h c (k c hc)

/-! ### plain data -/
mutual
def toPy : D → PyData
  | .non => .none
  | .bl b => .bool b
  | .int i => .int i
  | .str l => .str (sl l)
  | .tup xs => .tuple (toPys xs)
  | .lst xs => .list (toPys xs)
  | _ => .none
def toPys : List D → List PyData
  | [] => []
  | x :: xs => toPy x :: toPys xs
end
mutual
/-- == of plain data -/
def eqD : D → D → Bool
  | .non, .non => true
  | .bl a, .bl b => a == b
  | .bl a, .int j => (if a then 1 else 0) == j
  | .int i, .bl b => i == (if b then 1 else 0)
  | .int i, .int j => i == j
  | .str x, .str y => x == y
  | .tup xs, .tup ys => eqDs xs ys
  | .lst xs, .lst ys => eqDs xs ys
  | _, _ => false
def eqDs : List D → List D → Bool
  | [], [] => true
  | x :: xs, y :: ys => eqD x y && eqDs xs ys
  | _, _ => false
end
/-- plain, of nesting at most n -/
def pl : Nat → D → Bool
  | _, .non => true
  | _, .bl _ => true
  | _, .int _ => true
  | _, .str _ => true
  | n + 1, .tup xs => xs.all (pl n)
  | n + 1, .lst xs => xs.all (pl n)
  | _, _ => false
section
variable {G : Gx} {H : Hp} {F : Addr → Prop}
theorem sl_inj {a b : List Nat} : (sl a == sl b) = (a == b) := by
  by_cases h : a = b
  · subst h; simp
  · have : sl a ≠ sl b := fun e => h (by rw [← tl_sl a, e, tl_sl])
    rw [beq_eq_false_iff_ne.mpr h, beq_eq_false_iff_ne.mpr this]
mutual
theorem eqv_py : ∀ (a b : D) {n m : Nat}, pl n a = true → pl m b = true → PyData.eqv (toPy a) (toPy b) = eqD a b
  | .tup xs, .tup ys, n, m, h, k => by
    cases n with
    | zero => simp [pl] at h
    | succ n =>
      cases m with
      | zero => simp [pl] at k
      | succ m =>
        simp only [toPy, eqD, PyData.eqv]
        simp only [pl, List.all_eq_true] at h k
        exact eqvs_py xs ys h k
  | .lst xs, .lst ys, n, m, h, k => by
    cases n with
    | zero => simp [pl] at h
    | succ n =>
      cases m with
      | zero => simp [pl] at k
      | succ m =>
        simp only [toPy, eqD, PyData.eqv]
        simp only [pl, List.all_eq_true] at h k
        exact eqvs_py xs ys h k
  | .str x, .str y, n, m, h, k => by simp only [toPy, eqD, PyData.eqv, sl_inj]
  | .non, b, n, m, h, k => by cases b <;> simp_all [pl, toPy, eqD, PyData.eqv]
  | .bl a, b, n, m, h, k => by cases b <;> simp_all [pl, toPy, eqD, PyData.eqv]
  | .int a, b, n, m, h, k => by cases b <;> simp_all [pl, toPy, eqD, PyData.eqv]
  | .dct a, b, n, m, h, k => by cases n <;> simp [pl] at h
  | .dcT a, b, n, m, h, k => by cases n <;> simp [pl] at h
  | .ins a _, b, n, m, h, k => by cases n <;> simp [pl] at h
  | .ty a, b, n, m, h, k => by cases n <;> simp [pl] at h
  | .ref a, b, n, m, h, k => by cases n <;> simp [pl] at h
  | .flz a, b, n, m, h, k => by cases n <;> simp [pl] at h
  | .str x, .non, n, m, h, k => by simp [toPy, eqD, PyData.eqv]
  | .str x, .bl _, n, m, h, k => by simp [toPy, eqD, PyData.eqv]
  | .str x, .int _, n, m, h, k => by simp [toPy, eqD, PyData.eqv]
  | .str x, .tup _, n, m, h, k => by simp [toPy, eqD, PyData.eqv]
  | .str x, .lst _, n, m, h, k => by simp [toPy, eqD, PyData.eqv]
  | .tup x, .non, n, m, h, k => by simp [toPy, eqD, PyData.eqv]
  | .tup x, .bl _, n, m, h, k => by simp [toPy, eqD, PyData.eqv]
  | .tup x, .int _, n, m, h, k => by simp [toPy, eqD, PyData.eqv]
  | .tup x, .str _, n, m, h, k => by simp [toPy, eqD, PyData.eqv]
  | .tup x, .lst _, n, m, h, k => by simp [toPy, eqD, PyData.eqv]
  | .lst x, .non, n, m, h, k => by simp [toPy, eqD, PyData.eqv]
  | .lst x, .bl _, n, m, h, k => by simp [toPy, eqD, PyData.eqv]
  | .lst x, .int _, n, m, h, k => by simp [toPy, eqD, PyData.eqv]
  | .lst x, .str _, n, m, h, k => by simp [toPy, eqD, PyData.eqv]
  | .lst x, .tup _, n, m, h, k => by simp [toPy, eqD, PyData.eqv]
  | .str x, .dct _, n, m, h, k => by cases m <;> simp [pl] at k
  | .str x, .dcT _, n, m, h, k => by cases m <;> simp [pl] at k
  | .str x, .ins _ _, n, m, h, k => by cases m <;> simp [pl] at k
  | .str x, .ty _, n, m, h, k => by cases m <;> simp [pl] at k
  | .str x, .ref _, n, m, h, k => by cases m <;> simp [pl] at k
  | .str x, .flz _, n, m, h, k => by cases m <;> simp [pl] at k
  | .tup x, .dct _, n, m, h, k => by cases m <;> simp [pl] at k
  | .tup x, .dcT _, n, m, h, k => by cases m <;> simp [pl] at k
  | .tup x, .ins _ _, n, m, h, k => by cases m <;> simp [pl] at k
  | .tup x, .ty _, n, m, h, k => by cases m <;> simp [pl] at k
  | .tup x, .ref _, n, m, h, k => by cases m <;> simp [pl] at k
  | .tup x, .flz _, n, m, h, k => by cases m <;> simp [pl] at k
  | .lst x, .dct _, n, m, h, k => by cases m <;> simp [pl] at k
  | .lst x, .dcT _, n, m, h, k => by cases m <;> simp [pl] at k
  | .lst x, .ins _ _, n, m, h, k => by cases m <;> simp [pl] at k
  | .lst x, .ty _, n, m, h, k => by cases m <;> simp [pl] at k
  | .lst x, .ref _, n, m, h, k => by cases m <;> simp [pl] at k
  | .lst x, .flz _, n, m, h, k => by cases m <;> simp [pl] at k
theorem eqvs_py : ∀ (xs ys : List D) {n m : Nat}, (∀ x ∈ xs, pl n x = true) → (∀ y ∈ ys, pl m y = true) → PyData.eqvAll (toPys xs) (toPys ys) = eqDs xs ys
  | [], [], n, m, _, _ => by simp [toPys, eqDs, PyData.eqvAll]
  | [], _ :: _, n, m, _, _ => by simp [toPys, eqDs, PyData.eqvAll]
  | _ :: _, [], n, m, _, _ => by simp [toPys, eqDs, PyData.eqvAll]
  | x :: xs, y :: ys, n, m, h, k => by
    simp only [toPys, eqDs, PyData.eqvAll]
    rw [eqv_py x y (h x List.mem_cons_self) (k y List.mem_cons_self), eqvs_py xs ys (fun z hz => h z (List.mem_cons_of_mem _ hz)) (fun z hz => k z (List.mem_cons_of_mem _ hz))]
end
mutual
theorem Rp.dp : ∀ {v : V} (d : D) {n : Nat}, Rp G H F v d → pl n d = true → Dp G.K H v (toPy d) ∧ (toPy d).canLay0 = true ∧ (toPy d).depth ≤ n
  | _, .non, n, .non, _ => ⟨.non, rfl, Nat.zero_le _⟩
  | _, .bl b, n, .bl _, _ => ⟨.bl b, rfl, Nat.zero_le _⟩
  | _, .int i, n, .int _, _ => ⟨.int i, rfl, Nat.zero_le _⟩
  | _, .str l, n, .str h, _ => by
    refine ⟨.str _, ?_, Nat.zero_le _⟩
    simp only [toPy, PyData.canLay0]
    show (sl l).cps.all (· < 0x110000) = true
    unfold sOk at h
    rw [← h]
    simp [sl]
  | _, .tup ds, n, .tup s r, h => by
    cases n with
    | zero => simp [pl] at h
    | succ n =>
      simp only [pl, List.all_eq_true] at h
      obtain ⟨a, b, c⟩ := RpAll.dp ds r h
      exact ⟨.tup s.sq a, by simpa [toPy, PyData.canLay0] using b, by simp only [toPy, PyData.depth]; omega⟩
  | _, .lst ds, n, .lst e _ r, h => by
    cases n with
    | zero => simp [pl] at h
    | succ n =>
      simp only [pl, List.all_eq_true] at h
      obtain ⟨a, b, c⟩ := RpAll.dp ds r h
      exact ⟨.lst (SqL.of e) a, by simpa [toPy, PyData.canLay0] using b, by simp only [toPy, PyData.depth]; omega⟩
  | _, .dct a, n, _, h => by cases n <;> simp [pl] at h
  | _, .dcT a, n, _, h => by cases n <;> simp [pl] at h
  | _, .ins a _, n, _, h => by cases n <;> simp [pl] at h
  | _, .ty a, n, _, h => by cases n <;> simp [pl] at h
  | _, .ref a, n, _, h => by cases n <;> simp [pl] at h
  | _, .flz a, n, _, h => by cases n <;> simp [pl] at h
theorem RpAll.dp : ∀ {vs : List V} (ds : List D) {n : Nat}, RpAll G H F vs ds → (∀ d ∈ ds, pl n d = true) → DpAll G.K H vs (toPys ds) ∧ PyData.canLayAll0 (toPys ds) = true ∧ PyData.depthAll (toPys ds) ≤ n
  | _, [], n, .nil, _ => ⟨.nil, rfl, Nat.zero_le _⟩
  | _, d :: ds, n, .cons r rs, h => by
    obtain ⟨a, b, c⟩ := Rp.dp d r (h d List.mem_cons_self)
    obtain ⟨a', b', c'⟩ := RpAll.dp ds rs fun z hz => h z (List.mem_cons_of_mem _ hz)
    exact ⟨.cons a a', by simp [toPys, PyData.canLayAll0, b, b'], by simp only [toPys, PyData.depthAll]; omega⟩
end
theorem Rt.dp {v : V} {d : D} {n : Nat} (r : Rt G H F v d) (h : pl n d = true) : Dp G.K H v (toPy d) ∧ (toPy d).canLay0 = true ∧ (toPy d).depth ≤ n := by
  cases d with
  | lst ds =>
    obtain ⟨a, vs, rfl, e, r⟩ := r
    cases n with
    | zero => simp [pl] at h
    | succ n =>
      simp only [pl, List.all_eq_true] at h
      obtain ⟨a, b, c⟩ := RpAll.dp ds r h
      exact ⟨.lst (SqL.of e) a, by simpa [toPy, PyData.canLay0] using b, by simp only [toPy, PyData.depth]; omega⟩
  | dct a => cases n <;> simp [pl] at h
  | dcT a => cases n <;> simp [pl] at h
  | ins a _ => cases n <;> simp [pl] at h
  | non => exact Rp.dp _ r h
  | bl b => exact Rp.dp _ r h
  | int i => exact Rp.dp _ r h
  | str l => exact Rp.dp _ r h
  | tup ds => exact Rp.dp _ r h
  | ty a => cases n <;> simp [pl] at h
  | ref a => cases n <;> simp [pl] at h
  | flz a => cases n <;> simp [pl] at h
theorem Rt.shaped {v : V} {d : D} (r : Rt G H F v d) (h : pl 60 d = true) : Dp G.K H v (toPy d) ∧ SeqAt.shaped (toPy d) = true := by
  obtain ⟨a, b, c⟩ := r.dp h
  refine ⟨a, ?_⟩
  show ((toPy d).canLay0 && decide ((toPy d).depth ≤ 64)) = true
  rw [b, decide_eq_true (by omega)]; rfl
end

/-! ### arithmetic -/
def b01 (b : Bool) : Int := if b = true then 1 else 0
def addD : D → D → Option Fv
  | .int i, .int j => some (.sh (.int (i + j)))
  | .bl b, .int j => some (.sh (.int (b01 b + j)))
  | .str a, .str b => if a.length + b.length ≤ 16000000 then some (.sh (.str (a ++ b))) else none
  | .lst a, .lst b => if a.length + b.length ≤ 16000000 then some (.fr (.lst (a ++ b))) else none
  | .tup a, .tup b => if a.length + b.length ≤ 16000000 then some (.sh (.tup (a ++ b))) else none
  | _, _ => none
def subD : D → D → Option Fv
  | .int i, .int j => some (.sh (.int (i - j)))
  | .bl b, .int j => some (.sh (.int (b01 b - j)))
  | _, _ => none
def mulD : D → D → Option Fv
  | .int i, .int j => if i.natAbs.log2 + j.natAbs.log2 < 1000000 then some (.sh (.int (i * j))) else none
  | .str a, .int k => if 0 ≤ k ∧ k < 1000000 ∧ a.length * k.toNat ≤ 1000000 then some (.sh (.str (List.replicate k.toNat a).flatten)) else none
  | .lst a, .int k => if -(2 ^ 63) ≤ k ∧ k < 2 ^ 63 ∧ a.length * k.toNat ≤ 16000000 then some (.fr (.lst (List.replicate k.toNat a).flatten)) else none
  | _, _ => none
def modD : D → D → Option Fv
  | .int i, .int j => if 0 < j then some (.sh (.int (i % j))) else none
  | _, _ => none
def fdivD : D → D → Option Fv
  | .int i, .int j => if 0 < j ∧ j.natAbs.log2 < 9000 then some (.sh (.int (i / j))) else none
  | _, _ => none
def powD : D → D → Option Fv
  | .int i, .int j => if 0 ≤ j ∧ j ≤ 1000000 ∧ i.natAbs < 2 ^ 64 then some (.sh (.int (i ^ j.toNat))) else none
  | _, _ => none
section
variable {G : Gx} {X : Cx} {W : WX} {H : Hp} {F : Addr → Prop} {k : Nat}
theorem RpAll.rep {vs : List V} {ds : List D} (r : RpAll G H F vs ds) : ∀ n, RpAll G H F (List.replicate n vs).flatten (List.replicate n ds).flatten
  | 0 => .nil
  | n + 1 => by
    rw [List.replicate_succ, List.replicate_succ, List.flatten_cons, List.flatten_cons]
    exact r.app (r.rep n)
def rBI (g : Int → Int → Int) : R2 := fun x y H Q => ∃ b j, x = .bl b ∧ y = .int j ∧ Q (.int (g (b01 b) j)) H
theorem op_addB : OpR X (binaryOp .Add) (rBI fun i j => i + j) := by
  intro pins s σ H x y v u Q I rx ry h
  obtain ⟨b, j, rfl, rfl, q⟩ := h
  cases rx
  obtain ⟨t, rfl⟩ := ry
  exact PySem.IntBool.add_bool_int ⟨.int _, H, I.tok _, ⟨_, rfl⟩, q⟩
theorem op_subB : OpR X (binaryOp .Sub) (rBI fun i j => i - j) := by
  intro pins s σ H x y v u Q I rx ry h
  obtain ⟨b, j, rfl, rfl, q⟩ := h
  cases rx
  obtain ⟨t, rfl⟩ := ry
  exact PySem.IntBool.sub_bool_int ⟨.int _, H, I.tok _, ⟨_, rfl⟩, q⟩
def rAddD (K : PySem.W.Frag) : R2 := fun x y H Q => rI0 (fun i j => .int (i + j)) x y H Q ∨ (∃ i j, x = .str i ∧ y = .str j ∧ i.length + j.length ≤ sizeLine ∧ Q (.str (i ++ j)) H) ∨ rCat x y H Q ∨ rCatA K x y H Q ∨ rBI (fun i j => i + j) x y H Q
theorem opAdd (c : Cok G X W k) : OpR X (binaryOp .Add) (rAddD G.K) := c.hK ▸ OpR.or op_add (OpR.or op_add_str (OpR.or op_cat (OpR.or op_catA op_addB)))
theorem sAdd : OpS G (rAddD G.K) addD := by
  intro H F x y d e fv Q fo r1 r2 h p
  cases d with
  | int i =>
    cases e with
    | int j => cases r1; cases r2; cases h; exact .inl ⟨i, j, rfl, rfl, p.sh0 (.int _)⟩
    | _ => cases h
  | bl i =>
    cases e with
    | int j => cases r1; cases r2; cases h; exact .inr (.inr (.inr (.inr ⟨i, j, rfl, rfl, p.sh0 (.int _)⟩)))
    | _ => cases h
  | str a =>
    cases e with
    | str b =>
      have r1 : Rp G H F x (.str a) := r1
      have r2 : Rp G H F y (.str b) := r2
      cases r1 with
      | str h1 =>
        cases r2 with
        | str h2 =>
          simp only [addD] at h
          split at h
          · cases h
            refine .inr (.inl ⟨_, _, rfl, rfl, by rw [sl_len, sl_len]; exact sz_le (by assumption), ?_⟩)
            rw [sl_app]
            exact p.sh0 (.str (sOk_app h1 h2))
          · cases h
    | _ => cases h
  | lst a =>
    cases e with
    | lst b =>
      obtain ⟨l, vs, rfl, e1, q1⟩ := r1
      obtain ⟨m, ws, rfl, e2, q2⟩ := r2
      simp only [addD] at h
      split at h
      · cases h
        exact .inr (.inr (.inl ⟨l, m, vs, ws, rfl, rfl, e1, e2, by rw [q1.length, q2.length]; exact sz_le (by assumption), fun q hq => p.lst (q1.app q2) hq⟩))
      · cases h
    | _ => cases h
  | tup a =>
    cases e with
    | tup b =>
      have r1 : Rp G H F x (.tup a) := r1
      have r2 : Rp G H F y (.tup b) := r2
      cases r1 with
      | @tup l vs _ s1 q1 =>
        cases r2 with
        | @tup m ws _ s2 q2 =>
          simp only [addD] at h
          split at h
          · cases h
            refine .inr (.inr (.inr (.inl ⟨l, m, vs, ws, rfl, rfl, s1.sq, s2.sq, by rw [q1.length, q2.length]; exact sz_le (by assumption), fun e => ?_, fun _ e => ?_, fun _ _ q hq => p.tup (q1.app q2) hq (fo.n hq)⟩)))
            · subst e; cases q1; exact p.sh0 (.tup s2 q2)
            · subst e; cases q2; rw [List.append_nil] at p; exact p.sh0 (.tup s1 q1)
          · cases h
    | _ => cases h
  | _ => cases h
section
variable {a b : Expr} {da db : Dn Fv} {pos : Pos}
theorem eAdd (c : Cok G X W k) (ha : PEp G X W a da) (hb : PEp G X W b db) : PEp G X W (.BinOp a .Add b pos) (d2 addD da db) := e2 (pe_op (opAdd c) ha hb) sAdd
theorem sI2 {f : D → D → Option Fv} {P : Int → Int → Prop} {g : Int → Int → Int} (h : ∀ d e fv, f d e = some fv → ∃ i j, d = .int i ∧ e = .int j ∧ P i j ∧ fv = .sh (.int (g i j))) : OpS G (rI P fun i j => .int (g i j)) f := by
  intro H F x y d e fv Q fo r1 r2 hf p
  obtain ⟨i, j, rfl, rfl, hp, rfl⟩ := h d e fv hf
  cases r1; cases r2
  exact ⟨i, j, rfl, rfl, hp, p.sh0 (.int _)⟩
theorem eSub (ha : PEp G X W a da) (hb : PEp G X W b db) : PEp G X W (.BinOp a .Sub b pos) (d2 subD da db) := e2 (pe_op (OpR.or op_sub op_subB) ha hb) (by
  intro H F x y d e fv Q fo r1 r2 hf p
  cases d with
  | int i =>
    cases e with
    | int j => cases r1; cases r2; cases hf; exact .inl ⟨i, j, rfl, rfl, p.sh0 (.int _)⟩
    | _ => cases hf
  | bl i =>
    cases e with
    | int j => cases r1; cases r2; cases hf; exact .inr ⟨i, j, rfl, rfl, p.sh0 (.int _)⟩
    | _ => cases hf
  | _ => cases hf)
theorem eMod (ha : PEp G X W a da) (hb : PEp G X W b db) : PEp G X W (.BinOp a .Mod b pos) (d2 modD da db) := e2 (pe_op op_mod ha hb) (sI2 (fun d e fv h => by
  unfold modD at h
  split at h
  · split at h
    · cases h; exact ⟨_, _, rfl, rfl, by assumption, rfl⟩
    · cases h
  · cases h))
theorem eFdiv (ha : PEp G X W a da) (hb : PEp G X W b db) : PEp G X W (.BinOp a .FloorDiv b pos) (d2 fdivD da db) := e2 (pe_op op_fdivW ha hb) (sI2 (fun d e fv h => by
  unfold fdivD at h
  split at h
  · split at h
    · cases h; exact ⟨_, _, rfl, rfl, by assumption, rfl⟩
    · cases h
  · cases h))
theorem ePow (ha : PEp G X W a da) (hb : PEp G X W b db) : PEp G X W (.BinOp a .Pow b pos) (d2 powD da db) := e2 (pe_op op_pow ha hb) (sI2 (g := fun i j => i ^ j.toNat) (fun d e fv h => by
  unfold powD at h
  split at h
  · split at h
    · cases h; exact ⟨_, _, rfl, rfl, by assumption, rfl⟩
    · cases h
  · cases h))
theorem eMul (ha : PEp G X W a da) (hb : PEp G X W b db) : PEp G X W (.BinOp a .Mult b pos) (d2 mulD da db) := e2 (pe_op (OpR.or op_mulW (OpR.or op_rep_str op_rep)) ha hb) (by
  intro H F x y d e fv Q fo r1 r2 hf p
  cases d with
  | int i =>
    cases e with
    | int j =>
      cases r1; cases r2
      simp only [mulD] at hf
      split at hf
      · cases hf; exact .inl ⟨i, j, rfl, rfl, by assumption, p.sh0 (.int _)⟩
      · cases hf
    | _ => cases hf
  | str a =>
    cases e with
    | int j =>
      have r1 : Rp G H F x (.str a) := r1
      cases r2
      cases r1 with
      | str h1 =>
        simp only [mulD] at hf
        split at hf
        · rename_i c
          cases hf
          refine .inr (.inl ⟨sl a, j, rfl, rfl, c.1, c.2.1, by rw [sl_len]; exact c.2.2, ?_⟩)
          refine p.sh0 ?_
          rw [show (sl a).cps.toList = a from tl_sl a]
          exact .str (sOk_sub h1 fun c hc => by
            obtain ⟨l, hl, hc⟩ := List.mem_flatten.mp hc
            rw [(List.mem_replicate.mp hl).2] at hc
            exact hc)
        · cases hf
    | _ => cases hf
  | lst a =>
    cases e with
    | int j =>
      obtain ⟨l, vs, rfl, e1, q1⟩ := r1
      cases r2
      simp only [mulD] at hf
      split at hf
      · rename_i c
        cases hf
        exact .inr (.inr ⟨l, j, vs, rfl, rfl, e1, c.1, c.2.1, by rw [q1.length]; exact sz_le c.2.2, fun q hq => p.lst (q1.rep _) hq⟩)
      · cases hf
    | _ => cases hf
  | _ => cases hf)
def negD : D → Option Fv
  | .int i => some (.sh (.int (-i)))
  | _ => none
theorem eNeg (ha : PEp G X W a da) : PEp G X W (.UnaryOp .USub a pos) (d1 negD da) := e1 (pe_un un_neg ha) (by
  intro H F x d fv Q fo r hf p
  cases d with
  | int i => cases r; cases hf; exact ⟨i, rfl, p.sh0 (.int _)⟩
  | _ => cases hf)

/-! ### comparisons -/
def eqO (d e : D) : Option Fv := if pl 60 d = true ∧ pl 60 e = true then some (.sh (.bl (eqD d e))) else none
def neO (d e : D) : Option Fv := if pl 60 d = true ∧ pl 60 e = true then some (.sh (.bl (!eqD d e))) else none
theorem sEq : OpS G (rEqD G.K) eqO := by
  intro H F x y d e fv Q fo r1 r2 h p
  unfold eqO at h
  split at h
  · rename_i c
    cases h
    obtain ⟨a1, a2⟩ := r1.shaped c.1
    obtain ⟨b1, b2⟩ := r2.shaped c.2
    refine ⟨_, _, a1, b1, a2, b2, ?_⟩
    rw [eqv_py d e c.1 c.2]
    exact p.sh0 (.bl _)
  · cases h
theorem sNe : OpS G (rNeD G.K) neO := by
  intro H F x y d e fv Q fo r1 r2 h p
  unfold neO at h
  split at h
  · rename_i c
    cases h
    obtain ⟨a1, a2⟩ := r1.shaped c.1
    obtain ⟨b1, b2⟩ := r2.shaped c.2
    refine ⟨_, _, a1, b1, a2, b2, ?_⟩
    rw [eqv_py d e c.1 c.2]
    exact p.sh0 (.bl _)
  · cases h
theorem opEq (c : Cok G X W k) : OpR X (compareOp .Eq) (rEqD G.K) := eqK_D c.hK c.u
theorem opNe (c : Cok G X W k) : OpR X (compareOp .NotEq) (rNeD G.K) := neK_D c.hK c.u
def cmpI (g : Int → Int → Bool) : D → D → Option Fv
  | .int i, .int j => some (.sh (.bl (g i j)))
  | _, _ => none
theorem sCmp {g : Int → Int → Bool} : OpS G (rI0 fun i j => .bl (g i j)) (cmpI g) := by
  intro H F x y d e fv Q fo r1 r2 hf p
  cases d with
  | int i =>
    cases e with
    | int j => cases r1; cases r2; cases hf; exact ⟨i, j, rfl, rfl, p.sh0 (.bl _)⟩
    | _ => cases hf
  | _ => cases hf
abbrev ltD := cmpI fun i j => decide (i < j)
abbrev leD := cmpI fun i j => decide (i ≤ j)
abbrev gtD := cmpI fun i j => decide (j < i)
abbrev geD := cmpI fun i j => decide (j ≤ i)
def isNon : D → Bool
  | .non => true
  | _ => false
def isD : D → D → Option Fv
  | d, .non => some (.sh (.bl (isNon d)))
  | .bl a, .bl b => some (.sh (.bl (decide (a = b))))
  | _, _ => none
def isntD : D → D → Option Fv
  | d, .non => some (.sh (.bl (!isNon d)))
  | .bl a, .bl b => some (.sh (.bl (!decide (a = b))))
  | _, _ => none
theorem Rt.non_iff {x : V} {d : D} (r : Rt G H F x d) : decide (x = .non) = isNon d := by
  cases d with
  | lst a => obtain ⟨_, _, rfl, _⟩ := r; rfl
  | dct a => obtain ⟨_, _, rfl, _⟩ := r; rfl
  | dcT a => obtain ⟨_, _, rfl, _⟩ := r; rfl
  | ins a b => obtain ⟨_, _, _, _, rfl, _⟩ := r; rfl
  | non => cases r; rfl
  | bl b => cases r; rfl
  | int b => cases r; rfl
  | str b => cases r; rfl
  | ty b => cases r; rfl
  | ref b => cases r; rfl
  | flz b => cases r; rfl
  | tup b => cases r; rfl
theorem sIs : OpS G (fun x y H Q => (y = .non ∧ Q (.bl (decide (x = .non))) H) ∨ rIsB x y H Q) isD := by
  intro H F x y d e fv Q fo r1 r2 hf p
  unfold isD at hf
  split at hf
  · cases hf
    have r2 : Rp G H F y .non := r2
    cases r2
    refine .inl ⟨rfl, ?_⟩
    rw [r1.non_iff]
    exact p.sh0 (.bl _)
  · cases hf
    cases r1; cases r2
    exact .inr ⟨_, _, rfl, rfl, p.sh0 (.bl _)⟩
  · cases hf
theorem sIsnt : OpS G (fun x y H Q => (y = .non ∧ Q (.bl (!decide (x = .non))) H) ∨ rNotB x y H Q) isntD := by
  intro H F x y d e fv Q fo r1 r2 hf p
  unfold isntD at hf
  split at hf
  · cases hf
    have r2 : Rp G H F y .non := r2
    cases r2
    refine .inl ⟨rfl, ?_⟩
    rw [r1.non_iff]
    exact p.sh0 (.bl _)
  · cases hf
    cases r1; cases r2
    exact .inr ⟨_, _, rfl, rfl, p.sh0 (.bl _)⟩
  · cases hf
/-- x in y -/
def strIn (x y : List Nat) : Bool := match x with
  | [c] => decide (c ∈ y)
  | _ => !(Builtin.Str.occurrences (sl y) (sl x) 0 (sl y).length 1).isEmpty
def flatD : D → Bool
  | .non => true
  | .bl _ => true
  | .int _ => true
  | .str _ => true
  | _ => false
def inO (neg : Bool) : D → D → Option Fv
  | .str x, .str y => some (.sh (.bl (if neg = true then !strIn x y else strIn x y)))
  | d, .lst ds => if pl 50 d = true ∧ ds.all (pl 50) = true then some (.sh (.bl (if neg = true then !ds.any (fun z => eqD z d) else ds.any fun z => eqD z d))) else none
  | d, .tup ds => if flatD d = true ∧ ds.all flatD = true then some (.sh (.bl (if neg = true then !ds.any (fun z => eqD z d) else ds.any fun z => eqD z d))) else none
  | _, _ => none
theorem eqV_D {x y : V} {d e : D} (r1 : Rp G H F x d) (r2 : Rp G H F y e) (h1 : flatD d = true) (h2 : flatD e = true) : eqV x y = eqD d e ∧ flatV x = true := by
  cases d <;> first | (cases h1; done) | (cases e <;> first | (cases h2; done) | (cases r1; cases r2; refine ⟨?_, rfl⟩; simp [eqV, eqD, sl_inj]))
theorem inV_D {x : V} {d : D} (r : Rp G H F x d) (hd : flatD d = true) : ∀ {vs : List V} {ds : List D}, RpAll G H F vs ds → ds.all flatD = true → vs.all flatV = true ∧ inV x vs = ds.any fun z => eqD z d
  | _, _, .nil, _ => ⟨rfl, rfl⟩
  | v :: vs, e :: ds, .cons a b, h => by
    rw [List.all_cons, Bool.and_eq_true] at h
    obtain ⟨i1, i2⟩ := inV_D r hd b h.2
    obtain ⟨j1, j2⟩ := eqV_D a r h.1 hd
    refine ⟨by rw [List.all_cons, i1, j2]; rfl, ?_⟩
    unfold inV at i2 ⊢
    rw [List.any_cons, List.any_cons, j1, i2]
theorem any_py {d : D} (hd : pl 50 d = true) : ∀ {ds : List D}, ds.all (pl 50) = true → ((toPys ds).any fun z => PyData.eqv z (toPy d)) = ds.any fun z => eqD z d
  | [], _ => rfl
  | e :: ds, h => by
    rw [List.all_cons, Bool.and_eq_true] at h
    rw [toPys, List.any_cons, List.any_cons, any_py hd h.2, eqv_py e d h.1 hd]
theorem pl_mono : ∀ {n m : Nat} {d : D}, n ≤ m → pl n d = true → pl m d = true
  | 0, m, d, _, h => by cases d <;> first | (cases m <;> rfl) | (simp [pl] at h)
  | n + 1, 0, d, hm, h => by omega
  | n + 1, m + 1, d, hm, h => by
    cases d with
    | tup xs => simp only [pl, List.all_eq_true] at h ⊢; exact fun x hx => pl_mono (by omega) (h x hx)
    | lst xs => simp only [pl, List.all_eq_true] at h ⊢; exact fun x hx => pl_mono (by omega) (h x hx)
    | _ => first | rfl | (simp [pl] at h)
def rInO (K : PySem.W.Frag) (neg : Bool) : R2 := fun x y H Q =>
  (∃ (c : Nat) (z : Str), x = .str ⟨#[c]⟩ ∧ y = .str z ∧ Q (.bl (if neg = true then !decide (c ∈ z.cps.toList) else decide (c ∈ z.cps.toList))) H) ∨
  (∃ i j, x = .str i ∧ y = .str j ∧ Q (.bl (if neg = true then !(!(Builtin.Str.occurrences j i 0 j.length 1).isEmpty) else !(Builtin.Str.occurrences j i 0 j.length 1).isEmpty)) H) ∨
  (∃ d ds, Dp K H x d ∧ Dp K H y (.list ds) ∧ SeqAt.shaped d = true ∧ SeqAt.shaped (.list ds) = true ∧ Q (.bl (if neg = true then !ds.any fun z => PyData.eqv z d else ds.any fun z => PyData.eqv z d)) H) ∨ rIn K neg x y H Q
theorem sIn {neg : Bool} : OpS G (rInO G.K neg) (inO neg) := by
  intro H F x y d e fv Q fo r1 r2 hf p
  cases e with
  | str b =>
    cases d with
    | str a =>
      have r1 : Rp G H F x (.str a) := r1
      have r2 : Rp G H F y (.str b) := r2
      cases r1 with
      | str h1 =>
        cases r2 with
        | str h2 =>
          cases hf
          have gen : strIn a b = !(Builtin.Str.occurrences (sl b) (sl a) 0 (sl b).length 1).isEmpty → rInO G.K neg (.str (sl a)) (.str (sl b)) H Q := fun ge => by
            rw [ge] at p
            refine .inr (.inl ⟨_, _, rfl, rfl, ?_⟩)
            cases neg <;> exact p.sh0 (.bl _)
          cases a with
          | nil => exact gen rfl
          | cons c a =>
            cases a with
            | cons c2 a => exact gen rfl
            | nil =>
              refine .inl ⟨c, sl b, rfl, rfl, ?_⟩
              rw [show (sl b).cps.toList = b from tl_sl b]
              cases neg <;> exact p.sh0 (.bl _)
    | _ => cases hf
  | lst ds =>
    have go : pl 50 d = true ∧ ds.all (pl 50) = true → fv = .sh (.bl (if neg = true then !ds.any (fun z => eqD z d) else ds.any fun z => eqD z d)) → rInO G.K neg x y H Q := by
      rintro c rfl
      obtain ⟨a1, a2⟩ := r1.shaped (pl_mono (by omega) c.1)
      obtain ⟨b1, b2⟩ := r2.shaped (d := .lst ds) (pl_mono (n := 51) (by omega) c.2)
      refine .inr (.inr (.inl ⟨_, _, a1, by simpa [toPy] using b1, a2, by simpa [toPy] using b2, ?_⟩))
      rw [any_py c.1 c.2]
      exact p.sh0 (.bl _)
    cases d <;> (simp only [inO] at hf; split at hf; · (cases hf; exact go (by assumption) rfl)
                 · cases hf)
  | tup ds =>
    have go : flatD d = true ∧ ds.all flatD = true → fv = .sh (.bl (if neg = true then !ds.any (fun z => eqD z d) else ds.any fun z => eqD z d)) → rInO G.K neg x y H Q := by
      rintro c rfl
      have r1 : Rp G H F x d := by cases d <;> first | exact r1 | (cases c.1; done)
      have r2 : Rp G H F y (.tup ds) := r2
      cases r2 with
      | tup s r =>
        obtain ⟨i1, i2⟩ := inV_D r1 c.1 r c.2
        refine .inr (.inr (.inr ⟨_, _, rfl, .inr s.sq, ?_, i1, ?_⟩))
        · cases d <;> first | (cases r1; rfl) | (cases c.1; done)
        · rw [i2]
          exact p.sh0 (.bl _)
    cases d <;> (simp only [inO] at hf; split at hf; · (cases hf; exact go (by assumption) rfl)
                 · cases hf)
  | _ => cases d <;> cases hf
end
end
end PL

namespace PL
open PySem PySem.Spec PyProof.Rows L2 AB
open TL (tl)
section
variable {G : Gx} {X : Cx} {W : WX} {H : Hp} {F : Addr → Prop} {k : Nat}

/-! ### comparisons by name -/
def OpP (G : Gx) (X : Cx) (op : CmpOp) (f : D → D → Option Fv) : Prop := ∃ r, OpR X (compareOp op) r ∧ OpS G r f
theorem cEq (c : Cok G X W k) : OpP G X .Eq eqO := ⟨_, opEq c, sEq⟩
theorem cNe (c : Cok G X W k) : OpP G X .NotEq neO := ⟨_, opNe c, sNe⟩
theorem cLt : OpP G X .Lt ltD := ⟨_, op_lt, sCmp⟩
theorem cLe : OpP G X .LtE leD := ⟨_, op_le, sCmp⟩
theorem cGt : OpP G X .Gt gtD := ⟨_, op_gt, sCmp⟩
theorem cGe : OpP G X .GtE geD := ⟨_, op_ge, sCmp⟩
theorem cIs : OpP G X .Is isD := ⟨_, OpR.or op_isN op_isBl, sIs⟩
theorem cIsnt : OpP G X .IsNot isntD := ⟨_, OpR.or op_notN op_notBl, sIsnt⟩
theorem cIn (c : Cok G X W k) : OpP G X .In (inO false) := by
  refine ⟨rInO G.K false, ?_, sIn⟩
  have h := OpR.or (X := X) op_in_sign (OpR.or op_in_str (OpR.or (op_inD c.u1) op_in_seq))
  rw [← c.hK]
  intro pins s σ H x y v u Q I rx ry q
  refine h pins s σ H x y v u Q I rx ry ?_
  rcases q with q | q | q | q
  · exact .inl q
  · exact .inr (.inl q)
  · exact .inr (.inr (.inl q))
  · exact .inr (.inr (.inr q))
theorem cNotIn (c : Cok G X W k) : OpP G X .NotIn (inO true) := by
  refine ⟨rInO G.K true, ?_, sIn⟩
  have h := OpR.or (X := X) op_notIn_sign (OpR.or op_notin_str (OpR.or (op_notInD c.u1) op_notIn_seq))
  rw [← c.hK]
  intro pins s σ H x y v u Q I rx ry q
  refine h pins s σ H x y v u Q I rx ry ?_
  rcases q with ⟨a, b, e1, e2, q⟩ | q | q | q
  · refine .inl ⟨a, b, e1, e2, ?_⟩
    simpa using q
  · exact .inr (.inl q)
  · exact .inr (.inr (.inl q))
  · exact .inr (.inr (.inr q))
section
variable {a b c : Expr} {da db dc : Dn Fv} {pos : Pos} {op op' : CmpOp} {f g : D → D → Option Fv}
theorem eCmp (o : OpP G X op f) (ha : PEp G X W a da) (hb : PEp G X W b db) (hm : behindInMarks op b = false) : PEp G X W (.Compare a [op] [b] pos) (d2 f da db) := by
  obtain ⟨r, ho, hs⟩ := o
  exact e2 (pe_cmpR ho ha hb hm) hs
theorem tCmp (o : OpP G X op f) (ha : PEp G X W a da) (hb : PEp G X W b db) (hm : behindInMarks op b = false) : PTp G X W (.Compare a [op] [b] pos) (bT (d2 f da db)) := by
  obtain ⟨r, ho, hs⟩ := o
  exact tB_of (pt_cmpR ho ha hb hm) fun _ _ _ h => e2_read hs h
/-- a < b <= c -/
def dChain (f g : D → D → Option Fv) (da db dc : Dn Fv) : Dn Fv := fun ε => (da ε).bind fun x ε1 => (db ε1).bind fun y ε2 => (o2 ε2 f x.old y.old).bind fun z ε3 => match z with
  | .sh (.bl true) => (dc ε3).bind fun w ε4 => o2 ε4 g y.old w.old
  | .sh (.bl false) => .ok (.sh (.bl false)) ε3
  | _ => .no
theorem o2_eps {ε ε' : Ev} {f : D → D → Option Fv} {x y fv : Fv} (h : o2 ε f x y = .ok fv ε') : ε' = ε := by
  unfold o2 at h
  split at h
  · split at h
    · cases h; rfl
    · cases h; rfl
    · cases h
  · cases h
theorem o2_noexc {ε ε' : Ev} {f : D → D → Option Fv} {x y : Fv} {z : Xc} : o2 ε f x y ≠ .exc z ε' := fun h => by
  unfold o2 at h
  split at h
  · split at h <;> cases h
  · cases h
theorem chain_read {r r' : R2} (hs : OpS G r f) (hs' : OpS G r' g) {σ : L2.St} {H : Hp} {Q : VK} (h : wE G W (dChain f g da db dc) σ H Q) : tChain r r' (wE G W da) (wE G W db) (wE G W dc) σ H Q := by
  obtain ⟨C, ε, ok, post⟩ := h
  refine wE_bind (P := PostE G W C σ ε H Q) ok post (fun _ _ h => h) id fun fx ε1 x H1 st1 ok1 vr1 p1 => ?_
  refine wE_bind (P := PostE G W C σ ε1 H1 Q) ok1 (p1.from st1) (fun _ _ h => h) id fun fy ε2 y H2 st2 ok2 vr2 p2 => ?_
  have p2 := p2.from st2
  have v1 := (vr1.old .nil).stp st2
  have v2 := vr2.old (.nil)
  have vs : VRs G C H2 σ ε2 [x, y] [fx.old, fy.old] := by
    generalize fx.old = a at v1
    cases v1 with
    | sh r _ => exact .sh r v2
    | «at» r _ => exact .at r v2
  cases q : o2 ε2 f fx.old fy.old with
  | no => rw [q] at p2; exact p2.elim
  | exc z ε' => exact absurd q o2_noexc
  | ok z ε3 =>
    obtain rfl := o2_eps q
    rw [q] at p2
    refine o2_sound (W := W) hs ok2 vs ?_
    rw [q]
    intro zv H3 st3 ok3 vrz
    have p3 := PostE.from st3 p2
    cases z with
    | sh d =>
      cases d with
      | bl t =>
        have rz : Rp G H3 (C.F σ ε3) zv (.bl t) := vrz
        cases rz
        refine ⟨t, rfl, ?_⟩
        cases t with
        | false => exact p3 _ H3 Stp.refl ok3 (.bl false)
        | true =>
          simp only [Re.bind] at p3
          refine wE_bind (P := PostE G W C σ ε3 H3 Q) ok3 p3 (fun _ _ h => h) id fun fw ε4 w H4 st4 ok4 vr4 p4 => ?_
          have v3 := (v2.stp st3).stp st4
          have v4 := vr4.old .nil
          have vs2 : VRs G C H4 σ ε4 [y, w] [fy.old, fw.old] := by
            generalize fy.old = a at v3
            cases v3 with
            | sh r _ => exact .sh r v4
            | «at» r _ => exact .at r v4
          exact o2_sound hs' ok4 vs2 (p4.from st4)
      | _ => exact p3.elim
    | _ => exact p3.elim
theorem eChain (o : OpP G X op f) (o' : OpP G X op' g) (ha : PEp G X W a da) (hb : PEp G X W b db) (hc : PEp G X W c dc) (hm : lastMarks [op, op'] [b, c] = false := by with_unfolding_all rfl) : PEp G X W (.Compare a [op, op'] [b, c] pos) (dChain f g da db dc) := by
  obtain ⟨r, ho, hs⟩ := o
  obtain ⟨r', ho', hs'⟩ := o'
  exact PE.imp (pe_chain ho ho' ha hb hc hm) fun _ _ _ h => chain_read hs hs' h
theorem tChn (o : OpP G X op f) (o' : OpP G X op' g) (ha : PEp G X W a da) (hb : PEp G X W b db) (hc : PEp G X W c dc) (hm : lastMarks [op, op'] [b, c] = false := by with_unfolding_all rfl) : PTp G X W (.Compare a [op, op'] [b, c] pos) (bT (dChain f g da db dc)) := by
  obtain ⟨r, ho, hs⟩ := o
  obtain ⟨r', ho', hs'⟩ := o'
  exact tB_of (pt_chain ho ho' ha hb hc hm) fun _ _ _ h => chain_read hs hs' h
end

/-! ### a[i] -/
def keyD : D → Option Key
  | .int i => some (.inl i)
  | .str l => some (.inr (sl l))
  | _ => none
def valD {κ : Type} [DecidableEq κ] (es : List (κ × D)) (k : κ) : Option D := (es.find? fun kv => decide (kv.1 = k)).map (·.2)
def ixD : D → D → Option Fv
  | .lst ds, .int i => (atI ds i).map .sh
  | .tup ds, .int i => (atI ds i).map .sh
  | .str l, .int i => if l.length ≤ 16000000 then (atI l i).map fun c => .sh (.str [c]) else none
  | .dct es, d => (keyD d).bind fun k => (valD es k).map .sh
  | _, _ => none
theorem atI_rp {vs : List V} {ds : List D} (r : RpAll G H F vs ds) {i : Int} {d : D} (h : atI ds i = some d) : ∃ v, atI vs i = some v ∧ Rp G H F v d := by
  unfold atI at h ⊢
  rw [r.length]
  cases q : ixN ds.length i with
  | none => rw [q] at h; cases h
  | some j =>
    rw [q] at h
    obtain ⟨v, e, rv⟩ := r.get' h
    exact ⟨v, e, rv⟩
theorem valV_rp {κ : Type} [DecidableEq κ] {k : κ} : ∀ {kvs : List (κ × V)} {es : List (κ × D)}, kvs.map (·.1) = es.map (·.1) → RpAll G H F (kvs.map (·.2)) (es.map (·.2)) → ∀ {d}, valD es k = some d → ∃ v, valV kvs k = some v ∧ Rp G H F v d
  | [], [], _, _, d, h => by cases h
  | [], _ :: _, e, _, d, h => by simp at e
  | _ :: _, [], e, _, d, h => by simp at e
  | p :: kvs, q :: es, e, r, d, h => by
    simp only [List.map_cons, List.cons.injEq] at e
    cases r with
    | cons r0 rs =>
      unfold valD at h
      unfold valV
      rw [List.find?_cons] at h ⊢
      by_cases c : p.1 = k
      · have c2 : q.1 = k := by rw [← e.1]; exact c
        rw [decide_eq_true c2] at h
        rw [decide_eq_true c]
        cases h
        exact ⟨_, rfl, r0⟩
      · have c2 : ¬q.1 = k := by rw [← e.1]; exact c
        rw [decide_eq_false c2] at h
        rw [decide_eq_false c]
        exact valV_rp (k := k) e.2 rs h
theorem valV_none {κ : Type} [DecidableEq κ] {k : κ} : ∀ {kvs : List (κ × V)} {es : List (κ × D)}, kvs.map (·.1) = es.map (·.1) → valD es k = none → valV kvs k = none
  | [], [], _, h => rfl
  | [], _ :: _, e, h => by simp at e
  | _ :: _, [], e, h => by simp at e
  | p :: kvs, q :: es, e, h => by
    simp only [List.map_cons, List.cons.injEq] at e
    unfold valD at h
    unfold valV
    rw [List.find?_cons] at h ⊢
    by_cases c : p.1 = k
    · have c2 : q.1 = k := by rw [← e.1]; exact c
      rw [decide_eq_true c2] at h
      cases h
    · have c2 : ¬q.1 = k := by rw [← e.1]; exact c
      rw [decide_eq_false c2] at h
      rw [decide_eq_false c]
      exact valV_none (k := k) e.2 h
theorem Rt.key {v : V} {d : D} {k : Key} (r : Rt G H F v d) (h : keyD d = some k) : v = kV k := by
  cases d with
  | int i => cases r; cases h; rfl
  | str l => cases r; cases h; rfl
  | _ => cases h
theorem sIx (d e : D) : OpAt G (rIx G.K) ixD d e ∨ OpAt G (fun x y H Q => ∃ a v, x = .ref a ∧ DGet H a y (some v) ∧ Q v H) ixD d e := by
  cases d with
  | lst ds =>
    refine .inl fun H F x y fv Q fo r1 r2 h p => ?_
    obtain ⟨a, vs, rfl, ea, ra⟩ := r1
    cases e with
    | int i =>
      cases r2
      cases q : atI ds i with
      | none => simp [ixD, q] at h
      | some d =>
        simp [ixD, q] at h
        subst h
        obtain ⟨v, ev, rv⟩ := atI_rp ra q
        exact .inl ⟨a, vs, i, v, rfl, rfl, SqL.of ea, ev, p.sh0 rv⟩
    | _ => cases h
  | tup ds =>
    refine .inl fun H F x y fv Q fo r1 r2 h p => ?_
    have r1 : Rp G H F x (.tup ds) := r1
    cases r1 with
    | tup s ra =>
      cases e with
      | int i =>
        cases r2
        cases q : atI ds i with
        | none => simp [ixD, q] at h
        | some d =>
          simp [ixD, q] at h
          subst h
          obtain ⟨v, ev, rv⟩ := atI_rp ra q
          exact .inr (.inl ⟨_, _, i, v, rfl, rfl, s.sq, ev, p.sh0 rv⟩)
      | _ => cases h
  | str l =>
    refine .inl fun H F x y fv Q fo r1 r2 h p => ?_
    have r1 : Rp G H F x (.str l) := r1
    cases r1 with
    | str hs =>
      cases e with
      | int i =>
        cases r2
        simp only [ixD] at h
        split at h
        · rename_i hl
          cases q : atI l i with
          | none => rw [q] at h; cases h
          | some c =>
            rw [q] at h
            cases h
            refine .inr (.inr ⟨sl l, i, c, rfl, rfl, by rw [sl_len]; exact sz_le hl, by rw [show (sl l).cps.toList = l from tl_sl l]; exact q, p.sh0 (.str (sOk_mem hs ?_))⟩)
            unfold atI at q
            cases q2 : ixN l.length i with
            | none => rw [q2] at q; cases q
            | some j => rw [q2] at q; exact List.mem_of_getElem? q
        · cases h
      | _ => cases h
  | dct es =>
    refine .inr fun H F x y fv Q fo r1 r2 h p => ?_
    obtain ⟨a, kvs, rfl, ea, ek, ra⟩ := r1
    have h : (keyD e).bind (fun k => (valD es k).map .sh) = some fv := by cases e <;> exact h
    cases q : keyD e with
    | none => rw [q] at h; cases h
    | some key =>
      rw [q] at h
      simp only [Option.bind_some] at h
      cases q2 : valD es key with
      | none => rw [q2] at h; cases h
      | some d =>
        rw [q2] at h
        cases h
        obtain ⟨v, ev, rv⟩ := valV_rp ek ra q2
        have g := DGet.k (k := key) ea
        rw [ev] at g
        exact ⟨a, v, rfl, by rw [r2.key q]; exact g, p.sh0 rv⟩
  | _ => exact .inl fun H F x y fv Q fo r1 r2 h p => by cases e <;> cases h
theorem eIx {a b : Expr} {da db : Dn Fv} {pos : Pos} (c : Cok G X W k) (ha : PEp G X W a da) (hb : PEp G X W b db) (hs : PlainIx b) (hn : NoSl b) : PEp G X W (.Subscript a b pos) (d2 ixD da db) := by
  refine e2or (pe_ix (ixK_seq (K := G.K) c.hK) ha hb hs) ?_ sIx
  exact pe_dget (by have := c.u; omega) ha hb hn

/-! ### a[lo:hi] -/
def cutL {α : Type} (xs : List α) (lo hi : Option Int) : List α := (xs.drop (HT.sIx xs.length 0 lo)).take (HT.sIx xs.length xs.length hi - HT.sIx xs.length 0 lo)
theorem RpAll.cut {vs : List V} {ds : List D} (r : RpAll G H F vs ds) (lo hi : Option Int) : RpAll G H F (cutV vs lo hi) (cutL ds lo hi) := by
  unfold cutV cutL
  rw [r.length]
  exact (r.drop _).take _
theorem cutS_sl (l : List Nat) (lo hi : Option Int) : cutS (sl l) lo hi = sl (cutL l lo hi) := by
  unfold cutS cutL
  rw [sl_len, show (sl l).cps.toList = l from tl_sl l]
def slD (d : D) (lo hi : Option Int) : Option Fv := match d with
  | .lst ds => some (.fr (.lst (cutL ds lo hi)))
  | .flz ds => some (.fr (.lst (cutL ds lo hi)))
  | .tup ds => some (.sh (.tup (cutL ds lo hi)))
  | .str l => if l.length ≤ 16000000 then some (.sh (.str (cutL l lo hi))) else none
  | _ => none
theorem cutL_mem {α : Type} {l : List α} {lo hi : Option Int} {c : α} (h : c ∈ cutL l lo hi) : c ∈ l := List.mem_of_mem_drop (List.mem_of_mem_take h)
def partF (p : Option (Dn Fv)) : Dn (Option Int) := fun ε => match p with
  | none => .ok none ε
  | some d => (d ε).bind fun fv ε1 => match rd ε1 fv with
    | some (.int i) => .ok (some i) ε1
    | _ => .no
def dSl (de : Dn Fv) (lo hi : Option (Dn Fv)) : Dn Fv := fun ε => (de ε).bind fun x ε1 => (partF lo ε1).bind fun l ε2 => (partF hi ε2).bind fun u ε3 => o1 ε3 (fun d => slD d l u) x.old
def PostO (G : Gx) (W : WX) (C : Fr) (σ : L2.St) (ε : Ev) (H : Hp) (Q : Option Int → Hp → Prop) : Re (Option Int) → Prop
  | .ok b ε' => ∀ H', Stp σ ε σ ε' H H' → Ok G C H' σ ε' → Q b H'
  | .exc x ε' => PX G W C σ ε H x ε'
  | .no => False
def wO (G : Gx) (W : WX) (den : Dn (Option Int)) : TO := fun σ H Q => ∃ C ε, Ok G C H σ ε ∧ PostO G W C σ ε H Q (den ε)
theorem PO.imp {e : Option Expr} {t t' : TO} (h : PO X e t) (k : ∀ σ H Q, t' σ H Q → t σ H Q) : PO X e t' := ⟨fun pins s σ H Q I z => h.run pins s σ H Q I (k σ H Q z)⟩
theorem wO_bind {γ : Type} {P : Re γ → Prop} {C : Fr} {σ : L2.St} {ε : Ev} {da : Dn (Option Int)} {k : Option Int → Ev → Re γ} {Q' : Option Int → Hp → Prop} (ok : Ok G C H σ ε) (hP : P ((da ε).bind k)) (hx : ∀ x ε', P (.exc x ε') → PX G W C σ ε H x ε') (hn : ¬P .no)
    (hk : ∀ b ε1 H1, Stp σ ε σ ε1 H H1 → Ok G C H1 σ ε1 → P (k b ε1) → Q' b H1) : wO G W da σ H Q' := by
  refine ⟨C, ε, ok, ?_⟩
  cases e : da ε with
  | ok fv ε1 => rw [e] at hP; exact fun H1 st ok1 => hk fv ε1 H1 st ok1 hP
  | exc x ε' => rw [e] at hP; exact hx x ε' hP
  | no => rw [e] at hP; exact hn hP
theorem oN0 : PO X none (wO G W (partF none)) := PO.imp po_none fun σ H Q ⟨C, ε, ok, post⟩ => post H Stp.refl ok
theorem oS {e : Expr} {de : Dn Fv} (he : PEp G X W e de) : PO X (some e) (wO G W (partF (some de))) := by
  refine PO.imp (po_some he) ?_
  rintro σ H Q ⟨C, ε, ok, post⟩
  refine wE_bind (P := PostO G W C σ ε H Q) ok post (fun _ _ h => h) id fun fv ε1 v H1 st1 ok1 vr p => ?_
  cases q : rd ε1 fv with
  | none => rw [q] at p; exact p.elim
  | some d =>
    rw [q] at p
    have rt := (vr.old .nil).rt ok1 (ds := [d]) (by cases fv <;> simp_all [rds, rd, Fv.old])
    cases rt with
    | cons r _ =>
      cases d with
      | int i => cases r; exact ⟨i, rfl, p H1 st1 ok1⟩
      | _ => exact p.elim
theorem eSl {e : Expr} {lo hi : Option Expr} {de : Dn Fv} {dl dh : Option (Dn Fv)} {p2 pos : Pos} (c : Cok G X W k) (he : PEp G X W e de) (hl : PO X lo (wO G W (partF dl))) (hh : PO X hi (wO G W (partF dh))) : PEp G X W (.Subscript e (.Slice lo hi none p2) pos) (dSl de dl dh) := by
  have hr : SlR X (fun x lo hi H Q => rSlL G.K x lo hi H Q ∨ rSlA G.K x lo hi H Q ∨ rSlS x lo hi H Q) := c.hK ▸ SlR.or sl_list (SlR.or sl_tupA sl_str)
  refine PE.imp (pe_slice hr he hl hh) ?_
  rintro σ H Q ⟨C, ε, ok, post⟩
  refine wE_bind (P := PostE G W C σ ε H Q) ok post (fun _ _ h => h) id fun fx ε1 x H1 st1 ok1 vr1 p1 => ?_
  refine wO_bind (P := PostE G W C σ ε1 H1 Q) ok1 (p1.from st1) (fun _ _ h => h) id fun l ε2 H2 st2 ok2 p2 => ?_
  refine wO_bind (P := PostE G W C σ ε2 H2 Q) ok2 (p2.from st2) (fun _ _ h => h) id fun u ε3 H3 st3 ok3 p3 => ?_
  refine o1_sound (r := fun x H Q => rSlL G.K x l u H Q ∨ rSlA G.K x l u H Q ∨ rSlS x l u H Q) ?_ ok3 (((vr1.old .nil).stp st2).stp st3) (p3.from st3)
  intro H F x d fv Q fo r h p
  cases d with
  | lst ds =>
    obtain ⟨a, vs, rfl, ea, ra⟩ := r
    cases h
    exact .inl ⟨a, vs, rfl, SqL.of ea, fun q hq => p.lst (ra.cut l u) hq⟩
  | flz ds =>
    have r : Rp G H F x (.flz ds) := r
    cases r with
    | flz s ra =>
      cases h
      exact .inl ⟨_, _, rfl, s.sq, fun q hq => p.lst (ra.cut l u) hq⟩
  | tup ds =>
    have r : Rp G H F x (.tup ds) := r
    cases r with
    | @tup a vs _ s ra =>
      cases h
      refine .inr (.inl ⟨a, vs, rfl, s.sq, fun ⟨h1, h2⟩ => ?_, fun _ q hq => p.tup (ra.cut l u) hq (fo.n hq)⟩)
      have : cutL ds l u = ds := by
        unfold cutL
        rw [← ra.length, h1, h2, List.drop_zero, Nat.sub_zero, List.take_of_length_le (by rw [ra.length]; exact Nat.le_refl _)]
      rw [this] at p
      exact p.sh0 (.tup s ra)
  | str w =>
    have r : Rp G H F x (.str w) := r
    cases r with
    | str hs =>
      simp only [slD] at h
      split at h
      · cases h
        refine .inr (.inr ⟨sl w, rfl, by rw [sl_len]; exact sz_le (by assumption), ?_⟩)
        rw [cutS_sl]
        exact p.sh0 (.str (sOk_sub hs fun c hc => cutL_mem hc))
      · cases h
  | _ => cases h
/-- text[::-1] -/
def revSD : D → Option Fv
  | .str l => if l.length ≤ 16000000 then some (.sh (.str l.reverse)) else none
  | _ => none
theorem eRevS {e : Expr} {de : Dn Fv} {j : Nat} {p1 p2 p3 pos : Pos} (he : PEp G X W e de) : PEp G X W (.Subscript e (.Slice none none (some (.UnaryOp .USub (.Constant (.int 1) j p1) p2)) p3) pos) (d1 revSD de) := by
  refine e1 (r := fun x H Q => ∃ z, x = .str z ∧ z.length ≤ sizeLine ∧ Q (.str (sl (tl z).reverse)) H) (pe_revS he) ?_
  intro H F x d fv Q fo r h p
  cases d with
  | str w =>
    have r : Rp G H F x (.str w) := r
    cases r with
    | str hs =>
      simp only [revSD] at h
      split at h
      · cases h
        refine ⟨sl w, rfl, by rw [sl_len]; exact sz_le (by assumption), ?_⟩
        rw [tl_sl]
        exact p.sh0 (.str (sOk_sub hs fun c hc => List.mem_reverse.mp hc))
      · cases h
  | _ => cases h

/-! ### built-ins -/
def BP (G : Gx) (X : Cx) (f : Value) (d : List D → Option Fv) : Prop := ∃ r, CallR X f r ∧ OpN G r d
section
variable {x : Str} {p pos : Pos} {e : Expr} {es : List Expr} {id T : String} {da : Dn (List Fv)} {d : List D → Option Fv}
theorem eB (c : Cok G X W k) (o : BP G X (.builtin id) d) (hg : Gl X x) (hm : G.mg x = none) (hv : bootBuiltins x = some (.builtin id)) (ha : PAp G X W (e :: es) da) (hn : x ≠ "__name__" := by decide) (hdb : (x == ("__debug__" : Str)) = false := by decide)
    (he : starEach (e :: es) X.env = (false, eval e X.env) :: starEach es X.env := by rfl) (hpl : (backTo pos (starEach es X.env)).any (·.1) = false := by rfl) : PEp G X W (.Call (.Name x p) (e :: es) [] pos) (dN d da) := by
  obtain ⟨r, hc, hs⟩ := o
  exact eN (pe_callB hc hg (by rw [c.hm]; exact hm) hv ha hn hdb he hpl) hs
theorem eT (c : Cok G X W k) (o : BP G X (.type T) d) (hg : Gl X x) (hm : G.mg x = none) (hv : bootBuiltins x = some (.type T)) (ha : PAp G X W (e :: es) da) (hn : x ≠ "__name__" := by decide) (hdb : (x == ("__debug__" : Str)) = false := by decide)
    (he : starEach (e :: es) X.env = (false, eval e X.env) :: starEach es X.env := by rfl) (hpl : (backTo pos (starEach es X.env)).any (·.1) = false := by rfl) : PEp G X W (.Call (.Name x p) (e :: es) [] pos) (dN d da) := by
  obtain ⟨r, hc, hs⟩ := o
  exact eN (pe_callTy hc hg (by rw [c.hm]; exact hm) hv ha hn hdb he hpl) hs
end
theorem RtAll.one {vs : List V} {d : D} (h : RtAll G H F vs [d]) : ∃ v, vs = [v] ∧ Rt G H F v d := by
  cases h with
  | cons a b => cases b; exact ⟨_, rfl, a⟩
theorem RtAll.two {vs : List V} {d e : D} (h : RtAll G H F vs [d, e]) : ∃ v w, vs = [v, w] ∧ Rt G H F v d ∧ Rt G H F w e := by
  cases h with
  | cons a b =>
    obtain ⟨w, rfl, r⟩ := b.one
    exact ⟨_, w, rfl, a, r⟩
def lenD : List D → Option Fv
  | [.str l] => if l.length ≤ 16000000 then some (.sh (.int l.length)) else none
  | [.lst ds] => some (.sh (.int ds.length))
  | [.flz ds] => some (.sh (.int ds.length))
  | [.tup ds] => some (.sh (.int ds.length))
  | [.dct es] => some (.sh (.int es.length))
  | _ => none
theorem bLen (c : Cok G X W k) : BP G X (.builtin "len") lenD := by
  refine ⟨_, CallR.or (lenK (K := G.K) c.hK) call_lenD, ?_⟩
  intro H F xs ds fv Q fo rs h p
  unfold lenD at h
  split at h
  · obtain ⟨v, rfl, r⟩ := rs.one
    cases r
    split at h
    · cases h
      exact .inl ⟨_, _, rfl, ⟨by rw [sl_len]; exact sz_le (by assumption), rfl⟩, by rw [sl_len]; exact p.sh0 (.int _)⟩
    · cases h
  · obtain ⟨v, rfl, a, vs, rfl, ea, ra⟩ := rs.one
    cases h
    exact .inl ⟨_, vs.length, rfl, .inl ⟨vs, SqL.of ea, rfl⟩, by rw [ra.length]; exact p.sh0 (.int _)⟩
  · obtain ⟨v, rfl, r⟩ := rs.one
    have r : Rp G H F v (.flz _) := r
    cases r with
    | flz s ra =>
      cases h
      exact .inl ⟨_, _, rfl, .inl ⟨_, s.sq, rfl⟩, by rw [ra.length]; exact p.sh0 (.int _)⟩
  · obtain ⟨v, rfl, r⟩ := rs.one
    have r : Rp G H F v (.tup _) := r
    cases r with
    | tup s ra =>
      cases h
      exact .inl ⟨_, _, rfl, .inr ⟨_, s.sq, rfl⟩, by rw [ra.length]; exact p.sh0 (.int _)⟩
  · obtain ⟨v, rfl, a, kvs, rfl, ea, ek, ra⟩ := rs.one
    cases h
    rename_i es
    refine .inr ⟨a, kvs, rfl, ea, ?_⟩
    have : kvs.length = es.length := by have := congrArg List.length ek; simpa using this
    rw [this]
    exact p.sh0 (.int _)
  · cases h
def absD : List D → Option Fv
  | [.int i] => some (.sh (.int (if i < 0 then -i else i)))
  | _ => none
theorem bAbs : BP G X (.builtin "abs") absD := by
  refine ⟨_, call_abs, ?_⟩
  intro H F xs ds fv Q fo rs h p
  unfold absD at h
  split at h
  · obtain ⟨v, rfl, r⟩ := rs.one
    cases r; cases h
    exact ⟨_, rfl, p.sh0 (.int _)⟩
  · cases h
def minD : List D → Option Fv
  | [.int i, .int j] => some (.sh (.int (if j < i then j else i)))
  | [.int i, .int j, .int l] => some (.sh (.int (min i (min j l))))
  | _ => none
theorem bMin (c : Cok G X W k) : BP G X (.builtin "min") minD := by
  refine ⟨_, CallR.or (call_min2 c.calm) (call_min3 c.calm), ?_⟩
  intro H F xs ds fv Q fo rs h p
  unfold minD at h
  split at h
  · obtain ⟨v, w, rfl, r, r'⟩ := rs.two
    cases r; cases r'; cases h
    exact .inl ⟨_, _, rfl, p.sh0 (.int _)⟩
  · cases rs with
    | cons a b =>
      obtain ⟨v, w, rfl, r, r'⟩ := b.two
      cases a; cases r; cases r'; cases h
      exact .inr ⟨_, _, _, rfl, p.sh0 (.int _)⟩
  · cases h
def maxD : List D → Option Fv
  | [.int i, .int j] => some (.sh (.int (if j > i then j else i)))
  | _ => none
theorem bMax (c : Cok G X W k) : BP G X (.builtin "max") maxD := by
  refine ⟨_, call_max2 c.calm, ?_⟩
  intro H F xs ds fv Q fo rs h p
  unfold maxD at h
  split at h
  · obtain ⟨v, w, rfl, r, r'⟩ := rs.two
    cases r; cases r'; cases h
    exact ⟨_, _, rfl, p.sh0 (.int _)⟩
  · cases h
def intD : List D → Option Fv
  | [.int i] => some (.sh (.int i))
  | [.bl b] => some (.sh (.int (if b then 1 else 0)))
  | _ => none
theorem bInt : BP G X (.type "int") intD := by
  refine ⟨_, call_int1, ?_⟩
  intro H F xs ds fv Q fo rs h p
  unfold intD at h
  split at h
  · obtain ⟨v, rfl, r⟩ := rs.one
    cases r; cases h
    exact .inl ⟨_, rfl, p.sh0 (.int _)⟩
  · obtain ⟨v, rfl, r⟩ := rs.one
    cases r; cases h
    exact .inr ⟨_, rfl, p.sh0 (.int _)⟩
  · cases h
def boolD : List D → Option Fv
  | [.int i] => some (.sh (.bl (i != 0)))
  | [.bl b] => some (.sh (.bl b))
  | _ => none
theorem bBool : BP G X (.type "bool") boolD := by
  refine ⟨_, call_bool1, ?_⟩
  intro H F xs ds fv Q fo rs h p
  unfold boolD at h
  split at h
  · obtain ⟨v, rfl, r⟩ := rs.one
    cases r; cases h
    exact .inl ⟨_, rfl, p.sh0 (.bl _)⟩
  · obtain ⟨v, rfl, r⟩ := rs.one
    cases r; cases h
    exact .inr ⟨_, rfl, p.sh0 (.bl _)⟩
  · cases h
def listD : List D → Option Fv
  | [.lst ds] => some (.fr (.lst ds))
  | [.flz ds] => some (.fr (.lst ds))
  | [.tup ds] => some (.fr (.lst ds))
  | _ => none
theorem bList (c : Cok G X W k) : BP G X (.type "list") listD := by
  refine ⟨_, listK_of (K := G.K) c.hK, ?_⟩
  intro H F xs ds fv Q fo rs h p
  unfold listD at h
  split at h
  · obtain ⟨v, rfl, a, vs, rfl, ea, ra⟩ := rs.one
    cases h
    exact ⟨a, vs, rfl, .inl (SqL.of ea), fun q hq => p.lst ra hq⟩
  · obtain ⟨v, rfl, r⟩ := rs.one
    have r : Rp G H F v (.flz _) := r
    cases r with
    | flz s ra =>
      cases h
      exact ⟨_, _, rfl, .inl s.sq, fun q hq => p.lst ra hq⟩
  · obtain ⟨v, rfl, r⟩ := rs.one
    have r : Rp G H F v (.tup _) := r
    cases r with
    | tup s ra =>
      cases h
      exact ⟨_, _, rfl, .inr s.sq, fun q hq => p.lst ra hq⟩
  · cases h
def tupleD : D → Option Fv
  | .lst ds => some (.sh (.tup ds))
  | .tup ds => some (.sh (.tup ds))
  | _ => none
theorem eTuple {a : Expr} {da : Dn Fv} {p pos : Pos} (c : Cok G X W k) (hg : Gl X "tuple") (hm : G.mg "tuple" = none) (ha : PEp G X W a da)
    (hs : starEach [a] X.env = (false, eval a X.env) :: starEach [] X.env := by rfl) : PEp G X W (.Call (.Name "tuple" p) [a] [] pos) (d1 tupleD da) := by
  refine e1 (r := kTup G.K) (tupK_of (K := G.K) c.hK hg (by rw [c.hm]; exact hm) ha hs) ?_
  intro H F x d fv Q fo r h p
  cases d with
  | lst ds =>
    obtain ⟨a, vs, rfl, ea, ra⟩ := r
    cases h
    exact .inl ⟨a, vs, rfl, SqL.of ea, fun q hq => p.tup ra hq (fo.n hq)⟩
  | tup ds =>
    have r : Rp G H F x (.tup ds) := r
    cases r with
    | tup s ra =>
      cases h
      exact .inr ⟨_, _, rfl, s.sq, p.sh0 (.tup s ra)⟩
  | _ => cases h
def blsOf : List D → Option (List Bool)
  | [] => some []
  | .bl b :: ds => (blsOf ds).map (b :: ·)
  | _ => none
def intsOf : List D → Option (List Int)
  | [] => some []
  | .int i :: ds => (intsOf ds).map (i :: ·)
  | _ => none
theorem blsOf_rp : ∀ {ds : List D} {vs : List V} {bs : List Bool}, RpAll G H F vs ds → blsOf ds = some bs → vs = bs.map V.bl
  | [], _, bs, .nil, h => by cases h; rfl
  | d :: ds, _, bs, .cons a b, h => by
    cases d with
    | bl c =>
      simp only [blsOf] at h
      cases q : blsOf ds with
      | none => rw [q] at h; cases h
      | some cs => rw [q] at h; cases h; cases a; rw [blsOf_rp b q]; rfl
    | _ => cases h
theorem intsOf_rp : ∀ {ds : List D} {vs : List V} {bs : List Int}, RpAll G H F vs ds → intsOf ds = some bs → vs = bs.map V.int
  | [], _, bs, .nil, h => by cases h; rfl
  | d :: ds, _, bs, .cons a b, h => by
    cases d with
    | int c =>
      simp only [intsOf] at h
      cases q : intsOf ds with
      | none => rw [q] at h; cases h
      | some cs => rw [q] at h; cases h; cases a; rw [intsOf_rp b q]; rfl
    | _ => cases h
def allD : List D → Option Fv
  | [.lst ds] => (blsOf ds).map fun bs => .sh (.bl (bs.all id))
  | _ => none
def anyD : List D → Option Fv
  | [.lst ds] => (blsOf ds).map fun bs => .sh (.bl (bs.any id))
  | _ => none
def sumD : List D → Option Fv
  | [.lst ds] => (intsOf ds).map fun ns => .sh (.int ns.sum)
  | _ => none
theorem bAll (c : Cok G X W k) : BP G X (.builtin "all") allD := by
  refine ⟨rAll G.K, c.hK ▸ cr_all c.calm, ?_⟩
  intro H F xs ds fv Q fo rs h p
  unfold allD at h
  split at h
  · obtain ⟨v, rfl, a, vs, rfl, ea, ra⟩ := rs.one
    rename_i es
    cases q : blsOf es with
    | none => rw [q] at h; cases h
    | some bs =>
      rw [q] at h
      cases h
      exact ⟨a, bs, rfl, by rw [← blsOf_rp ra q]; exact SqL.of ea, p.sh0 (.bl _)⟩
  · cases h
theorem bAny (c : Cok G X W k) : BP G X (.builtin "any") anyD := by
  refine ⟨rAny G.K, c.hK ▸ cr_any c.calm, ?_⟩
  intro H F xs ds fv Q fo rs h p
  unfold anyD at h
  split at h
  · obtain ⟨v, rfl, a, vs, rfl, ea, ra⟩ := rs.one
    rename_i es
    cases q : blsOf es with
    | none => rw [q] at h; cases h
    | some bs =>
      rw [q] at h
      cases h
      exact ⟨a, bs, rfl, by rw [← blsOf_rp ra q]; exact SqL.of ea, p.sh0 (.bl _)⟩
  · cases h
theorem bSum (c : Cok G X W k) : BP G X (.builtin "sum") sumD := by
  refine ⟨rSum G.K, c.hK ▸ cr_sum c.calm, ?_⟩
  intro H F xs ds fv Q fo rs h p
  unfold sumD at h
  split at h
  · obtain ⟨v, rfl, a, vs, rfl, ea, ra⟩ := rs.one
    rename_i es
    cases q : intsOf es with
    | none => rw [q] at h; cases h
    | some bs =>
      rw [q] at h
      cases h
      exact ⟨a, bs, rfl, by rw [← intsOf_rp ra q]; exact SqL.of ea, p.sh0 (.int _)⟩
  · cases h
end
end PL

namespace PL
open PySem PySem.Spec PyProof.Rows L2 AB
open TL (tl)

/-! ### a, b = x, y: new lists keep their owner -/
def Fr.addM (C : Fr) (ps : List Addr) : Fr := { C with F0 := fun q => C.F0 q ∨ q ∈ ps }
theorem Fr.addM_nil (C : Fr) : C.addM [] = C := by
  unfold Fr.addM
  have : (fun q => C.F0 q ∨ q ∈ ([] : List Addr)) = C.F0 := funext fun q => propext (by simp)
  rw [this]
theorem Fr.add_addM (C : Fr) (p : Addr) (ps : List Addr) : (C.add p).addM ps = C.addM (p :: ps) := by
  unfold Fr.addM Fr.add
  have : (fun q => (C.F0 q ∨ q = p) ∨ q ∈ ps) = fun q => C.F0 q ∨ q ∈ p :: ps := funext fun q => propext (by rw [List.mem_cons, or_assoc])
  dsimp only
  rw [this]
theorem Fr.addM_add (C : Fr) (p : Addr) (ps : List Addr) : (C.addM ps).add p = C.addM (p :: ps) := by
  unfold Fr.addM Fr.add
  have : (fun q => (C.F0 q ∨ q ∈ ps) ∨ q = p) = fun q => C.F0 q ∨ q ∈ p :: ps := funext fun q => propext (by
    rw [List.mem_cons]
    constructor
    · rintro ((h | h) | h)
      · exact .inl h
      · exact .inr (.inr h)
      · exact .inr (.inl h)
    · rintro (h | h | h)
      · exact .inl (.inl h)
      · exact .inr h
      · exact .inl (.inr h))
  dsimp only
  rw [this]
inductive AllF (G : Gx) (H : Hp) (F : Addr → Prop) : List V → List Fv → List Addr → Prop
  | nil : AllF G H F [] [] []
  | sh {v : V} {d : D} {vs : List V} {fs : List Fv} {ps : List Addr} : Rp G H F v d → AllF G H F vs fs ps → AllF G H F (v :: vs) (.sh d :: fs) ps
  | fr {p : Addr} {d : D} {vs : List V} {fs : List Fv} {ps : List Addr} : Top G H F p d → AllF G H F vs fs ps → AllF G H F (.ref p :: vs) (.fr d :: fs) (p :: ps)
structure VRF (G : Gx) (C : Fr) (Hs H : Hp) (σ : L2.St) (ε : Ev) (vs : List V) (fs : List Fv) (ps : List Addr) : Prop where
  nd : ps.Nodup
  new : ∀ p ∈ ps, Hs p = none ∧ ¬C.F σ ε p
  ok : Ok G (C.addM ps) H σ ε
  all : AllF G H ((C.addM ps).F σ ε) vs fs ps
def PostAF (G : Gx) (W : WX) (C : Fr) (σ : L2.St) (ε : Ev) (H : Hp) (Q : List V → Hp → Prop) : Re (List Fv) → Prop
  | .ok fs ε' => ∀ vs ps H', Stp σ ε σ ε' H H' → VRF G C H H' σ ε' vs fs ps → Q vs H'
  | .exc x ε' => PX G W C σ ε H x ε'
  | .no => False
def wAF (G : Gx) (W : WX) (den : Dn (List Fv)) : TA := fun σ H Q => ∃ C ε, Ok G C H σ ε ∧ PostAF G W C σ ε H Q (den ε)
abbrev PAF (G : Gx) (X : Cx) (W : WX) (es : List Expr) (den : Dn (List Fv)) : Prop := PA X es (wAF G W den)
def resF (fv : Fv) (ε : Ev) : Re Fv := match fv with
  | .at j => match ε[j]? with
    | some (.sh d) => .ok (.sh d) ε
    | some (.ow d) => .ok (.sh d) (ε.set j (.sh d))
    | _ => .no
  | x => .ok x ε
def afN : Dn (List Fv) := fun ε => .ok [] ε
def afC (da : Dn Fv) (db : Dn (List Fv)) : Dn (List Fv) := fun ε => (da ε).bind fun x ε1 => (resF x ε1).bind fun x ε2 => (db ε2).bind fun xs ε3 => .ok (x :: xs) ε3
section
variable {G : Gx} {X : Cx} {W : WX} {C : Fr} {σ : L2.St} {ε : Ev} {H : Hp} {F : Addr → Prop} {k : Nat}
theorem AllF.mv {H' : Hp} {F' : Addr → Prop} {vs : List V} {fs : List Fv} {ps : List Addr} (h : AllF G H F vs fs ps) (m : Mv H H' F F') (hp : ∀ p ∈ ps, H' p = H p) : AllF G H' F' vs fs ps := by
  induction h with
  | nil => exact .nil
  | sh r _ ih => exact .sh (r.mv m) (ih hp)
  | fr t _ ih => exact .fr (t.mv m (hp _ List.mem_cons_self)) (ih fun q hq => hp q (List.mem_cons_of_mem _ hq))
theorem PX.add {p : Addr} {x : Xc} {ε' : Ev} (h : PX G W C σ ε H x ε') : PX G W (C.add p) σ ε H x ε' := fun c d H' st k r => by
  refine h c d H' st k.unadd ?_
  obtain ⟨g, xr⟩ := r
  refine ⟨g, xr.imp id ?_⟩
  rintro ⟨a, ws, e1, e2, e3, r⟩
  exact ⟨a, ws, e1, e2, e3, r.mv (Mv.less fun b z => z.imp .inl id)⟩
theorem pFNil : PAF G X W [] afN := PA.imp pa_nil fun σ H Q ⟨C, ε, ok, post⟩ => post [] [] H Stp.refl ⟨.nil, (fun _ h => nomatch h), by rw [Fr.addM_nil]; exact ok, .nil⟩
theorem resF_sound {Hs : Hp} {v : V} {fv fv' : Fv} {ε' : Ev} (k : Ok G C H σ ε) (vr : VR G C Hs H σ ε v fv) (h : resF fv ε = .ok fv' ε') :
    Ok G C H σ ε' ∧ VR G C Hs H σ ε' v fv' ∧ (∀ b, own σ ε' b → own σ ε b) ∧ ∀ i, fv' ≠ .at i := by
  cases fv with
  | sh d => cases h; exact ⟨k, vr, fun _ z => z, fun i z => by cases z⟩
  | fr d => cases h; exact ⟨k, vr, fun _ z => z, fun i z => by cases z⟩
  | «at» j =>
    have ev : σ[j]? = some (some v) := vr
    unfold resF at h
    dsimp only at h
    cases q : ε[j]? with
    | none => rw [q] at h; cases h
    | some s =>
      rw [q] at h
      cases s with
      | no => cases h
      | io d => cases h
      | sh d =>
        cases h
        obtain ⟨u, e1, r⟩ := k.sh j d q
        rw [ev] at e1; cases e1
        exact ⟨k, r, fun _ z => z, fun i z => by cases z⟩
      | ow d =>
        cases h
        obtain ⟨k1, r, o⟩ := k.share q ev
        exact ⟨k1, r, o, fun i z => by cases z⟩
theorem resF_noexc {fv : Fv} {x : Xc} {ε' : Ev} : resF fv ε ≠ .exc x ε' := fun h => by
  unfold resF at h
  split at h
  · split at h <;> cases h
  · cases h
theorem pFCons {a : Expr} {as : List Expr} {da : Dn Fv} {db : Dn (List Fv)} (ha : PEp G X W a da) (hb : PAF G X W as db) (hs : starEach (a :: as) X.env = (false, eval a X.env) :: starEach as X.env := by rfl) : PAF G X W (a :: as) (afC da db) := by
  refine PA.imp (pa_cons ha hb hs) ?_
  rintro σ H Q ⟨C, ε, ok, post⟩
  refine wE_bind (P := PostAF G W C σ ε H Q) ok post (fun _ _ h => h) id fun fx ε0 x H1 st0 ok0 vr0 p0 => ?_
  cases q : resF fx ε0 with
  | no => rw [q] at p0; exact p0.elim
  | exc y ε' => exact absurd q resF_noexc
  | ok fv ε1 =>
    rw [q] at p0
    obtain ⟨ok1, vr1, o1, hat⟩ := resF_sound ok0 vr0 q
    have st1 : Stp σ ε σ ε1 H H1 := st0.trans (Stp.less o1)
    simp only [Re.bind] at p0
    cases fv with
    | «at» i => exact absurd rfl (hat i)
    | sh d =>
      refine ⟨C, ε1, ok1, ?_⟩
      cases e : db ε1 with
      | no => rw [e] at p0; exact p0.elim
      | exc y ε' => rw [e] at p0; exact PX.from st1 p0
      | ok fs ε2 =>
        rw [e] at p0
        intro vs ps H2 st2 vf
        refine p0 _ ps H2 (st1.trans st2) ⟨vf.nd, fun p hp => ⟨st1.al p (vf.new p hp).1, (vf.new p hp).2⟩, vf.ok, .sh ?_ vf.all⟩
        have r : Rp G H1 (C.F σ ε1) x d := vr1
        refine r.mv ⟨(st2.mv (C := C)).keep, fun b z => ?_⟩
        rcases z with (z | z) | z
        · exact .inl (.inl z)
        · exact .inr (vf.new b z).1
        · exact (st2.mv (C := C)).frb b (.inr z)
    | fr d =>
      obtain ⟨p, rfl, np, nF, okp, t⟩ := vr1
      refine ⟨C.add p, ε1, okp, ?_⟩
      cases e : db ε1 with
      | no => rw [e] at p0; exact p0.elim
      | exc y ε' => rw [e] at p0; exact PX.add (PX.from st1 p0)
      | ok fs ε2 =>
        rw [e] at p0
        intro vs ps H2 st2 vf
        have pn : ∀ q ∈ ps, q ≠ p := fun q hq z => (vf.new q hq).2 (.inl (.inr z))
        have h1p : H1 p ≠ none := by obtain ⟨o, eo⟩ := t.some; rw [eo]; intro z; cases z
        have nop : ¬own σ ε1 p := fun z => nF (.inr z)
        have keepp : H2 p = H1 p := by
          cases q1 : H1 p with
          | none => exact absurd q1 h1p
          | some o => exact st2.keep p o q1 nop (t.nt q1)
        refine p0 _ (p :: ps) H2 (st1.trans st2) ⟨List.nodup_cons.mpr ⟨fun z => pn p z rfl, vf.nd⟩, fun q hq => ?_, ?_, ?_⟩
        · rcases List.mem_cons.mp hq with rfl | hq
          · exact ⟨np, fun z => by
              rcases z with z | z
              · exact nF (.inl z)
              · rcases st2.own q z with z | z
                · exact nop z
                · exact h1p z⟩
          · exact ⟨st1.al q (vf.new q hq).1, fun z => (vf.new q hq).2 (z.imp .inl id)⟩
        · rw [← Fr.add_addM]
          exact vf.ok
        · rw [← Fr.add_addM]
          refine .fr (t.mv ⟨(st2.mv (C := C.add p)).keep, fun b z => ?_⟩ keepp) vf.all
          rcases z with (z | z) | z
          · exact .inl (.inl z)
          · exact .inr (vf.new b z).1
          · exact (st2.mv (C := C.add p)).frb b (.inr z)
/-- slots set one after another -/
def setL : Ev → List Nat → List Fv → Option Ev
  | ε, [], [] => some ε
  | ε, i :: is, f :: fs => (setS ε i f).bind fun ε' => setL ε' is fs
  | _, _, _ => none
def setσ : L2.St → List Nat → List V → L2.St
  | σ, i :: is, v :: vs => setσ (σ.set i (some v)) is vs
  | σ, _, _ => σ
theorem setL_sound : ∀ {is : List Nat} {fs : List Fv} {vs : List V} {ps : List Addr} {σ : L2.St} {ε ε' : Ev}, Ok G (C.addM ps) H σ ε → ps.Nodup → (∀ p ∈ ps, C.H0 p = none ∧ ¬C.F σ ε p) → AllF G H ((C.addM ps).F σ ε) vs fs ps → setL ε is fs = some ε' →
    Ok G C H (setσ σ is vs) ε' ∧ ∀ b, own (setσ σ is vs) ε' b → own σ ε b ∨ b ∈ ps
  | [], [], _, ps, σ, ε, ε', k, nd, new, all, h => by
    cases all
    cases h
    rw [Fr.addM_nil] at k
    exact ⟨k, fun b z => .inl z⟩
  | i :: is, f :: fs, _, ps, σ, ε, ε', k, nd, new, all, h => by
    unfold setL at h
    cases q : setS ε i f with
    | none => rw [q] at h; cases h
    | some ε1 =>
      rw [q] at h
      simp only [Option.bind_some] at h
      obtain ⟨hi, hio⟩ := setS_ok q
      have q' := setS_eq q
      cases all with
      | @sh v d vs fs ps r al =>
        cases q'
        have k1 := k.put (i := i) (v := some v) (s := .sh d) rfl hio (fun d' e => by cases e; exact ⟨v, rfl, r⟩)
        have o1 : ∀ b, own (σ.set i (some v)) (ε.set i (.sh d)) b → own σ ε b := fun b z => own_set' rfl z
        obtain ⟨k2, o2⟩ := setL_sound k1 nd (fun p hp => ⟨(new p hp).1, fun z => (new p hp).2 (z.imp id (o1 p))⟩) (al.mv (Mv.less fun b z => z.imp id (o1 b)) fun _ _ => rfl) h
        exact ⟨k2, fun b z => (o2 b z).imp (o1 b) id⟩
      | @fr p d vs fs ps t al =>
        cases q'
        rw [List.nodup_cons] at nd
        rw [← Fr.addM_add] at k t al
        have npF : ¬(C.addM ps).F σ ε p := fun z => by
          rcases z with (z | z) | z
          · exact (new p List.mem_cons_self).2 (.inl z)
          · exact nd.1 z
          · exact (new p List.mem_cons_self).2 (.inr z)
        obtain ⟨k1, o1⟩ := Ok.putOw (C := C.addM ps) k (new p List.mem_cons_self).1 npF t hi hio
        have inc : ∀ b, (C.addM ps).F (σ.set i (some (.ref p))) (ε.set i (.ow d)) b → ((C.addM ps).add p).F σ ε b := fun b z => by
          rcases z with z | z
          · exact .inl (.inl z)
          · rcases o1 b z with z | z
            · exact .inr z
            · exact .inl (.inr z)
        obtain ⟨k2, o2⟩ := setL_sound k1 nd.2 (fun q hq => ⟨(new q (List.mem_cons_of_mem _ hq)).1, fun z => by
          rcases z with z | z
          · exact (new q (List.mem_cons_of_mem _ hq)).2 (.inl z)
          · rcases o1 q z with z | z
            · exact (new q (List.mem_cons_of_mem _ hq)).2 (.inr z)
            · exact nd.1 (z ▸ hq)⟩) (al.mv (Mv.less inc) fun _ _ => rfl) h
        refine ⟨k2, fun b z => ?_⟩
        rcases o2 b z with z | z
        · rcases o1 b z with z | z
          · exact .inl z
          · exact .inr (z ▸ List.mem_cons_self)
        · exact .inr (List.mem_cons_of_mem _ z)
  | [], _ :: _, _, _, _, _, _, _, _, _, _, h => by cases h
  | _ :: _, [], _, _, _, _, _, _, _, _, _, h => by cases h
def sDPar (is : List Nat) (da : Dn (List Fv)) : Dn Fl := fun ε => (da ε).bind fun fs ε1 => match setL ε1 is fs with
  | some ε2 => .ok .nx ε2
  | none => .no
theorem wAF_read {is : List Nat} {da : Dn (List Fv)} {E : Ends} {σ : L2.St} {H : Hp} {Q : List V → Hp → Prop} (h : wS G W (sDPar is da) E σ H)
    (hq : ∀ vs H', (∀ H2, (∀ b o, H' b = some o → H2 b = some o) → E.nx (setσ σ is vs) H2) → vs.length = is.length → vs.length ≤ is.length → Q vs H') : wAF G W da σ H Q := by
  obtain ⟨C, ε, ok, post⟩ := h
  refine ⟨C, ε, ok, ?_⟩
  unfold sDPar at post
  cases e : da ε with
  | no => rw [e] at post; exact post.elim
  | exc x ε' => rw [e] at post; exact PostS.px post
  | ok fs ε1 =>
    rw [e] at post
    intro vs ps H1 st vf
    simp only [Re.bind] at post
    cases q : setL ε1 is fs with
    | none => rw [q] at post; exact post.elim
    | some ε2 =>
      rw [q] at post
      obtain ⟨k, o⟩ := setL_sound vf.ok vf.nd (fun p hp => ⟨ok.h0 p (vf.new p hp).1, (vf.new p hp).2⟩) vf.all q
      have hl : ∀ {is : List Nat} {fs : List Fv} {vs : List V} {ps : List Addr} {F : Addr → Prop} {ε ε' : Ev}, AllF G H1 F vs fs ps → setL ε is fs = some ε' → vs.length = is.length := by
        intro is
        induction is with
        | nil => intro fs vs ps F ε ε' al h; cases al <;> first | rfl | cases h
        | cons i is ih =>
          intro fs vs ps F ε ε' al h
          cases al with
          | nil => cases h
          | @sh v d vs fs ps r al =>
            unfold setL at h
            cases q : setS ε i (.sh d) with
            | none => rw [q] at h; cases h
            | some ε1 => rw [q] at h; simp [ih al h]
          | @fr p d vs fs ps r al =>
            unfold setL at h
            cases q : setS ε i (.fr d) with
            | none => rw [q] at h; cases h
            | some ε1 => rw [q] at h; simp [ih al h]
      have hlen := hl vf.all q
      refine hq vs H1 (fun H2 gr => ?_) hlen (Nat.le_of_eq hlen)
      have st2 : Stp σ ε σ ε1 H H2 := st.trans (Stp.grow gr)
      refine post _ H2 ⟨st2.keep, fun b z => ?_, st2.al⟩ (k.grow gr)
      rcases o b z with z | z
      · exact st.own b z
      · exact .inr (vf.new b z).1
/-- a, b = x, y -/
theorem sPar2 {i j : Nat} {x y : Str} {a b : Expr} {da : Dn (List Fv)} {px py pt pos : Pos} {kt k2 pt2} (c : Cok G X W k) (hN : X.N.Nodup) (hi : X.N[i]? = some x) (hj : X.N[j]? = some y) (hij : i ≠ j)
    (hx : X.env.scope.names.lookup x = some .local) (hy : X.env.scope.names.lookup y = some .local) (ha : PAF G X W [a, b] da)
    (hw : swappedStores [.Tuple [.Name x px, .Name y py] kt pt] (.Tuple [a, b] k2 pt2) X.env = pure (some [x, y]))
    (hs : swapsWithSole [.Tuple [.Name x px, .Name y py] kt pt] (.Tuple [a, b] k2 pt2) pos.line X.env = pure false := by rfl) :
    PSp G X W (.Assign [.Tuple [.Name x px, .Name y py] kt pt] (.Tuple [a, b] k2 pt2) pos) (sDPar [i, j] da) := by
  refine PS.imp (ps_par c.calm hN hi hj hij hx hy ha hw hs) ?_
  intro E σ H h
  refine wAF_read h fun vs H' hn hl _ => ?_
  match vs, hl with
  | [v, w], _ => exact ⟨v, w, rfl, hn H' fun _ _ e => e⟩
theorem sPar3 {i j l : Nat} {x y z : Str} {a b c : Expr} {da : Dn (List Fv)} {px py pz pt pos : Pos} {kt k2 pt2} (cx : Cok G X W k) (hN : X.N.Nodup) (hi : X.N[i]? = some x) (hj : X.N[j]? = some y) (hl : X.N[l]? = some z) (hij : i ≠ j) (hil : i ≠ l) (hjl : j ≠ l)
    (hx : X.env.scope.names.lookup x = some .local) (hy : X.env.scope.names.lookup y = some .local) (hz : X.env.scope.names.lookup z = some .local) (ha : PAF G X W [a, b, c] da)
    (hw : swappedStores [.Tuple [.Name x px, .Name y py, .Name z pz] kt pt] (.Tuple [a, b, c] k2 pt2) X.env = pure (some [x, y, z]))
    (hs : swapsWithSole [.Tuple [.Name x px, .Name y py, .Name z pz] kt pt] (.Tuple [a, b, c] k2 pt2) pos.line X.env = pure false := by rfl) :
    PSp G X W (.Assign [.Tuple [.Name x px, .Name y py, .Name z pz] kt pt] (.Tuple [a, b, c] k2 pt2) pos) (sDPar [i, j, l] da) := by
  refine PS.imp (ps_par3 cx.calm hN hi hj hl hij hil hjl hx hy hz ha hw hs) ?_
  intro E σ H h
  refine wAF_read h fun vs H' hn hl _ => ?_
  match vs, hl with
  | [v, w, u], _ => exact ⟨v, w, u, rfl, hn H' fun _ _ e => e⟩
def gNm (is : List Nat) : TGs := fun vs σ H Q => vs.length = is.length ∧ Q (setσ σ is vs) H
theorem nNil : PGs X [] (gNm []) := PGs.imp pgs_nil fun vs σ H Q ⟨h, q⟩ => by
  cases vs with
  | nil => exact ⟨rfl, q⟩
  | cons => cases h
theorem nCons {i : Nat} {is : List Nat} {x : Str} {pos : Pos} {es : List Expr} (hN : X.N.Nodup) (hi : X.N[i]? = some x) (hx : Loc X.env.scope x) (h2 : PGs X es (gNm is)) (hf : X.fn x = true ∨ X.env.scope.names.lookup x = some .local := by first | exact .inl rfl | exact .inr rfl | assumption)
    (hs : (assignEach (.Name x pos :: es) X.env).map (·.2) = assign (.Name x pos) X.env :: (assignEach es X.env).map (·.2) := by rfl) : PGs X (.Name x pos :: es) (gNm (i :: is)) := by
  refine PGs.imp (pgs_cons (pg_name hN hi hx hf) h2 hs) ?_
  rintro vs σ H Q ⟨hl, q⟩
  cases vs with
  | nil => cases hl
  | cons v vs => exact ⟨v, vs, rfl, by simpa using hl, q⟩
/-- a, b, .. = x, y, .. by a tuple -/
theorem sParN {ts es : List Expr} {is : List Nat} {da : Dn (List Fv)} {n kt k2 : Nat} {pt pt2 pos : Pos} (c : Cok G X W k) (ht : PGs X ts (gNm is)) (ha : PAF G X W es da) (hn : is.length = n) (hn2 : n ≤ 1000)
    (h0 : (assignEach ts X.env).length = n := by rfl) (hst : (assignEach ts X.env).findIdx? (·.1) = none := by rfl)
    (hs : swapsWithSole [.Tuple ts kt pt] (.Tuple es k2 pt2) pos.line X.env = pure false := by rfl) (hw : swappedStores [.Tuple ts kt pt] (.Tuple es k2 pt2) X.env = pure none := by rfl)
    (h1 : (assignEach [.Tuple ts kt pt] X.env).map (·.2) = [assign (.Tuple ts kt pt) X.env] := by rfl) : PSp G X W (.Assign [.Tuple ts kt pt] (.Tuple es k2 pt2) pos) (sDPar is da) := by
  refine PS.imp (ps_asg (pe_tup ha) (pgK_tup (K := G.K) c.hK c.calm ht h0 hst) hs hw h1) ?_
  intro E σ H h
  refine wAF_read h fun vs H' hn' hl _ => ?_
  refine ⟨sz_le (by omega), fun p hp => ⟨p, vs, rfl, SqT.of upd_same, by omega, hl, hn' _ (grow_new hp)⟩⟩

/-! ### x op= e -/
def augD : D → D → Option Fv
  | .int i, .int j => some (.sh (.int (i + j)))
  | .str a, .str b => if a.length + b.length ≤ 16000000 then some (.sh (.str (a ++ b))) else none
  | _, _ => none
def sDAug (i : Nat) (f : D → D → Option Fv) (de : Dn Fv) : Dn Fl := fun ε => match ε[i]? with
  | some (.sh d) => (de ε).bind fun fv ε1 => match rd ε1 fv.old with
    | some e => match f d e with
      | some (.sh z) => (match setS ε1 i (.sh z) with
        | some ε2 => .ok .nx ε2
        | none => .no)
      | _ => .no
    | none => .no
  | _ => .no
theorem sAug {i : Nat} {x : Str} {e : Expr} {de : Dn Fv} {op : Operator} {ti : TIp} {f : D → D → Option Fv} {pos pos' : Pos} (hN : X.N.Nodup) (hi : X.N[i]? = some x) (hx : Loc X.env.scope x) (he : PEp G X W e de) (ho : L2.PIp X op ti) (hs : OpS G ti f)
    (hf : X.fn x = true ∨ X.env.scope.names.lookup x = some .local := by first | exact .inl rfl | exact .inr rfl | assumption) : PSp G X W (.AugAssign (.Name x pos') op e pos) (sDAug i f de) := by
  refine PS.imp (ps_aug hN hi hx he ho hf) ?_
  rintro E σ H ⟨C, ε, ok, post⟩
  unfold sDAug at post
  cases q : ε[i]? with
  | none => rw [q] at post; exact post.elim
  | some s =>
    rw [q] at post
    cases s with
    | no => exact post.elim
    | io d => exact post.elim
    | ow d => exact post.elim
    | sh d =>
      obtain ⟨v, ev, r⟩ := ok.sh i d q
      refine ⟨v, ev, wE_bind (P := PostS G W C σ ε H E) ok post (fun _ _ h => PostS.px h) id fun fv ε1 y H1 st1 ok1 vr p => ?_⟩
      have r1 := r.mv (st1.mv (C := C))
      cases q2 : rd ε1 fv.old with
      | none => rw [q2] at p; exact p.elim
      | some e' =>
        rw [q2] at p
        have rt := (vr.old .nil).rt ok1 (ds := [e']) (by simp [rds, q2])
        cases rt with
        | cons ry _ =>
          dsimp only at p
          cases q3 : f d e' with
          | none => rw [q3] at p; exact p.elim
          | some z =>
            rw [q3] at p
            cases z with
            | fr z => exact p.elim
            | «at» z => exact p.elim
            | sh z =>
              refine hs H1 _ v y d e' _ _ ok1.fold r1.rt ry q3 ?_
              intro u H2 gr ru
              dsimp only at p
              cases q4 : setS ε1 i (.sh z) with
              | none => rw [q4] at p; exact p.elim
              | some ε2 =>
                rw [q4] at p
                have ok2 := ok1.grow gr
                have st2 : Stp σ ε σ ε1 H H2 := st1.trans (Stp.grow gr)
                obtain ⟨k2, o⟩ := setS_sound (Hs := H) (fv := .sh z) ok2 ru q4 ok.h0
                exact p _ H2 ⟨st2.keep, fun b z => (o b z).elim (st2.own b) .inr, st2.al⟩ k2
theorem ipAdd : L2.PIp X .Add (fun x y H Q => rI0 (fun i j => .int (i + j)) x y H Q ∨ ∃ i j, x = .str i ∧ y = .str j ∧ i.length + j.length ≤ sizeLine ∧ Q (.str (i ++ j)) H) :=
  fun pins s σ H x y v u Q I rx ry h => OpR.or iop_add iop_add_str pins s σ H x y v u Q I rx ry h
theorem sAugAdd : OpS G (fun x y H Q => rI0 (fun i j => .int (i + j)) x y H Q ∨ ∃ i j, x = .str i ∧ y = .str j ∧ i.length + j.length ≤ sizeLine ∧ Q (.str (i ++ j)) H) augD := by
  intro H F x y d e fv Q fo r1 r2 h p
  cases d with
  | int i =>
    cases e with
    | int j => cases r1; cases r2; cases h; exact .inl ⟨i, j, rfl, rfl, p.sh0 (.int _)⟩
    | _ => cases h
  | str a =>
    cases e with
    | str b =>
      have r1 : Rp G H F x (.str a) := r1
      have r2 : Rp G H F y (.str b) := r2
      cases r1 with
      | str h1 =>
        cases r2 with
        | str h2 =>
          simp only [augD] at h
          split at h
          · cases h
            refine .inr ⟨_, _, rfl, rfl, by rw [sl_len, sl_len]; exact sz_le (by assumption), ?_⟩
            rw [sl_app]
            exact p.sh0 (.str (sOk_app h1 h2))
          · cases h
    | _ => cases h
  | _ => cases h
def augSubD : D → D → Option Fv
  | .int i, .int j => some (.sh (.int (i - j)))
  | _, _ => none
theorem sAugSub : OpS G (ipI fun i j => i - j) augSubD := by
  intro H F x y d e fv Q fo r1 r2 h p
  cases d with
  | int i =>
    cases e with
    | int j => cases r1; cases r2; cases h; exact ⟨i, j, rfl, rfl, p.sh0 (.int _)⟩
    | _ => cases h
  | _ => cases h
end
end PL

namespace PL
open PySem PySem.Spec PyProof.Rows L2 AB
open TL (tl)
section
variable {G : Gx} {X : Cx} {W : WX} {C : Fr} {σ : L2.St} {ε : Ev} {H : Hp} {F : Addr → Prop} {k : Nat}

/-! ### isinstance with a built-in type -/
def tyN : D → Option String
  | .non => some "NoneType"
  | .bl _ => some "bool"
  | .int _ => some "int"
  | .str _ => some "str"
  | .lst _ => some "list"
  | .tup _ => some "tuple"
  | .dct _ => some "dict"
  | .dcT _ => some "dict"
  | _ => none
def isB (t n : String) : Bool := t == n || (t == "bool" && n == "int")
def kindsD : List String := ["NoneType", "bool", "int", "str", "list", "tuple", "dict"]
def typesD : List String := ["bool", "int", "str", "list", "tuple", "dict"]
theorem kit_isB : ∀ t ∈ kindsD, ∀ n ∈ typesD, kitB t n = some (isB t n) := by decide +kernel
def isiD : List D → Option Fv
  | [d, .ty n] => (tyN d).bind fun t => if n ∈ typesD then some (.sh (.bl (isB t n))) else none
  | _ => none
theorem Rt.ty {v : V} {d : D} {t : String} (r : Rt G H F v d) (h : tyN d = some t) : TyX G.K H v (.type t) ∧ t ∈ kindsD := by
  cases d with
  | non => cases r; cases h; exact ⟨.base .non, by decide⟩
  | bl b => cases r; cases h; exact ⟨.base (.bl b), by decide⟩
  | int b => cases r; cases h; exact ⟨.base (.int b), by decide⟩
  | str b => cases r; cases h; exact ⟨.base (.str _), by decide⟩
  | lst b => obtain ⟨a, vs, rfl, e, _⟩ := r; cases h; exact ⟨.base (.lst e), by decide⟩
  | dct b => obtain ⟨a, vs, rfl, e, _⟩ := r; cases h; exact ⟨.base (.dK e), by decide⟩
  | dcT b => obtain ⟨a, vs, rfl, e, _⟩ := r; cases h; exact ⟨.base (.dT e), by decide⟩
  | tup b =>
    have r : Rp G H F v (.tup b) := r
    cases r with
    | tup s _ =>
      cases h
      refine ⟨?_, by decide⟩
      rcases s.sq with (h | ⟨o, h⟩) | ⟨o, its, n, h, c, _⟩
      · exact .base (.tup h)
      · exact .fTuple h
      · exact .kTuple h c
  | _ => cases h
theorem bIsi (c : Cok G X W k) : BP G X (.builtin "isinstance") isiD := by
  refine ⟨_, isiK (K := G.K) c.hK, ?_⟩
  intro H F xs ds fv Q fo rs h p
  unfold isiD at h
  split at h
  · rename_i d n
    obtain ⟨v, w, rfl, r, r'⟩ := rs.two
    cases q : tyN d with
    | none => rw [q] at h; cases h
    | some t =>
      rw [q] at h
      simp only [Option.bind_some] at h
      split at h
      · rename_i hn
        cases h
        cases r'
        obtain ⟨ty, ht⟩ := r.ty q
        exact ⟨v, .ty n, .type t, .type n, isB t n, rfl, .ty n, ty, kit_ty (kit_isB t ht n hn), p.sh0 (.bl _)⟩
      · cases h
  · cases h
theorem eTy {x : Str} {n : String} {pos : Pos} (c : Cok G X W k) (hg : Gl X x) (hm : G.mg x = none) (hv : bootBuiltins x = some (.type n)) (hn : x ≠ "__name__" := by decide) (hd : (x == ("__debug__" : Str)) = false := by decide) : PEp G X W (.Name x pos) (dC (.ty n)) :=
  eC (v := .ty n) (pe_bltn hg (by rw [c.hm]; exact hm) hv rfl hn hd) fun _ _ => .ty n
/-- a module's constant -/
theorem eGlob {x : Str} {v : V} {d : D} {u : Value} {pos : Pos} (c : Cok G X W k) (hg : Gl X x) (hm : G.mg x = some u) (r : RelV v u) (rp : ∀ H F, Rp G H F v d) (hd : (x == ("__debug__" : Str)) = false := by decide) : PEp G X W (.Name x pos) (dC d) :=
  eC (pe_glob hg (by rw [c.hm]; exact hm) r hd) rp

/-! ### repr -/
theorem sOk_str (s : String) : sOk (tl (Str.ofString s)) = true := by
  rw [Str.ofString_eq_toList]
  unfold sOk
  rw [List.all_eq_true]
  intro c hc
  have hc : c ∈ s.toList.map Char.toNat := by simpa [tl] using hc
  obtain ⟨ch, _, rfl⟩ := List.mem_map.mp hc
  have := ch.valid
  have h2 : ch.toNat < 0x110000 := by
    rcases this with h | h
    · have : ch.toNat < 0xd800 := h
      omega
    · exact h.2
  simpa using h2
theorem sOk_tlapp {a b : Str} (h : sOk (tl a) = true) (k : sOk (tl b) = true) : sOk (tl (a ++ b)) = true := by
  rw [TL.tl_append]; exact sOk_app h k
theorem sOk_textFrom : ∀ (ts : List Str) (n : Nat) (acc : Str), sOk (tl acc) = true → (∀ t ∈ ts, sOk (tl t) = true) → sOk (tl (textFrom n acc ts)) = true
  | [], n, acc, h, _ => h
  | t :: ts, n, acc, h, k => by
    unfold textFrom
    refine sOk_textFrom ts (n + 1) _ (sOk_tlapp (sOk_tlapp h ?_) (k t List.mem_cons_self)) fun x hx => k x (List.mem_cons_of_mem _ hx)
    exact sOk_str _
theorem sOk_join : ∀ (ts : List Str), (∀ t ∈ ts, sOk (tl t) = true) → sOk (tl (Str.join ", " ts)) = true
  | [], _ => by decide +kernel
  | [t], k => k t List.mem_cons_self
  | t :: u :: ts, k => by
    unfold Str.join
    exact sOk_tlapp (sOk_tlapp (k t List.mem_cons_self) (sOk_str _)) (sOk_join (u :: ts) fun x hx => k x (List.mem_cons_of_mem _ hx))
theorem foldl_mem {q : Nat} : ∀ (l : List Nat) (acc : Array Nat) (c : Nat), c ∈ (l.foldl (fun out c => out ++ (Builtin.Str.reprChar q c).toArray) acc).toList → c ∈ acc.toList ∨ ∃ x ∈ l, c ∈ Builtin.Str.reprChar q x
  | [], acc, c, h => .inl h
  | x :: l, acc, c, h => by
    rw [List.foldl_cons] at h
    rcases foldl_mem l _ c h with h | ⟨y, hy, h⟩
    · simp at h
      rcases h with h | h
      · exact .inl (by simpa using h)
      · exact .inr ⟨x, List.mem_cons_self, h⟩
    · exact .inr ⟨y, List.mem_cons_of_mem _ hy, h⟩
theorem reprChar_ok {q x : Nat} (hq : q < 0x110000) (hx : x < 0x110000) : ∀ c ∈ Builtin.Str.reprChar q x, c < 0x110000 := by
  intro c h
  have hex : ∀ w, c ∈ (List.replicate (w - ((Nat.toDigits 16 x).map Char.toNat).length) 48 ++ (Nat.toDigits 16 x).map Char.toNat) → c < 0x110000 := fun w h => by
    rw [List.mem_append] at h
    rcases h with h | h
    · rw [(List.mem_replicate.mp h).2]; decide
    · obtain ⟨ch, _, rfl⟩ := List.mem_map.mp h
      rcases ch.valid with h | h
      · have : ch.toNat < 0xd800 := h
        omega
      · exact h.2
  unfold Builtin.Str.reprChar at h
  dsimp only at h
  split at h
  · simp at h; omega
  split at h
  · simp at h; omega
  split at h
  · simp at h; omega
  split at h
  · simp at h; omega
  split at h
  · simp at h; omega
  split at h
  · rw [List.mem_append] at h
    rcases h with h | h
    · simp at h; omega
    · exact hex 2 h
  split at h
  · rw [List.mem_append] at h
    rcases h with h | h
    · simp at h; omega
    · exact hex 4 h
  · rw [List.mem_append] at h
    rcases h with h | h
    · simp at h; omega
    · exact hex 8 h
theorem sOk_reprText (l : List Nat) (h : sOk l = true) : sOk (tl (reprText (sl l))) = true := by
  unfold sOk at h ⊢
  rw [List.all_eq_true] at h ⊢
  intro c hc
  have hq : reprQuote (sl l) < 0x110000 := by
    unfold reprQuote
    split <;> decide
  have hc : c ∈ ((sl l).cps.foldl (fun out c => out ++ (Builtin.Str.reprChar (reprQuote (sl l)) c).toArray) #[reprQuote (sl l)]).toList ∨ c = reprQuote (sl l) := by
    unfold reprText tl at hc
    simpa using hc
  rcases hc with hc | rfl
  · rw [← Array.foldl_toList] at hc
    rcases foldl_mem _ _ c hc with h1 | ⟨x, hx, h1⟩
    · simp at h1; subst h1; exact decide_eq_true hq
    · have hx : x ∈ l := by simpa [sl] using hx
      exact decide_eq_true (reprChar_ok hq (of_decide_eq_true (h x hx)) c h1)
  · exact decide_eq_true hq
/-! what repr shows: plain data, and dicts of it -/
def pyK : Key → PyData
  | .inl i => .int i
  | .inr x => .str x
def sOkK : Key → Bool
  | .inl _ => true
  | .inr x => sOk (tl x)
mutual
def toPyR : D → PyData
  | .non => .none
  | .bl b => .bool b
  | .int i => .int i
  | .str l => .str (sl l)
  | .tup xs => .tuple (toPyRs xs)
  | .lst xs => .list (toPyRs xs)
  | .dct es => .dict (toPyRk es)
  | _ => .none
def toPyRs : List D → List PyData
  | [] => []
  | x :: xs => toPyR x :: toPyRs xs
def toPyRk : List (Key × D) → List (PyData × PyData)
  | [] => []
  | (k, d) :: es => (pyK k, toPyR d) :: toPyRk es
end
def plR : Nat → D → Bool
  | _, .non => true
  | _, .bl _ => true
  | _, .int _ => true
  | _, .str _ => true
  | n + 1, .tup xs => xs.all (plR n)
  | n + 1, .lst xs => xs.all (plR n)
  | n + 1, .dct es => (es.map (·.2)).all (plR n) && (es.map (·.1)).all sOkK
  | _, _ => false
theorem toPyRs_map : ∀ (xs : List D), toPyRs xs = xs.map toPyR
  | [] => rfl
  | x :: xs => by rw [toPyRs, List.map_cons, toPyRs_map xs]
theorem toPyRk_fst : ∀ (es : List (Key × D)), (toPyRk es).map (·.1) = (es.map (·.1)).map pyK
  | [] => rfl
  | (k, d) :: es => by rw [toPyRk, List.map_cons, List.map_cons, List.map_cons, toPyRk_fst es]
theorem toPyRk_snd : ∀ (es : List (Key × D)), (toPyRk es).map (·.2) = toPyRs (es.map (·.2))
  | [] => rfl
  | (k, d) :: es => by rw [toPyRk, List.map_cons, List.map_cons, toPyRs, toPyRk_snd es]
theorem key_reads {h : Heap} {k : Key} {u : Value} (e : keyIs k u = true) : Reads h u (pyK k) [] := by
  rcases keyIs_shape e with ⟨i, t, rfl, rfl⟩ | ⟨x, t, rfl, rfl⟩
  · exact .int i t
  · exact .str x t
theorem pairs_reads {P : Program} {w : World} {h : Heap} {es : List DictEntry} {kvs : List (Key × Value)} (p : Pairs (mixKind P w) es kvs) :
    ReadsAll h (es.map (·.key)) ((kvs.map (·.1)).map pyK) [] ∧ es.map (·.val) = kvs.map (·.2) := by
  induction p with
  | nil => exact ⟨.nil, rfl⟩
  | cons h1 h2 _ ih => exact ⟨.cons (as := []) (bs := []) (key_reads h1) ih.1, by rw [List.map_cons, List.map_cons, h2, ih.2]⟩
theorem kv_fst {kvs : List (Key × V)} {xs : List (Key × Value)} (r : KV kvs xs) : xs.map (·.1) = kvs.map (·.1) ∧ Vals (kvs.map (·.2)) (xs.map (·.2)) := by
  induction r with
  | nil => exact ⟨rfl, .nil⟩
  | cons h _ ih => exact ⟨by rw [List.map_cons, List.map_cons, h.1, ih.1], .cons h.2 ih.2⟩
theorem Rp.reads {X : Cx} {pins : List (Addr × Obj)} {σ : L2.St} {s : Shared} (I : Inv X pins σ H s) (hK : X.K = G.K) (hS : H sysModules = none) {v : V} {d : D} (r : Rp G H F v d) :
    ∀ (n : Nat) (u : Value), plR n d = true → RelV v u → ∃ as, Reads s.heap u (toPyR d) as ∧ sysModules ∉ as := by
  have ne : ∀ {a o}, H a = some o → sysModules ≠ a := fun e z => by rw [← z, hS] at e; cases e
  refine Rp.rec (motive_1 := fun v d _ => ∀ (n : Nat) (u : Value), plR n d = true → RelV v u → ∃ as, Reads s.heap u (toPyR d) as ∧ sysModules ∉ as)
    (motive_2 := fun vs ds _ => ∀ (n : Nat) (us : List Value), ds.all (plR n) = true → Vals vs us → ∃ as, ReadsAll s.heap us (toPyRs ds) as ∧ sysModules ∉ as)
    ?_ ?_ ?_ ?_ ?_ ?_ ?_ ?_ ?_ ?_ ?_ ?_ ?_ ?_ r
  · intro n u _ q; cases q; exact ⟨[], .none, by simp⟩
  · intro b n u _ q; cases q; exact ⟨[], .bool b, by simp⟩
  · intro i n u _ q; obtain ⟨t, rfl⟩ := q; exact ⟨[], .int i t, by simp⟩
  · intro l _ n u _ q; obtain ⟨t, rfl⟩ := q; exact ⟨[], .str _ t, by simp⟩
  · intro t n u h _; cases n <;> simp [plR] at h
  · intro t n u h _; cases n <;> simp [plR] at h
  · intro a vs ds st _ ih n u h q
    cases n with
    | zero => simp [plR] at h
    | succ n =>
      cases q
      have hs : SqT X.K H a vs := hK ▸ st.sq
      obtain ⟨its, rv, ⟨o, ho, hc, m, hd⟩, _⟩ := I.tuple hs
      obtain ⟨as, hr, hn⟩ := ih n its (by simpa [plR] using h) rv
      exact ⟨as, by rw [toPyR]; exact .tuple ho hc hd hr, hn⟩
  · intro a vs ds e nf _ ih n u h q
    cases n with
    | zero => simp [plR] at h
    | succ n =>
      cases q
      obtain ⟨its, rv, ⟨o, m, ho, hc, _, hd⟩, _⟩ := I.list (SqL.of (K := X.K) e)
      obtain ⟨as, hr, hn⟩ := ih n its (by simpa [plR] using h) rv
      exact ⟨a :: as, by rw [toPyR]; exact .list ho hc hd hr, fun z => (List.mem_cons.mp z).elim (fun z => ne e z) hn⟩
  · intro a vs ds st _ ih n u h q; cases n <;> simp [plR] at h
  · intro a kvs es e nf k _ ih n u h q
    cases n with
    | zero => simp [plR] at h
    | succ n =>
      cases q
      simp only [plR, Bool.and_eq_true] at h
      obtain ⟨_, _, xs, kv, o, des, ep, ho, hx, hd, _, pr, _⟩ := dk_of I.hok e
      obtain ⟨f1, f2⟩ := kv_fst kv
      obtain ⟨r1, r2⟩ := pairs_reads (h := s.heap) pr
      obtain ⟨as, hr, hn⟩ := ih n _ h.1 f2
      refine ⟨a :: [] ++ as, ?_, fun z => (List.mem_cons.mp z).elim (fun z => ne e z) hn⟩
      rw [toPyR]
      refine .dict ho hx.1 hd ?_ ?_
      · rw [toPyRk_fst, ← k, ← f1]; exact r1
      · rw [toPyRk_snd, r2]; exact hr
  · intro a kvs es e nf k _ ih n u h q; cases n <;> simp [plR] at h
  · intro a C dx c fs es g e e2 n1 n2 k _ ih n u h q; cases n <;> simp [plR] at h
  · intro n us _ q; cases q; exact ⟨[], .nil, by simp⟩
  · intro v vs d ds _ _ ih1 ih2 n us h q
    cases q with
    | cons q1 q2 =>
      simp only [List.all_cons, Bool.and_eq_true] at h
      obtain ⟨as, a1, a2⟩ := ih1 n _ h.1 q1
      obtain ⟨bs, b1, b2⟩ := ih2 n _ h.2 q2
      exact ⟨as ++ bs, .cons a1 b1, fun z => (List.mem_append.mp z).elim a2 b2⟩
theorem key_shown {k : Key} (h : sOkK k = true) : sOk (tl (pyK k).shown) = true := by
  cases k with
  | inl i => exact sOk_str _
  | inr x =>
    have := sOk_reprText (tl x) h
    simpa [pyK, PyData.shown, tl, sl] using this
/-- it is shown in signs, and not deep -/
theorem Rp.shownOk {v : V} {d : D} (r : Rp G H F v d) : ∀ n : Nat, plR n d = true → sOk (tl (toPyR d).shown) = true ∧ (toPyR d).depth ≤ n := by
  refine Rp.rec (motive_1 := fun v d _ => ∀ n : Nat, plR n d = true → sOk (tl (toPyR d).shown) = true ∧ (toPyR d).depth ≤ n)
    (motive_2 := fun vs ds _ => ∀ n : Nat, ds.all (plR n) = true → (∀ t ∈ PyData.shownAll (toPyRs ds), sOk (tl t) = true) ∧ PyData.depthAll (toPyRs ds) ≤ n)
    ?_ ?_ ?_ ?_ ?_ ?_ ?_ ?_ ?_ ?_ ?_ ?_ ?_ ?_ r
  · intro n _; exact ⟨sOk_str _, Nat.zero_le _⟩
  · intro b n _; exact ⟨by cases b <;> exact sOk_str _, Nat.zero_le _⟩
  · intro i n _; exact ⟨sOk_str _, Nat.zero_le _⟩
  · intro l h n _; exact ⟨sOk_reprText l h, Nat.zero_le _⟩
  · intro t n h; cases n <;> simp [plR] at h
  · intro t n h; cases n <;> simp [plR] at h
  · intro a vs ds st _ ih n h
    cases n with
    | zero => simp [plR] at h
    | succ n =>
      obtain ⟨h1, h2⟩ := ih n (by simpa [plR] using h)
      refine ⟨?_, by simp only [toPyR, PyData.depth]; omega⟩
      simp only [toPyR, PyData.shown]
      unfold tupleText
      refine sOk_tlapp (sOk_tlapp (sOk_str _) (sOk_join _ h1)) ?_
      exact sOk_str _
  · intro a vs ds e nf _ ih n h
    cases n with
    | zero => simp [plR] at h
    | succ n =>
      obtain ⟨h1, h2⟩ := ih n (by simpa [plR] using h)
      refine ⟨?_, by simp only [toPyR, PyData.depth]; omega⟩
      simp only [toPyR, PyData.shown]
      unfold listText
      exact sOk_tlapp (sOk_textFrom _ 0 _ (sOk_str _) h1) (sOk_str _)
  · intro a vs ds st _ ih n h; cases n <;> simp [plR] at h
  · intro a kvs es e nf k _ ih n h
    cases n with
    | zero => simp [plR] at h
    | succ n =>
      simp only [plR, Bool.and_eq_true] at h
      obtain ⟨h1, h2⟩ := ih n h.1
      have key : ∀ es : List (Key × D), (es.map (·.1)).all sOkK = true → (∀ t ∈ PyData.shownAll (toPyRs (es.map (·.2))), sOk (tl t) = true) → PyData.depthAll (toPyRs (es.map (·.2))) ≤ n →
          (∀ t ∈ PyData.shownKv (toPyRk es), sOk (tl t) = true) ∧ PyData.depthKv (toPyRk es) ≤ n := by
        intro es
        induction es with
        | nil => intro _ _ _; exact ⟨fun t z => by simp [toPyRk, PyData.shownKv] at z, by simp [toPyRk, PyData.depthKv]⟩
        | cons e es ih =>
          obtain ⟨k, d⟩ := e
          intro a b c
          simp only [List.map_cons, List.all_cons, Bool.and_eq_true] at a
          simp only [List.map_cons, toPyRs, PyData.shownAll, List.mem_cons, forall_eq_or_imp] at b
          simp only [List.map_cons, toPyRs, PyData.depthAll] at c
          obtain ⟨i1, i2⟩ := ih a.2 b.2 (by omega)
          refine ⟨fun t z => ?_, ?_⟩
          · simp only [toPyRk, PyData.shownKv, List.mem_cons] at z
            rcases z with rfl | z
            · exact sOk_tlapp (sOk_tlapp (key_shown a.1) (sOk_str _)) b.1
            · exact i1 t z
          · simp only [toPyRk, PyData.depthKv]
            have : (pyK k).depth = 0 := by cases k <;> rfl
            omega
      obtain ⟨i1, i2⟩ := key es h.2 h1 h2
      refine ⟨?_, by simp only [toPyR, PyData.depth]; omega⟩
      simp only [toPyR, PyData.shown]
      unfold dictText
      exact sOk_tlapp (sOk_tlapp (sOk_str _) (sOk_join _ i1)) (sOk_str _)
  · intro a kvs es e nf k _ ih n h; cases n <;> simp [plR] at h
  · intro a C dx c fs es g e e2 n1 n2 k _ ih n h; cases n <;> simp [plR] at h
  · intro n _; exact ⟨fun t z => by simp [toPyRs, PyData.shownAll] at z, Nat.zero_le _⟩
  · intro v vs d ds _ _ ih1 ih2 n h
    simp only [List.all_cons, Bool.and_eq_true] at h
    obtain ⟨a1, a2⟩ := ih1 n h.1
    obtain ⟨b1, b2⟩ := ih2 n h.2
    refine ⟨fun t z => ?_, by simp only [toPyRs, PyData.depthAll]; omega⟩
    simp only [toPyRs, PyData.shownAll, List.mem_cons] at z
    rcases z with rfl | z
    · exact a1
    · exact b1 t z
/-- what repr shows -/
def repL (d : D) : List Nat := tl (toPyR d).shown
def okRep (d : D) : Prop := plR 60 d = true ∧ (toPyR d).showable = true ∧ (toPyR d).shown.length ≤ 16000000
instance (d : D) : Decidable (okRep d) := by unfold okRep; infer_instance
def repD : List D → Option Fv
  | [d] => if okRep d then some (.sh (.str (repL d))) else none
  | _ => none
theorem Rt.rp0 {v : V} {d : D} {n : Nat} (r : Rt G H F v d) (h : plR n d = true) : ∃ F', Rp G H F' v d := by
  cases d with
  | lst ds =>
    obtain ⟨a, vs, rfl, e, r⟩ := r
    exact ⟨fun _ => False, .lst e (fun z => z) (r.mv (Mv.less fun _ z => z.elim))⟩
  | dct es =>
    obtain ⟨a, vs, rfl, e, k, r⟩ := r
    exact ⟨fun _ => False, .dct e (fun z => z) k (r.mv (Mv.less fun _ z => z.elim))⟩
  | dcT a => cases n <;> simp [plR] at h
  | ins a _ => cases n <;> simp [plR] at h
  | non => exact ⟨F, r⟩
  | bl b => exact ⟨F, r⟩
  | int i => exact ⟨F, r⟩
  | str l => exact ⟨F, r⟩
  | tup ds => exact ⟨F, r⟩
  | ty a => cases n <;> simp [plR] at h
  | ref a => cases n <;> simp [plR] at h
  | flz a => cases n <;> simp [plR] at h
/-- repr(v) -/
def rRepR (G : Gx) : List V → Hp → VK → Prop := fun xs H Q => ∃ v d F, xs = [v] ∧ Rp G H F v d ∧ okRep d ∧ Q (.str (sl (repL d))) H
theorem sys_none {X : Cx} {pins : List (Addr × Obj)} {σ : L2.St} {s : Shared} (I : Inv X pins σ H s) (hb : X.base = G.base) : H sysModules = none := by
  obtain ⟨o, e⟩ := G.sys
  exact (I.bs _ _ (hb ▸ e)).2
theorem reprR {X : Cx} (hK : X.K = G.K) (hb : X.base = G.base) (un : X.A.units + 200 < cLine) (hg : X.A.guards = some []) : CallR X (.builtin "repr") (rRepR G) := by
  intro pins s σ H xs us Q I r h
  obtain ⟨v, d, F, rfl, rp, ⟨h1, h2, h3⟩, q⟩ := h
  obtain ⟨u, rfl, ru⟩ := vals1 r
  obtain ⟨as, rd, ns⟩ := rp.reads I hK (sys_none I hb) 60 u h1 ru
  obtain ⟨_, dp⟩ := rp.shownOk 60 h1
  have sz := Nat.le_trans h3 sizeLine_big
  have e : sl (repL d) = (toPyR d).shown := by simp [repL, sl, tl]
  rw [e] at q
  have fin : ∀ h' t tk, (∀ b o, s.heap.get? b = some o → h'.get? b = some o) →
      EP X pins σ Q (.str (toPyR d).shown t) { s with heap := h', toks := tk } :=
    fun h' t tk kp => ⟨.str (toPyR d).shown, H, I.kept kp, ⟨t, rfl⟩, q⟩
  have big : ∀ a, u = .ref a → wpAny (model X.prog X.w) X.A (call (.builtin "repr") [u]) (fun v s => EP X pins σ Q v s) X.xe s := fun a ea => by
    subst ea
    exact repr_of_reads' rd h2 (fun _ => ns) hg (by omega) (fun _ _ e => e) fin sz
  cases rp with
  | non =>
    cases ru
    exact PySem.P.repr_of_none (fin s.heap _ _ fun _ _ e => e)
  | bl b =>
    cases ru
    exact PySem.P.repr_of_bool (fin s.heap _ _ fun _ _ e => e)
  | int i =>
    obtain ⟨t, rfl⟩ := ru
    exact PySem.P.repr_of_int (of_decide_eq_true h2) (fin s.heap _ _ fun _ _ e => e)
  | str x =>
    obtain ⟨t, rfl⟩ := ru
    exact PySem.P.repr_of_str (fin s.heap _ _ fun _ _ e => e) sz
  | ty => simp [plR] at h1
  | ref => simp [plR] at h1
  | lst => cases ru; exact big _ rfl
  | tup => cases ru; exact big _ rfl
  | dct => cases ru; exact big _ rfl
  | flz => simp [plR] at h1
  | dcT => simp [plR] at h1
  | ins => simp [plR] at h1
theorem bRepr (c : Cok G X W k) : BP G X (.builtin "repr") repD := by
  refine ⟨_, reprR c.hK c.hb (by have := c.hr.un; omega) c.gd, ?_⟩
  intro H F xs ds fv Q fo rs h p
  unfold repD at h
  split at h
  · rename_i d
    obtain ⟨v, rfl, r⟩ := rs.one
    split at h
    · rename_i hk
      cases h
      obtain ⟨F', r'⟩ := r.rp0 hk.1
      refine ⟨v, d, F', rfl, r', hk, ?_⟩
      exact p.sh0 (.str (by simpa [repL, tl] using (r'.shownOk 60 hk.1).1))
    · cases h
  · cases h

/-! ### methods of texts -/
def dMs (f : List Nat → List D → Option Fv) (do_ : Dn Fv) (da : Dn (List Fv)) : Dn Fv := fun ε => (do_ ε).bind fun x ε1 => match rd ε1 x.old with
  | some (.str l) => (da ε1).bind fun fs ε2 => oN ε2 (fun ds => f l ds) fs
  | _ => .no
def MP (G : Gx) (X : Cx) (id : String) (f : List Nat → List D → Option Fv) : Prop := ∃ r, MtR X id r ∧ ∀ (l : List Nat), sOk l = true → OpN G (fun xs H Q => r (.str (sl l)) xs H Q) (f l)
theorem eMs {o e : Expr} {es : List Expr} {do_ : Dn Fv} {da : Dn (List Fv)} {name : Str} {id : String} {f : List Nat → List D → Option Fv} {apos cpos : Pos} (m : MP G X id f) (slot : Slot "str" name id) (hty : typeOf (.builtin id) = pure (.type "method_descriptor")) (ho : PEp G X W o do_) (ha : PAp G X W (e :: es) da)
    (hbase : attributeBase o name X.env (eval o X.env) = eval o X.env := by rfl)
    (hfew : ((backTo cpos (starEach (e :: es) X.env)).all (fun x => !x.1) && (backToKw cpos (keywordEach [] X.env)).all (fun x => x.1.isSome)
      && decide ((e :: es).length + ([] : List Keyword).length + (if ([] : List Keyword).isEmpty then 0 else 1) < 30)) = true := by rfl)
    (hline : (apos.endLine == cpos.line) = true := by rfl) (hs : starEach (e :: es) X.env = (false, eval e X.env) :: starEach es X.env := by rfl) (hplain : (backTo cpos (starEach es X.env)).any (·.1) = false := by rfl) :
    PEp G X W (.Call (.Attribute o name apos) (e :: es) [] cpos) (dMs f do_ da) := by
  obtain ⟨r, hm, hs'⟩ := m
  refine PE.imp (pe_bm PySem.F.plainAttrs_str slot hty hm ho ha hbase hfew hline hs hplain) ?_
  rintro σ H Q ⟨C, ε, ok, post⟩
  refine wE_bind (P := PostE G W C σ ε H Q) ok post (fun _ _ h => h) (fun h => h) fun fx ε1 x H1 st1 ok1 vr1 p1 => ?_
  have p1 := p1.from st1
  cases q : rd ε1 fx.old with
  | none => rw [q] at p1; exact p1.elim
  | some d =>
    rw [q] at p1
    have rt := (vr1.old .nil).rt ok1 (ds := [d]) (by simp [rds, q])
    cases rt with
    | cons rx _ =>
      cases d with
      | str l =>
        have rx : Rp G H1 (C.F σ ε1) x (.str l) := rx
        cases rx with
        | str hl =>
          refine ⟨rfl, ?_⟩
          refine wA_bind (P := PostE G W C σ ε1 H1 Q) ok1 p1 (fun _ _ h => h) (fun h => h) fun fs ε2 vs H2 st2 ok2 vr2 p2 => ?_
          exact oN_sound (hs' l hl) ok2 vr2 (p2.from st2)
      | _ => exact p1.elim
def findD (l : List Nat) : List D → Option Fv
  | [.str w] => some (.sh (.int (Txt.find (sl l) (sl w))))
  | [.str w, .int i] => some (.sh (.int (Txt.find3 (sl l) (sl w) i)))
  | _ => none
theorem mFind : MP G X "str.find" findD := by
  refine ⟨_, MtR.or mt_find mt_find3, fun l hl => ?_⟩
  intro H F xs ds fv Q fo rs h p
  unfold findD at h
  split at h
  · obtain ⟨v, rfl, r⟩ := rs.one
    cases r; cases h
    exact .inl ⟨_, _, rfl, rfl, p.sh0 (.int _)⟩
  · obtain ⟨v, w, rfl, r, r'⟩ := rs.two
    cases r; cases r'; cases h
    exact .inr ⟨_, _, _, rfl, rfl, p.sh0 (.int _)⟩
  · cases h
def strsOf : List D → Option (List (List Nat))
  | [] => some []
  | .str l :: ds => (strsOf ds).map (l :: ·)
  | _ => none
theorem strsOf_rp : ∀ {ds : List D} {vs : List V} {ls : List (List Nat)}, RpAll G H F vs ds → strsOf ds = some ls → vs = (ls.map sl).map V.str ∧ ∀ l ∈ ls, sOk l = true
  | [], _, ls, .nil, h => by cases h; exact ⟨rfl, fun l h => nomatch h⟩
  | d :: ds, _, ls, .cons a b, h => by
    cases d with
    | str c =>
      simp only [strsOf] at h
      cases q : strsOf ds with
      | none => rw [q] at h; cases h
      | some cs =>
        rw [q] at h; cases h
        cases a with
        | str hc =>
          obtain ⟨e, k⟩ := strsOf_rp b q
          refine ⟨by rw [e]; rfl, fun l hl => ?_⟩
          rcases List.mem_cons.mp hl with rfl | hl
          · exact hc
          · exact k l hl
    | _ => cases h
def joinE (l : List Nat) : List D → Option Fv
  | [.lst ds] => if l = [] then (strsOf ds).bind fun ls => if (ls.map (·.length)).sum ≤ 16000000 then some (.sh (.str ls.flatten)) else none else none
  | [.tup ds] => if l = [] then (strsOf ds).bind fun ls => if (ls.map (·.length)).sum ≤ 16000000 then some (.sh (.str ls.flatten)) else none else none
  | _ => none
theorem sOk_flat {ls : List (List Nat)} (h : ∀ l ∈ ls, sOk l = true) : sOk ls.flatten = true := by
  unfold sOk
  rw [List.all_eq_true]
  intro c hc
  obtain ⟨l, hl, hc⟩ := List.mem_flatten.mp hc
  exact (List.all_eq_true.mp (h l hl)) c hc
theorem join_sl (ls : List (List Nat)) : Txt.join (sl []) (ls.map sl) = sl ls.flatten := by
  apply TL.ext_tl
  have h := tl_join (ls.map sl)
  rw [show (sl [] : Str) = "" from rfl, h, tl_sl]
  congr 1
  rw [List.map_map]
  exact (List.map_congr_left fun l _ => tl_sl l).trans (List.map_id _)
theorem mJoin (c : Cok G X W k) : MP G X "str.join" joinE := by
  refine ⟨_, mt_join, fun l hl => ?_⟩
  have go : ∀ (ls : List (List Nat)) {H : Hp} {F : Addr → Prop} {Q : VK}, (∀ l ∈ ls, sOk l = true) → (ls.map (·.length)).sum ≤ 16000000 → PostV G H F Q (.sh (.str ls.flatten)) → ((ls.map sl).map (·.length)).sum + (ls.map sl).length * (sl []).length ≤ 16777216 ∧ Q (.str (Txt.join (sl []) (ls.map sl))) H := by
    intro ls H F Q hk hsum p
    refine ⟨?_, by rw [join_sl]; exact p.sh0 (.str (sOk_flat hk))⟩
    rw [show (sl ([] : List Nat)).length = 0 from rfl, Nat.mul_zero, Nat.add_zero, List.map_map]
    have : (ls.map ((fun x : Str => x.length) ∘ sl)) = ls.map (·.length) := List.map_congr_left fun l _ => sl_len l
    rw [this]
    omega
  intro H F xs ds fv Q fo rs h p
  unfold joinE at h
  split at h
  · obtain ⟨v, rfl, a, vs, rfl, ea, ra⟩ := rs.one
    split at h
    · rename_i es hl0
      subst hl0
      cases q : strsOf es with
      | none => rw [q] at h; cases h
      | some ls =>
        rw [q] at h
        simp only [Option.bind_some] at h
        split at h
        · rename_i hsum
          cases h
          obtain ⟨e, hk⟩ := strsOf_rp ra q
          obtain ⟨g1, g2⟩ := go ls hk hsum p
          exact ⟨sl [], a, ls.map sl, rfl, rfl, .inl (by rw [← e]; exact SqL.of ea), g1, g2⟩
        · cases h
    · cases h
  · obtain ⟨v, rfl, r⟩ := rs.one
    split at h
    · rename_i es hl0
      subst hl0
      have r : Rp G H F v (.tup es) := r
      cases r with
      | @tup a vs _ s ra =>
        cases q : strsOf es with
        | none => rw [q] at h; cases h
        | some ls =>
          rw [q] at h
          simp only [Option.bind_some] at h
          split at h
          · rename_i hsum
            cases h
            obtain ⟨e, hk⟩ := strsOf_rp ra q
            obtain ⟨g1, g2⟩ := go ls hk hsum p
            exact ⟨sl [], a, ls.map sl, rfl, rfl, .inr (by rw [← e, c.hK]; exact s.sq), g1, g2⟩
          · cases h
    · cases h
  · cases h
end
end PL

namespace PL
open PySem PySem.Spec PyProof.Rows L2 AB
open TL (tl)
section
variable {G : Gx} {X : Cx} {W : WX} {C : Fr} {σ : L2.St} {ε : Ev} {H : Hp} {F : Addr → Prop} {k : Nat}

/-! ### an owned object is written -/
theorem putIo_one {j : Nat} {s : Sl} {d : D} (e : ε[j]? = some s) : putIo ε [j] [d] = ε.set j (s.with d) := by
  unfold putIo
  rw [e]
  rfl
theorem Ok.top (k : Ok G C H σ ε) {a : Addr} (h : own σ ε a) : ∃ d, Top G H (C.F σ ε) a d := by
  obtain ⟨i, s, e, m, q⟩ := h
  cases s with
  | no => cases m
  | sh d => cases m
  | ow d => obtain ⟨p', e', t⟩ := k.ow i d e; rw [q] at e'; cases e'; exact ⟨_, t⟩
  | io d => obtain ⟨p', e', t⟩ := k.io i d e; rw [q] at e'; cases e'; exact ⟨_, t⟩
theorem upd_al {a b : Addr} {o : HO} (z : upd H a o b = none) : H b = none := by
  unfold upd at z
  split at z
  · cases z
  · exact z
theorem Ok.wr1 (k : Ok G C H σ ε) {j : Nat} {a : Addr} {s : Sl} {d : D} {o : HO} (e : ε[j]? = some s) (m : s.mut = true) (q : σ[j]? = some (some (.ref a))) (t : Top G (upd H a o) (C.F σ ε) a d) :
    Ok G C (upd H a o) σ (ε.set j (s.with d)) ∧ Stp σ ε σ (ε.set j (s.with d)) H (upd H a o) := by
  have hown : own σ ε a := ⟨j, s, e, m, q⟩
  obtain ⟨d0, t0⟩ := k.top hown
  have r := Ok.after (js := [j]) (as := [a]) (outs := [d]) (F0' := C.F0) (H' := upd H a o) k rfl rfl (fun n i b e1 e2 => by
    cases n with
    | zero => simp at e1 e2; subst e1 e2; exact ⟨q, s, e, m⟩
    | succ n => simp at e1) (by simp) (fun b u eb nb _ => by rw [upd_ne fun z => nb (by simp [z])]; exact eb) (fun b z => upd_al z) (fun p hp => tab_top t0 (k.tb p hp)) (fun _ z => z) (fun _ z => .inl z) (fun n b d' e1 e2 => by
    cases n with
    | zero => simp at e1 e2; subst e1 e2; exact t
    | succ n => simp at e1)
  rw [putIo_one e] at r
  exact ⟨r.1, fun b u eb nb _ => by rw [upd_ne (fun (z : b = a) => nb (by rw [z]; exact hown))]; exact eb, fun b z => .inl (r.2 b z), fun b z => upd_al z⟩
/-- o.m(..) that writes o: the new content, the answer -/
def mutF (f : D → List D → Option (D × D)) (j : Nat) (fs : List Fv) (ε : Ev) : Re Fv := match shr fs ε with
  | some (ds, ε1) => match ε1[j]? with
    | some s => match s with
      | .ow d => (match f d ds with
        | some (d', r) => .ok (.sh r) (ε1.set j (.ow d'))
        | none => .no)
      | .io d => (match f d ds with
        | some (d', r) => .ok (.sh r) (ε1.set j (.io d'))
        | none => .no)
      | _ => .no
    | none => .no
  | none => .no
def isLst : D → Bool
  | .lst _ => true
  | _ => false
def isDct : D → Bool
  | .dct _ => true
  | _ => false
def recv (isT : D → Bool) (x : Fv) (ε : Ev) : Option Nat := match x with
  | .at j => match ε.at j with
    | some d => if isT d = true then some j else none
    | none => none
  | _ => none
def dMut (isT : D → Bool) (f : D → List D → Option (D × D)) (do_ : Dn Fv) (da : Dn (List Fv)) : Dn Fv := fun ε => (do_ ε).bind fun x ε1 => match recv isT x ε1 with
  | some j => (da ε1).bind (mutF f j)
  | none => .no
/-- what a writing method does -/
def MtS (G : Gx) (r : V → List V → Hp → VK → Prop) (f : D → List D → Option (D × D)) : Prop := ∀ (H : Hp) (F : Addr → Prop) (a : Addr) (xs : List V) (d d' : D) (ds : List D) (e : D) (Q : VK), FOld H F → F a → Top G H F a d → RpAll G H F xs ds → f d ds = some (d', e) →
  (∀ v o, Top G (upd H a o) F a d' → Rp G (upd H a o) F v e → Q v (upd H a o)) → r (.ref a) xs H Q
theorem mutF_sound {r : V → List V → Hp → VK → Prop} {f : D → List D → Option (D × D)} {j : Nat} {a : Addr} {fs : List Fv} {vs : List V} {Q : VK} (hs : MtS G r f) (k : Ok G C H σ ε) (q : σ[j]? = some (some (.ref a))) (vr : VRs G C H σ ε vs fs) (p : PostE G W C σ ε H Q (mutF f j fs ε)) : r (.ref a) vs H Q := by
  unfold mutF at p
  cases q1 : shr fs ε with
  | none => rw [q1] at p; exact p.elim
  | some y =>
    obtain ⟨ds, ε1⟩ := y
    rw [q1] at p
    obtain ⟨k1, rs, o1⟩ := shr_sound k vr q1
    dsimp only at p
    cases q2 : ε1[j]? with
    | none => rw [q2] at p; exact p.elim
    | some s =>
      rw [q2] at p
      have st1 : Stp σ ε σ ε1 H H := Stp.less o1
      have go : ∀ (s : Sl) (d : D), ε1[j]? = some s → s.mut = true → Top G H (C.F σ ε1) a d → PostE G W C σ ε H Q (match f d ds with
          | some (d', r) => .ok (.sh r) (ε1.set j (s.with d'))
          | none => .no) → r (.ref a) vs H Q := fun s d es ms t p => by
        cases q3 : f d ds with
        | none => rw [q3] at p; exact p.elim
        | some y =>
          obtain ⟨d', e⟩ := y
          rw [q3] at p
          have hF : C.F σ ε1 a := .inr ⟨j, s, es, ms, q⟩
          refine hs H _ a vs d d' ds e Q k1.fold hF t rs q3 fun v o t' r' => ?_
          obtain ⟨k2, st2⟩ := k1.wr1 es ms q t'
          have o2 : ∀ b, own σ (ε1.set j (s.with d')) b → own σ ε1 b := fun b z => by
            rcases st2.own b z with z | z
            · exact z
            · obtain ⟨u, eu⟩ := k2.own_some (show own σ _ b from by assumption)
              by_cases hb : b = a
              · rw [hb]; exact ⟨j, s, es, ms, q⟩
              · rw [upd_ne hb, z] at eu; cases eu
          exact p v _ (st1.trans st2) k2 (r'.mv (Mv.less fun b z => z.imp id (o2 b)))
      cases s with
      | no => exact p.elim
      | sh d => exact p.elim
      | ow d =>
        obtain ⟨b, e1, t⟩ := k1.ow j d q2
        rw [q] at e1; cases e1
        exact go (.ow d) d q2 rfl t p
      | io d =>
        obtain ⟨b, e1, t⟩ := k1.io j d q2
        rw [q] at e1; cases e1
        exact go (.io d) d q2 rfl t p
theorem recv_sound {isT : D → Bool} {Hs : Hp} {x : V} {fx : Fv} {j : Nat} (vr : VR G C Hs H σ ε x fx) (h : recv isT fx ε = some j) : σ[j]? = some (some x) ∧ ∃ d, ε.at j = some d ∧ isT d = true := by
  cases fx with
  | sh d => cases h
  | fr d => cases h
  | «at» i =>
    unfold recv at h
    dsimp only at h
    cases q : ε.at i with
    | none => rw [q] at h; cases h
    | some d =>
      rw [q] at h
      dsimp only at h
      split at h
      · cases h; exact ⟨vr, d, q, by assumption⟩
      · cases h
section
variable {o e : Expr} {es : List Expr} {do_ : Dn Fv} {da : Dn (List Fv)} {name : Str} {id : String} {r : V → List V → Hp → VK → Prop} {f : D → List D → Option (D × D)} {apos cpos : Pos}
theorem eML (c : Cok G X W k) (m : MtM X id r) (hs' : MtS G r f) (slot : Slot "list" name id) (hty : typeOf (.builtin id) = pure (.type "method_descriptor")) (ho : PEp G X W o do_) (ha : PAp G X W (e :: es) da)
    (hbase : attributeBase o name X.env (eval o X.env) = eval o X.env := by rfl)
    (hfew : ((backTo cpos (starEach (e :: es) X.env)).all (fun x => !x.1) && (backToKw cpos (keywordEach [] X.env)).all (fun x => x.1.isSome)
      && decide ((e :: es).length + ([] : List Keyword).length + (if ([] : List Keyword).isEmpty then 0 else 1) < 30)) = true := by rfl)
    (hline : (apos.endLine == cpos.line) = true := by rfl) (hs : starEach (e :: es) X.env = (false, eval e X.env) :: starEach es X.env := by rfl) (hplain : (backTo cpos (starEach es X.env)).any (·.1) = false := by rfl) :
    PEp G X W (.Call (.Attribute o name apos) (e :: es) [] cpos) (dMut isLst f do_ da) := by
  refine PE.imp (pe_bm PySem.F.plainAttrs_list slot hty m ho ha hbase hfew hline hs hplain) ?_
  rintro σ H Q ⟨C, ε, ok, post⟩
  refine wE_bind (P := PostE G W C σ ε H Q) ok post (fun _ _ h => h) (fun h => h) fun fx ε1 x H1 st1 ok1 vr1 p1 => ?_
  have p1 := p1.from st1
  cases q : recv isLst fx ε1 with
  | none => rw [q] at p1; exact p1.elim
  | some j =>
    rw [q] at p1
    obtain ⟨ev, d, ed, hd⟩ := recv_sound vr1 q
    have rt := ok1.rtAt ev ed
    cases d with
    | lst ds =>
      obtain ⟨a, vs, rfl, ea, _⟩ := rt
      rw [c.hK]
      refine ⟨.inl ⟨rfl, vs, SqL.of ea⟩, ?_⟩
      refine wA_bind (P := PostE G W C σ ε1 H1 Q) ok1 p1 (fun _ _ h => h) (fun h => h) fun fs ε2 ws H2 st2 ok2 vr2 p2 => ?_
      exact mutF_sound hs' ok2 ev vr2 (p2.from st2)
    | _ => cases hd
theorem eML0 (c : Cok G X W k) (m : MtM X id r) (hs' : MtS G r f) (slot : Slot "list" name id) (hty : typeOf (.builtin id) = pure (.type "method_descriptor")) (ho : PEp G X W o do_)
    (hbase : attributeBase o name X.env (eval o X.env) = eval o X.env := by rfl) (hline : (apos.endLine == cpos.line) = true := by rfl) :
    PEp G X W (.Call (.Attribute o name apos) [] [] cpos) (dMut isLst f do_ aNil) := by
  refine PE.imp (pe_bm0 PySem.F.plainAttrs_list slot hty m ho hbase hline) ?_
  rintro σ H Q ⟨C, ε, ok, post⟩
  refine wE_bind (P := PostE G W C σ ε H Q) ok post (fun _ _ h => h) (fun h => h) fun fx ε1 x H1 st1 ok1 vr1 p1 => ?_
  have p1 := p1.from st1
  cases q : recv isLst fx ε1 with
  | none => rw [q] at p1; exact p1.elim
  | some j =>
    rw [q] at p1
    obtain ⟨ev, d, ed, hd⟩ := recv_sound vr1 q
    have rt := ok1.rtAt ev ed
    cases d with
    | lst ds =>
      obtain ⟨a, vs, rfl, ea, _⟩ := rt
      rw [c.hK]
      exact ⟨.inl ⟨rfl, vs, SqL.of ea⟩, mutF_sound hs' ok1 ev .nil p1⟩
    | _ => cases hd
end
theorem mv_wr {a : Addr} {o : HO} (h : F a) : Mv H (upd H a o) F F := ⟨fun b u e n _ => by rw [upd_ne (fun (z : b = a) => n (by rw [z]; exact h))]; exact e, fun b z => .inl z⟩
def appD : D → List D → Option (D × D)
  | .lst ds, [d] => if ds.length < 16000000 then some (.lst (ds ++ [d]), .non) else none
  | _, _ => none
theorem mAppend : MtS G rAppend appD := by
  intro H F a xs d d' ds e Q fo hF t rs h p
  cases d with
  | lst es =>
    obtain ⟨vs, ev, rv⟩ := t
    match ds, rs, h with
    | [x], .cons rx .nil, h =>
      simp only [appD] at h
      split at h
      · cases h
        refine ⟨a, vs, _, rfl, rfl, ev, Nat.lt_of_lt_of_le (by rw [rv.length]; assumption) sizeLine_big, p .non _ ⟨_, upd_same, (rv.mv (mv_wr hF)).app (.cons (rx.mv (mv_wr hF)) .nil)⟩ .non⟩
      · cases h
    | [], _, h => cases h
    | _ :: _ :: _, _, h => cases h
  | _ => cases h
def extD : D → List D → Option (D × D)
  | .lst ds, [.lst es] => if ds.length + es.length ≤ 16000000 then some (.lst (ds ++ es), .non) else none
  | _, _ => none
theorem mExtend : MtS G rExtend extD := by
  intro H F a xs d d' ds e Q fo hF t rs h p
  unfold extD at h
  split at h
  · obtain ⟨vs, ev, rv⟩ := t
    cases rs with
    | cons rx rn =>
      cases rn
      cases rx with
      | lst e2 n2 r2 =>
        split at h
        · cases h
          exact ⟨a, _, vs, _, rfl, rfl, ev, e2, by rw [rv.length, r2.length]; exact sz_le (by assumption), p .non _ ⟨_, upd_same, (rv.mv (mv_wr hF)).app (r2.mv (mv_wr hF))⟩ .non⟩
        · cases h
  · cases h
theorem RpAll.dropLast {vs : List V} {ds : List D} (r : RpAll G H F vs ds) : RpAll G H F vs.dropLast ds.dropLast := by
  rw [List.dropLast_eq_take, List.dropLast_eq_take, r.length]
  exact r.take _
def popD : D → List D → Option (D × D)
  | .lst ds, [] => (ds[ds.length - 1]?).map fun d => (.lst ds.dropLast, d)
  | _, _ => none
theorem mPop : MtS G rPop popD := by
  intro H F a xs d d' ds e Q fo hF t rs h p
  unfold popD at h
  split at h
  · rename_i es
    obtain ⟨vs, ev, rv⟩ := t
    cases rs
    cases q : es[es.length - 1]? with
    | none => rw [q] at h; cases h
    | some y =>
      rw [q] at h
      cases h
      obtain ⟨v, e1, r1⟩ := rv.get' q
      exact ⟨a, vs, v, rfl, rfl, ev, by rw [rv.length]; exact e1, p v _ ⟨_, upd_same, (rv.mv (mv_wr hF)).dropLast⟩ (r1.mv (mv_wr hF))⟩
  · cases h
theorem RpAll.erase {vs : List V} {ds : List D} (r : RpAll G H F vs ds) : ∀ i, RpAll G H F (vs.eraseIdx i) (ds.eraseIdx i) := by
  induction vs generalizing ds with
  | nil => cases r; intro i; simp; exact .nil
  | cons v vs ih =>
    cases r with
    | cons a b =>
      intro i
      cases i with
      | zero => exact b
      | succ i => exact .cons a (ih b i)
def popAtD : D → List D → Option (D × D)
  | .lst ds, [.int i] => if -(2 ^ 63) ≤ i ∧ i < 2 ^ 63 then (seqIndex? i ds.length).bind fun k => (ds[k]?).map fun d => (.lst (ds.eraseIdx k), d) else none
  | _, _ => none
theorem mPopAt : MtS G rPopAt popAtD := by
  intro H F a xs d d' ds e Q fo hF t rs h p
  unfold popAtD at h
  split at h
  · rename_i es i
    obtain ⟨vs, ev, rv⟩ := t
    cases rs with
    | cons ri rn =>
      cases rn
      cases ri
      split at h
      · rename_i hc
        cases q0 : seqIndex? i es.length with
        | none => rw [q0] at h; cases h
        | some kx =>
          rw [q0] at h
          simp only [Option.bind_some] at h
          cases q : es[kx]? with
          | none => rw [q] at h; cases h
          | some y =>
            rw [q] at h
            cases h
            obtain ⟨v, e1, r1⟩ := rv.get' q
            exact ⟨a, vs, i, kx, v, rfl, rfl, ev, hc.1, hc.2, by rw [rv.length]; exact q0, e1, p v _ ⟨_, upd_same, (rv.mv (mv_wr hF)).erase kx⟩ (r1.mv (mv_wr hF))⟩
      · cases h
  · cases h

/-! ### d[k] = v -/
def putD {κ : Type} [DecidableEq κ] (es : List (κ × D)) (k : κ) (d : D) : List (κ × D) :=
  if (es.any fun kv => decide (kv.1 = k)) = true then es.map (fun kv => if kv.1 = k then (kv.1, d) else kv) else es ++ [(k, d)]
theorem any_keys {κ : Type} [DecidableEq κ] {k : κ} {kvs : List (κ × V)} {es : List (κ × D)} (e : kvs.map (·.1) = es.map (·.1)) : (kvs.any fun kv => decide (kv.1 = k)) = es.any fun kv => decide (kv.1 = k) := by
  have h1 : (kvs.any fun kv => decide (kv.1 = k)) = (kvs.map (·.1)).any fun x => decide (x = k) := by rw [List.any_map]; rfl
  have h2 : (es.any fun kv => decide (kv.1 = k)) = (es.map (·.1)).any fun x => decide (x = k) := by rw [List.any_map]; rfl
  rw [h1, h2, e]
theorem put_rp {κ : Type} [DecidableEq κ] {k : κ} {v : V} {d : D} {kvs : List (κ × V)} {es : List (κ × D)} (e : kvs.map (·.1) = es.map (·.1)) (r : RpAll G H F (kvs.map (·.2)) (es.map (·.2))) (rv : Rp G H F v d) :
    (putK kvs k v).map (·.1) = (putD es k d).map (·.1) ∧ RpAll G H F ((putK kvs k v).map (·.2)) ((putD es k d).map (·.2)) := by
  unfold putK putD
  rw [any_keys e]
  split
  · have gen : ∀ {kvs : List (κ × V)} {es : List (κ × D)}, kvs.map (·.1) = es.map (·.1) → RpAll G H F (kvs.map (·.2)) (es.map (·.2)) →
        ((kvs.map fun kv => if kv.1 = k then (kv.1, v) else kv).map (·.1) = (es.map fun kv => if kv.1 = k then (kv.1, d) else kv).map (·.1) ∧
          RpAll G H F ((kvs.map fun kv => if kv.1 = k then (kv.1, v) else kv).map (·.2)) ((es.map fun kv => if kv.1 = k then (kv.1, d) else kv).map (·.2))) := by
      intro kvs
      induction kvs with
      | nil => intro es e r; cases es with
        | nil => exact ⟨rfl, .nil⟩
        | cons => simp at e
      | cons p kvs ih =>
        intro es e r
        cases es with
        | nil => simp at e
        | cons q es =>
          simp only [List.map_cons, List.cons.injEq] at e
          cases r with
          | cons r0 rs =>
            obtain ⟨i1, i2⟩ := ih e.2 rs
            simp only [List.map_cons]
            by_cases c : p.1 = k
            · have c2 : q.1 = k := by rw [← e.1]; exact c
              rw [if_pos c, if_pos c2]
              exact ⟨by rw [i1, e.1], .cons rv i2⟩
            · have c2 : ¬q.1 = k := by rw [← e.1]; exact c
              rw [if_neg c, if_neg c2]
              exact ⟨by rw [i1, e.1], .cons r0 i2⟩
    exact gen e r
  · rw [List.map_append, List.map_append, List.map_append, List.map_append, e]
    exact ⟨rfl, r.app (.cons rv .nil)⟩
def setD (d : D) (ds : List D) : Option (D × D) := match d, ds with
  | .dct es, [v, kd] => (keyD kd).bind fun k => if es.length < 16000000 then some (.dct (putD es k v), .non) else none
  | _, _ => none
def sDDput (do_ dk dv : Dn Fv) : Dn Fl := fun ε => (dv ε).bind fun v ε1 => (do_ ε1).bind fun x ε2 => match x with
  | .at j => (dk ε2).bind fun y ε3 => (mutF setD j [v.old, y.old] ε3).bind fun _ ε4 => .ok .nx ε4
  | _ => .no
theorem sDput {o i value : Expr} {do_ dk dv : Dn Fv} {pos pos' : Pos} (c : Cok G X W k) (ho : PEp G X W o do_) (hi : PEp G X W i dk) (hv : PEp G X W value dv) (hs : swapsWith value (some (.Subscript o i pos')) pos.line X.env = pure false) :
    PSp G X W (.Assign [.Subscript o i pos'] value pos) (sDDput do_ dk dv) := by
  refine PS.imp (ps_dput (by have := c.u; omega) ho hi hv hs) ?_
  rintro E σ H ⟨C, ε, ok, post⟩
  refine wE_bind (P := PostS G W C σ ε H E) ok post (fun _ _ h => PostS.px h) (fun h => h) fun fv ε1 v H1 st1 ok1 vr1 p1 => ?_
  have p1 := PostS.from st1 p1
  refine wE_bind (P := PostS G W C σ ε1 H1 E) ok1 p1 (fun _ _ h => PostS.px h) (fun h => h) fun fx ε2 x H2 st2 ok2 vr2 p2 => ?_
  have p2 := PostS.from st2 p2
  cases fx with
  | sh d => exact p2.elim
  | fr d => exact p2.elim
  | «at» j =>
    dsimp only at p2
    refine wE_bind (P := PostS G W C σ ε2 H2 E) ok2 p2 (fun _ _ h => PostS.px h) (fun h => h) fun fy ε3 y H3 st3 ok3 vr3 p3 => ?_
    have p3 := PostS.from st3 p3
    have v1 := ((vr1.old .nil).stp st2).stp st3
    have vs : VRs G C H3 σ ε3 [v, y] [fv.old, fy.old] := by
      have v2 := vr3.old .nil
      generalize fv.old = a at v1
      cases v1 with
      | sh r _ => exact .sh r v2
      | «at» r _ => exact .at r v2
    have hj : σ[j]? = some (some x) := vr2
    -- the object at j
    have obj : ∃ a, x = .ref a := by
      unfold mutF at p3
      cases q1 : shr [fv.old, fy.old] ε3 with
      | none => rw [q1] at p3; exact p3.elim
      | some z =>
        obtain ⟨ds, ε4⟩ := z
        rw [q1] at p3
        obtain ⟨k4, _, _⟩ := shr_sound ok3 vs q1
        dsimp only at p3
        cases q2 : ε4[j]? with
        | none => rw [q2] at p3; exact p3.elim
        | some s =>
          rw [q2] at p3
          cases s with
          | no => exact p3.elim
          | sh d => exact p3.elim
          | ow d => obtain ⟨b, e1, _⟩ := k4.ow j d q2; rw [hj] at e1; cases e1; exact ⟨b, rfl⟩
          | io d => obtain ⟨b, e1, _⟩ := k4.io j d q2; rw [hj] at e1; cases e1; exact ⟨b, rfl⟩
    obtain ⟨a, rfl⟩ := obj
    have hms : MtS G (fun x xs H Q => ∃ (a : Addr) (v y : V) (H4 : Hp), x = .ref a ∧ xs = [v, y] ∧ DPut H a y v H4 ∧ Q .non H4) setD := by
      intro H F a xs d d' ds e Q fo hF t rs h p
      unfold setD at h
      split at h
      · rename_i es vd kd
        obtain ⟨kvs, ev, ek, rv⟩ := t
        cases rs with
        | cons r1 rs =>
          cases rs with
          | cons r2 rs =>
            cases rs
            cases q : keyD kd with
            | none => rw [q] at h; cases h
            | some key =>
              rw [q] at h
              simp only [Option.bind_some] at h
              split at h
              · rename_i hl
                cases h
                have hk := r2.rt.key q
                subst hk
                have hl' : kvs.length = es.length := by have := congrArg List.length ek; simpa using this
                obtain ⟨g1, g2⟩ := put_rp (k := key) ek (rv.mv (mv_wr (o := .dK (putK kvs key _)) hF)) (r1.mv (mv_wr hF))
                exact ⟨a, _, _, _, rfl, rfl, DPut.k ev (Nat.lt_of_lt_of_le (by rw [hl']; exact hl) sizeLine_big), p .non _ ⟨_, upd_same, g1, g2⟩ .non⟩
              · cases h
      · cases h
    have fin : PostE G W C σ ε3 H3 (fun _ H4 => E.nx σ H4) (mutF setD j [fv.old, fy.old] ε3) := by
      cases q : mutF setD j [fv.old, fy.old] ε3 with
      | no => rw [q] at p3; exact p3.elim
      | exc z ε' => rw [q] at p3; exact PostS.px p3
      | ok z ε4 => rw [q] at p3; exact fun u H4 st4 ok4 _ => p3 σ H4 st4 ok4
    obtain ⟨a', v', y', H4, e1, e2, dp, q4⟩ := mutF_sound hms ok3 hj vs fin
    cases e1
    simp only [List.cons.injEq] at e2
    obtain ⟨rfl, rfl, _⟩ := e2
    exact ⟨a, H4, rfl, dp, q4⟩

/-! ### list(range(..)) -/
def lrng1 (fv : Fv) (ε : Ev) : Re Fv := match rd ε fv with
  | some (.int n) => if -(2 ^ 62) ≤ n ∧ n ≤ 16000000 then .ok (.fr (.lst (rngD 0 n.toNat))) ε else .no
  | _ => .no
theorem rgV_rp (a : Int) (n : Nat) : RpAll G H F ((List.range n).map fun i => V.int (a + (i : Nat))) (rngD a n) := by
  unfold rngD
  generalize List.range n = l
  induction l with
  | nil => exact .nil
  | cons x l ih => exact .cons (.int _) ih
theorem eLrng1 {a : Expr} {da : Dn Fv} {p p' pos pos' : Pos} (c : Cok G X W k) (hl : Gl X "list") (ml : G.mg "list" = none) (hg : Gl X "range") (hm : G.mg "range" = none) (ha : PEp G X W a da)
    (na : starEach [a] X.env = (false, eval a X.env) :: starEach [] X.env := by rfl)
    (nb : starEach [.Call (.Name "range" p') [a] [] pos'] X.env = (false, eval (.Call (.Name "range" p') [a] [] pos') X.env) :: starEach [] X.env := by rfl) :
    PEp G X W (.Call (.Name "list" p) [.Call (.Name "range" p') [a] [] pos'] [] pos) (fun ε => (da ε).bind fun x ε1 => lrng1 x.old ε1) := by
  refine PE.imp (pe_listRg c.calm hl (by rw [c.hm]; exact ml) (prg_1 hg (by rw [c.hm]; exact hm) ha na) nb) ?_
  rintro σ H Q ⟨C, ε, ok, post⟩
  refine wE_bind (P := PostE G W C σ ε H Q) ok post (fun _ _ h => h) (fun h => h) fun fx ε1 x H1 st1 ok1 vr1 p1 => ?_
  have p1 := p1.from st1
  unfold lrng1 at p1
  cases q : rd ε1 fx.old with
  | none => rw [q] at p1; exact p1.elim
  | some d =>
    rw [q] at p1
    have rt := (vr1.old .nil).rt ok1 (ds := [d]) (by simp [rds, q])
    cases rt with
    | cons rx _ =>
      cases d with
      | int n =>
        cases rx
        dsimp only at p1
        split at p1
        · rename_i hc
          refine ⟨n, rfl, ⟨by decide, by decide, hc.1, by omega, by omega⟩, fun q hq => ?_⟩
          have pv := PostE.v ok1 p1 (fun i z => by cases z)
          have := pv.lst (vs := rgV 0 n) (by unfold rgV; rw [Int.sub_zero]; exact rgV_rp 0 _) hq
          exact this
        · exact p1.elim
      | _ => exact p1.elim

/-! ### calls by names -/
def permL {α : Type} (idx : List Nat) (l : List α) : List α := idx.filterMap (l[·]?)
def kperm {α : Type} (n m : Nat) (idx : List Nat) (us ws : List α) : List α := if us.length = n ∧ ws.length = m then permL idx (us ++ ws) else []
theorem VRs.app {vs ws : List V} {fs gs : List Fv} (h : VRs G C H σ ε vs fs) (k : VRs G C H σ ε ws gs) : VRs G C H σ ε (vs ++ ws) (fs ++ gs) := by
  induction h with
  | nil => exact k
  | sh r _ ih => exact .sh r ih
  | «at» r _ ih => exact .at r ih
theorem VRs.length {vs : List V} {fs : List Fv} (h : VRs G C H σ ε vs fs) : vs.length = fs.length := by
  induction h with
  | nil => rfl
  | sh r _ ih => simp [ih]
  | «at» r _ ih => simp [ih]
theorem VRs.get {vs : List V} {fs : List Fv} (h : VRs G C H σ ε vs fs) : ∀ {i : Nat} {v : V}, vs[i]? = some v → ∃ f, fs[i]? = some f ∧ VRs G C H σ ε [v] [f] := by
  induction h with
  | nil => intro i v e; simp at e
  | sh r _ ih =>
    intro i v e
    cases i with
    | zero => simp at e; subst e; exact ⟨_, rfl, .sh r .nil⟩
    | succ i => simpa using ih (by simpa using e)
  | «at» r _ ih =>
    intro i v e
    cases i with
    | zero => simp at e; subst e; exact ⟨_, rfl, .at r .nil⟩
    | succ i => simpa using ih (by simpa using e)
theorem VRs.perm {vs : List V} {fs : List Fv} (h : VRs G C H σ ε vs fs) : ∀ (idx : List Nat), VRs G C H σ ε (permL idx vs) (permL idx fs)
  | [] => .nil
  | i :: idx => by
    have ih := VRs.perm h idx
    unfold permL at ih ⊢
    rw [List.filterMap_cons, List.filterMap_cons]
    cases q : vs[i]? with
    | none =>
      have : fs[i]? = none := by
        rw [List.getElem?_eq_none_iff] at q ⊢
        rw [← h.length]; exact q
      rw [this]
      exact ih
    | some v =>
      obtain ⟨f, ef, r⟩ := h.get q
      rw [ef]
      exact r.app ih
theorem VRs.kperm {vs zs : List V} {fs gs : List Fv} (h : VRs G C H σ ε vs fs) (h' : VRs G C H σ ε zs gs) (n m : Nat) (idx : List Nat) : VRs G C H σ ε (kperm n m idx vs zs) (kperm n m idx fs gs) := by
  unfold PL.kperm
  rw [h.length, h'.length]
  split
  · exact (h.app h').perm idx
  · exact .nil
theorem Vals.perm {vs : List V} {us : List Value} (h : Vals vs us) : ∀ (idx : List Nat), Vals (permL idx vs) (permL idx us)
  | [] => .nil
  | i :: idx => by
    have ih := Vals.perm h idx
    unfold permL at ih ⊢
    rw [List.filterMap_cons, List.filterMap_cons]
    cases q : vs[i]? with
    | none => rw [h.none_of q]; exact ih
    | some v =>
      obtain ⟨u, eu, r⟩ := h.get q
      rw [eu]
      exact .cons r ih
theorem kb_mk {K : PySem.W.Frag} {fd : FuncData} {ps ks : List Str} (n m : Nat) (idx : List Nat) (h0 : ps ≠ []) (h : ∀ us ws : List Value, us.length = n → ws.length = m → bindArgs fd ⟨us, ks.zip ws⟩ = pure (ps.zip (permL idx (us ++ ws)))) :
    KBinds K fd ps ks (kperm n m idx) (kperm n m idx) where
  to := by
    intro s us ws _ hl
    unfold PL.kperm at hl ⊢
    by_cases c : us.length = n ∧ ws.length = m
    · rw [if_pos c]
      exact .of_eq (h us ws c.1 c.2)
    · rw [if_neg c] at hl
      exact absurd (List.length_eq_zero_iff.mp hl.symm) h0
  rel := by
    intro vs us zs ws r1 r2
    unfold PL.kperm
    rw [r1.length, r2.length]
    split
    · exact Vals.perm (r1.append r2) idx
    · exact .nil
abbrev PKp (G : Gx) (X : Cx) (W : WX) (kws : List Keyword) (den : Dn (List Fv)) : Prop := PK X kws (wA G W den)
theorem PK.imp {es : List Keyword} {t t' : TA} (h : PK X es t) (k : ∀ σ H Q, t' σ H Q → t σ H Q) : PK X es t' := ⟨fun p pins s σ H Q I z => h.run p pins s σ H Q I (k σ H Q z)⟩
theorem kNil : PKp G X W [] aNil := PK.imp pk_nil fun σ H Q ⟨C, ε, ok, post⟩ => post [] H Stp.refl ok .nil
theorem kCons {a : Expr} {as : List Keyword} {nm : Option Str} {kpos : Pos} {da : Dn Fv} {db : Dn (List Fv)} (ha : PEp G X W a da) (hb : PKp G X W as db) : PKp G X W (⟨nm, a, kpos⟩ :: as) (aCons da db) := by
  refine PK.imp (pk_cons ha hb) ?_
  rintro σ H Q ⟨C, ε, ok, post⟩
  refine wE_bind (P := PostA G W C σ ε H Q) ok post (fun _ _ h => h) id fun fx ε1 x H1 st1 ok1 vr1 p1 => ?_
  refine wA_bind (P := PostA G W C σ ε1 H1 Q) ok1 (p1.from st1) (fun _ _ h => h) id fun fs ε2 xs H2 st2 ok2 vr2 p2 => ?_
  refine p2 _ H2 st2 ok2 ?_
  have v1 := (vr1.old .nil).stp st2
  generalize fx.old = a at v1
  cases v1 with
  | sh r _ => exact .sh r vr2
  | «at» r _ => exact .at r vr2
theorem run_fnGk {CX : CXT} {j : Nat} {f : Addr} {fd : FuncData} {ps ks : List Str} {sp : Sp} {E : L2.St → XK} {g : List Value → List Value → List Value} {gV : List V → List V → List V} {pins : List (Addr × Obj)} {s : Shared} {Q : VK} {us ws : List Value} {vs zs : List V} (F : FnG X.prog X.w X.K X.mg X.base CX j f fd ps sp)
    (hr : Room j X.A) (hg : X.A.guards = some []) (hb : KBinds X.K fd ps ks g gV) (hx : PassesAt CX X σ (E σ)) (I : L2.Inv X pins σ H s) (r : Vals vs us) (rz : Vals zs ws) (h : sp (gV vs zs) H Q (E σ)) :
    wpAny (model X.prog X.w) X.A (call (.ref f) us (ks.zip ws)) (EP X pins σ Q) X.xe s := by
  have r2 := hb.rel r rz
  have hl : (g us ws).length = ps.length := by rw [← r2.length]; exact F.gl _ _ _ _ h
  refine wpAny_call (codeAny_mono (F.go X.A X.stack s H ⟨us, ks.zip ws⟩ (g us ws) (gV vs zs) Q (E σ) hr hg I.env0 (hb.to s us ws I.kIn hl) r2 h) fun r s' hq => ?_)
  cases r with
  | error e => exact hx pins H s e s' I hq
  | ok fl =>
    cases fl with
    | ret u => exact I.after hq
    | next => exact False.elim hq
    | brk => exact False.elim hq
    | cont => exact False.elim hq
section
variable {j n m : Nat} {idx : List Nat} {f : Addr} {fd : FuncData} {ps ks : List Str} {mask : List Bool} {den : List D → Rf} {x : Str} {p pos : Pos} {e : Expr} {es : List Expr} {kws : List Keyword} {da dk : Dn (List Fv)}
def dCallK (n m : Nat) (idx : List Nat) (mask : List Bool) (den : List D → Rf) (da dk : Dn (List Fv)) : Dn Fv := fun ε => (da ε).bind fun fs ε1 => (dk ε1).bind fun gs ε2 => callF mask den (kperm n m idx fs gs) ε2
theorem eCallK (c : Cok G X W k) (F : FnP G j f fd ps mask den) (hj : j ≤ k) (hg : Gl X x) (hm : G.mg x = some (.ref f)) (hk : PySem.W.keepIn G.K (.ref f) = true) (hb : KBinds G.K fd ps ks (kperm n m idx) (kperm n m idx))
    (ha : PAp G X W (e :: es) da) (hkw : PKp G X W kws dk) (hall : (backToKw pos (keywordEach kws X.env)).all (·.1.isSome) = true := by rfl) (hks : (backToKw pos (keywordEach kws X.env)).filterMap (·.1) = ks := by rfl)
    (hdb : (x == ("__debug__" : Str)) = false := by decide) (he : starEach (e :: es) X.env = (false, eval e X.env) :: starEach es X.env := by rfl)
    (hpl : ((backTo pos (starEach (e :: es) X.env)).any (·.1) || (backToKw pos (keywordEach kws X.env)).any (·.1.isNone)) = false := by rfl) :
    PEp G X W (.Call (.Name x p) (e :: es) kws pos) (dCallK n m idx mask den da dk) := by
  have F' : FnG X.prog X.w X.K X.mg X.base (L2.CX X.prog X.w) j f fd ps (spP G mask den) := by rw [c.hP, c.hw, c.hK, c.hm, c.hb]; exact F
  rw [← c.hm] at hm
  rw [← c.hK] at hk hb
  refine ⟨fun pins s σ H Q I h => ?_⟩
  obtain ⟨C, ε, ok, post⟩ := h
  have h : wA G W da σ H fun vs H1 => wA G W dk σ H1 fun zs H2 => spP G mask den (kperm n m idx vs zs) H2 Q (WE W σ) := by
    refine wA_bind (P := PostE G W C σ ε H Q) ok post (fun _ _ h => h) (fun h => h) fun fs ε1 vs H1 st1 ok1 vr1 p1 => ?_
    refine wA_bind (P := PostE G W C σ ε1 H1 Q) ok1 (p1.from st1) (fun _ _ h => h) (fun h => h) fun gs ε2 zs H2 st2 ok2 vr2 p2 => ?_
    exact callF_sound ok2 ((vr1.stp st2).kperm vr2 n m idx) (p2.from st2)
  refine wpAny_Call_Name_kw (ld_glob I hg hm ?_ hdb)
  refine PySem.W.callWith_KW (h₀ := X.base) I.ok.mod.kin hk hall (thn (ha.run pos pins s σ H _ I h) fun us s1 ⟨vs, H1, I1, r, q⟩ => ?_) hpl he
  refine thn (hkw.run pos pins s1 σ H1 _ I1 q) fun ws s2 ⟨zs, H2, I2, rz, q2⟩ => ⟨I2.kIn, ?_⟩
  rw [hks]
  exact run_fnGk F' (c.hr.mono hj) c.gd hb (passAt c.tk σ) I2 r rz q2
theorem eCallK0 (c : Cok G X W k) (F : FnP G j f fd ps mask den) (hj : j ≤ k) (hg : Gl X x) (hm : G.mg x = some (.ref f)) (hk : PySem.W.keepIn G.K (.ref f) = true) (hb : KBinds G.K fd ps ks (kperm n m idx) (kperm n m idx)) (hkw : PKp G X W kws dk)
    (hall : (backToKw pos (keywordEach kws X.env)).all (·.1.isSome) = true := by rfl) (hks : (backToKw pos (keywordEach kws X.env)).filterMap (·.1) = ks := by rfl) (hdb : (x == ("__debug__" : Str)) = false := by decide)
    (hpl : ((backTo pos (starEach [] X.env)).any (·.1) || (backToKw pos (keywordEach kws X.env)).any (·.1.isNone)) = false := by rfl) :
    PEp G X W (.Call (.Name x p) [] kws pos) (dCallK n m idx mask den aNil dk) := by
  have F' : FnG X.prog X.w X.K X.mg X.base (L2.CX X.prog X.w) j f fd ps (spP G mask den) := by rw [c.hP, c.hw, c.hK, c.hm, c.hb]; exact F
  rw [← c.hm] at hm
  rw [← c.hK] at hk hb
  refine ⟨fun pins s σ H Q I h => ?_⟩
  obtain ⟨C, ε, ok, post⟩ := h
  have h : wA G W dk σ H fun zs H2 => spP G mask den (kperm n m idx [] zs) H2 Q (WE W σ) := by
    refine wA_bind (P := PostE G W C σ ε H Q) ok post (fun _ _ h => h) (fun h => h) fun gs ε2 zs H2 st2 ok2 vr2 p2 => ?_
    exact callF_sound ok2 ((VRs.nil (G := G) (C := C) (H := H2) (σ := σ) (ε := ε2)).kperm vr2 n m idx) (PostE.from st2 p2)
  refine wpAny_Call_Name_kw (ld_glob I hg hm ?_ hdb)
  refine PySem.W.callWith_KW0 (h₀ := X.base) I.ok.mod.kin hk hall (thn (hkw.run pos pins s σ H _ I h) ?_) hpl
  rintro ws s2 ⟨zs, H2, I2, rz, q2⟩
  refine ⟨I2.kIn, ?_⟩
  rw [hks]
  exact run_fnGk (us := []) (vs := []) F' (c.hr.mono hj) c.gd hb (passAt c.tk σ) I2 .nil rz q2
end
end
end PL

namespace PL
open PySem PySem.Spec PyProof.Rows L2 AB
open TL (tl)
section
variable {G : Gx} {X : Cx} {W : WX} {H : Hp} {F : Addr → Prop} {k : Nat}

/-! ### {k: v, ..} -/
def prD : List (Dn Fv × Dn Fv) → Dn (List (Fv × Fv))
  | [] => fun ε => .ok [] ε
  | p :: r => fun ε => (p.1 ε).bind fun x ε1 => (p.2 ε1).bind fun y ε2 => (prD r ε2).bind fun ps ε3 => .ok ((x.old, y.old) :: ps) ε3
def PostP (G : Gx) (W : WX) (C : Fr) (σ : L2.St) (ε : Ev) (H : Hp) (Q : List (V × V) → Hp → Prop) : Re (List (Fv × Fv)) → Prop
  | .ok ps ε' => ∀ vps H', Stp σ ε σ ε' H H' → Ok G C H' σ ε' → VRs G C H' σ ε' (vps.map (·.1)) (ps.map (·.1)) → VRs G C H' σ ε' (vps.map (·.2)) (ps.map (·.2)) → Q vps H'
  | .exc x ε' => PX G W C σ ε H x ε'
  | .no => False
theorem PostP.from {C : Fr} {σ : L2.St} {ε ε1 : Ev} {H1 : Hp} (st : Stp σ ε σ ε1 H H1) {Q : List (V × V) → Hp → Prop} {r : Re (List (Fv × Fv))} (h : PostP G W C σ ε H Q r) : PostP G W C σ ε1 H1 Q r := by
  cases r with
  | ok b ε' => exact fun vs H' s k r r' => h vs H' (st.trans s) k r r'
  | exc x ε' => exact PX.from st h
  | no => exact h
theorem VRs.cons1 {C : Fr} {σ : L2.St} {ε : Ev} {v : V} {f : Fv} {vs : List V} {fs : List Fv} (h : VRs G C H σ ε [v] [f]) (h' : VRs G C H σ ε vs fs) : VRs G C H σ ε (v :: vs) (f :: fs) := h.app h'
theorem pairs_read {σ : L2.St} : ∀ (dens : List (Dn Fv × Dn Fv)) {C : Fr} {ε : Ev} {H : Hp} {Q : List (V × V) → Hp → Prop}, Ok G C H σ ε → PostP G W C σ ε H Q (prD dens ε) → tPairs (dens.map fun p => (wE G W p.1, wE G W p.2)) σ H Q
  | [], C, ε, H, Q, ok, post => post [] H Stp.refl ok .nil .nil
  | p :: r, C, ε, H, Q, ok, post => by
    refine wE_bind (P := PostP G W C σ ε H Q) ok post (fun _ _ h => h) id fun fx ε1 x H1 st1 ok1 vr1 p1 => ?_
    refine wE_bind (P := PostP G W C σ ε1 H1 Q) ok1 (p1.from st1) (fun _ _ h => h) id fun fy ε2 y H2 st2 ok2 vr2 p2 => ?_
    have p2 := p2.from st2
    refine pairs_read r (C := C) (ε := ε2) ok2 ?_
    cases e : prD r ε2 with
    | no => rw [e] at p2; exact p2.elim
    | exc z ε' => rw [e] at p2; exact p2
    | ok ps ε3 =>
      rw [e] at p2
      intro vps H3 st3 ok3 a b
      exact p2 ((x, y) :: vps) H3 st3 ok3 ((((vr1.old .nil).stp st2).stp st3).cons1 a) (((vr2.old .nil).stp st3).cons1 b)
def keysOf : List D → Option (List Key)
  | [] => some []
  | d :: ds => match keyD d, keysOf ds with
    | some k, some ks => some (k :: ks)
    | _, _ => none
def mergeD (es : List (Key × D)) (kvs : List (Key × D)) : List (Key × D) := kvs.foldl (fun acc kv => putD acc kv.1 kv.2) es
def dispF (ps : List (Fv × Fv)) (ε : Ev) : Re Fv := match (rds ε (ps.map (·.1))).bind keysOf, shr (ps.map (·.2)) ε with
  | some ks, some (ds, ε') => if ps.length ≤ 15 then .ok (.fr (.dct (mergeD [] (ks.zip ds)))) ε' else .no
  | _, _ => .no
def dDisp (dens : List (Dn Fv × Dn Fv)) : Dn Fv := fun ε => (prD dens ε).bind dispF
theorem merge_rp : ∀ {ks : List Key} {vs : List V} {ds : List D}, RpAll G H F vs ds → ∀ {kvs : List (Key × V)} {es : List (Key × D)}, kvs.map (·.1) = es.map (·.1) → RpAll G H F (kvs.map (·.2)) (es.map (·.2)) →
    (mergeK kvs (ks.zip vs)).map (·.1) = (mergeD es (ks.zip ds)).map (·.1) ∧ RpAll G H F ((mergeK kvs (ks.zip vs)).map (·.2)) ((mergeD es (ks.zip ds)).map (·.2))
  | [], _, _, _, kvs, es, e, r => ⟨e, r⟩
  | k :: ks, _, _, .nil, kvs, es, e, r => ⟨e, r⟩
  | k :: ks, _, _, .cons a b, kvs, es, e, r => by
    obtain ⟨e1, r1⟩ := put_rp (k := k) e r a
    exact merge_rp (ks := ks) b e1 r1
theorem keys_rt : ∀ {ds : List D} {vs : List V} {ks : List Key}, RtAll G H F vs ds → keysOf ds = some ks → vs = ks.map kV
  | [], _, ks, .nil, h => by cases h; rfl
  | d :: ds, _, ks, .cons a b, h => by
    unfold keysOf at h
    cases q1 : keyD d with
    | none => rw [q1] at h; cases h
    | some k =>
      cases q2 : keysOf ds with
      | none => rw [q1, q2] at h; cases h
      | some ks' =>
        rw [q1, q2] at h
        cases h
        rw [a.key q1, keys_rt b q2]
        rfl
theorem eDisp {keys : List (Option Expr)} {values : List Expr} {dens : List (Dn Fv × Dn Fv)} {pos : Pos} (c : Cok G X W k) (h : PPs X pos keys values (dens.map fun p => (wE G W p.1, wE G W p.2))) (hall : keys.all (·.isSome) = true) (hl : keys.length = values.length) (h0 : keys ≠ []) (h15 : keys.length ≤ 15) :
    PEp G X W (.Dict keys values pos) (dDisp dens) := by
  refine PE.imp (pe_disp h hall hl h0 h15) ?_
  rintro σ H Q ⟨C, ε, ok, post⟩
  intro p hp
  have okp : Ok G (C.add p) (upd H p (.dK [])) σ ε := ok.add hp
  have st0 : Stp σ ε σ ε H (upd H p (.dK [])) := Stp.grow (grow_new hp)
  refine pairs_read dens (C := C.add p) (ε := ε) okp ?_
  unfold dDisp at post
  cases e : prD dens ε with
  | no => rw [e] at post; exact post.elim
  | exc z ε' => rw [e] at post; exact PX.add (PX.from st0 post)
  | ok ps ε1 =>
    rw [e] at post
    intro vps H2 st2 ok2 vk vv
    simp only [Re.bind] at post
    unfold dispF at post
    have keep : H2 p = some (.dK []) := st2.keep p _ upd_same (fun z => okp.nf p z (.inr rfl)) .dK
    refine ⟨keep, ?_⟩
    cases q1 : (rds ε1 (ps.map (·.1))).bind keysOf with
    | none => rw [q1] at post; exact post.elim
    | some ks =>
      rw [q1] at post
      cases q2 : shr (ps.map (·.2)) ε1 with
      | none => rw [q2] at post; exact post.elim
      | some y =>
        obtain ⟨ds, ε2⟩ := y
        rw [q2] at post
        dsimp only at post
        split at post
        · rename_i h15'
          cases q3 : rds ε1 (ps.map (·.1)) with
          | none => rw [q3] at q1; cases q1
          | some kds =>
            rw [q3] at q1
            have q1 : keysOf kds = some ks := q1
            have hk := keys_rt (vk.rt ok2 q3) q1
            obtain ⟨ok3, rv, o3⟩ := shr_sound ok2 vv q2
            have lk : ks.length = vps.length := by
              have := congrArg List.length hk
              simpa using this.symm
            refine ⟨ks.zip (vps.map (·.2)), ?_, ?_, ?_⟩
            · apply List.ext_getElem
              · simp [lk]
              · intro i h1 h2
                have hi : i < vps.length := h1
                simp only [List.getElem_map, List.getElem_zip]
                have : (vps.map (·.1))[i]'(by simpa using hi) = (ks.map kV)[i]'(by simp [lk]; exact hi) := by simp only [hk]
                simp only [List.getElem_map] at this
                rw [← this]
            · have hv : vps.length = ps.length := by
                have := vk.length
                simpa using this
              simp [lk, hv]
              exact h15'
            · have k4 : Ok G (C.add p) (upd H2 p (.dK (mergeK [] (ks.zip (vps.map (·.2)))))) σ ε2 := ok3.wr (fun _ _ t => tab_dK keep t) (ok.fresh hp).1
              have st4 : Stp σ ε σ ε2 H (upd H2 p (.dK (mergeK [] (ks.zip (vps.map (·.2)))))) := by
                have := (st0.trans st2).trans (Stp.less (H := H2) o3)
                exact ⟨fun b u eb nb t => by rw [upd_ne fun z => by subst z; rw [eb] at hp; cases hp]; exact this.keep b u eb nb t, this.own, fun b z => this.al b (upd_al z)⟩
              have mvD : Mv H2 (upd H2 p (.dK (mergeK [] (ks.zip (vps.map (·.2)))))) ((C.add p).F σ ε2) ((C.add p).F σ ε2) :=
                ⟨fun b u e n _ => by rw [upd_ne fun z => n (.inl (.inr z))]; exact e, fun b z => .inl z⟩
              obtain ⟨g1, g2⟩ := merge_rp (ks := ks) (rv.mv mvD) (kvs := []) (es := []) rfl .nil
              refine post _ _ st4 k4.unadd ⟨p, rfl, hp, ?_, k4, ⟨_, upd_same, g1, g2⟩⟩
              intro z
              rcases z with z | z
              · exact (ok.fresh hp).2 (.inl z)
              · exact k4.nf p z (.inr rfl)
        · exact post.elim
theorem eDict0 {pos : Pos} : PEp G X W (.Dict [] [] pos) (fun ε => .ok (.fr (.dct [])) ε) := by
  refine PE.imp pe_dnewK ?_
  rintro σ H Q ⟨C, ε, ok, post⟩
  intro p hp
  exact (PostE.v ok post (fun i z => by cases z)).dct (kvs := []) rfl .nil hp

/-! ### the law's own call -/
theorem FnG.cx0 {P : Program} {w : World} {K : PySem.W.Frag} {mg : Str → Option Value} {base : Heap} {j : Nat} {f : Addr} {fd : FuncData} {ps : List Str} {sp sp' : Sp} (Fn : FnG P w K mg base (L2.CX P w) j f fd ps sp) (h : ∀ vs H Q E, sp' vs H Q E → sp vs H Q (fun _ _ _ => False)) :
    FnG P w K mg base CX0 j f fd ps sp' := by
  refine ⟨fun vs H Q E h' => Fn.gl vs H Q _ (h vs H Q E h'), fun A outer s H args us vs Q E hr hg e0 hb hv hs => ?_⟩
  refine codeAny_mono (Fn.go A outer s H args us vs Q _ hr hg e0 hb hv (h vs H Q E hs)) fun r s' hq => ?_
  cases r with
  | error e =>
    obtain ⟨_, _, _, _, _, _, _, _, _, _, _, _, z⟩ := hq
    exact z.elim
  | ok fl =>
    cases fl with
    | ret u => exact hq
    | next => exact False.elim hq
    | brk => exact False.elim hq
    | cont => exact False.elim hq
theorem law_plain {j : Nat} {f : Addr} {fd : FuncData} {x : Str} {den : List D → Rf} (Fn : FnP G j f fd [x] [false] den) (h : ∀ ns : List Int, ns.length ≤ 63 → ∃ outs, den [.flz (ns.map .int)] = .ok (.sh (.bl true)) outs) (hT : G.T = [] := by rfl) : FnG G.prog G.w G.K G.mg G.base CX0 j f fd [x] (spLaw G.K) := by
  refine FnG.cx0 Fn ?_
  rintro vs H Q E ⟨a, ns, rfl, hS, hl, q⟩
  refine ⟨fun _ => False, [.flz (ns.map .int)], fun p z => z.elim, (fun p hp => by rw [hT] at hp; cases hp), .val (.flz ?_ (RpAll.ints ns)) .nil, .nil, ?_⟩
  · rcases hS with h | h
    · exact .inl ⟨h, fun z => z⟩
    · exact .inr h
  · obtain ⟨outs, e⟩ := h ns hl
    rw [e]
    intro v H' kp rr
    obtain ⟨_, r⟩ := rr
    cases r
    exact q H'
end
end PL

namespace PL
open PySem PySem.Spec PyProof.Rows L2 AB
open TL (tl)
section
variable {G : Gx} {X : Cx} {W : WX} {k : Nat}
theorem vV (i : Nat) {x : Str} {pos : Pos} (hN : X.N[i]? = some x := by rfl) (hv : Vis X.env.scope x := by first | exact Or.inl rfl | exact Or.inr (Or.inl rfl) | exact Or.inr (Or.inr rfl)) (hd : (x == ("__debug__" : Str)) = false := by decide) (hcd : (x == ("__classdict__" : Str)) = false := by decide) : PEp G X W (.Name x pos) (dV i) := eV hN hv hd hcd
theorem eSigns {x : Str} {f : Addr} {z y u : Str} {j l : Nat} {p0 p1 apos c0 c1 pos : Pos} (c : Cok G X W k) (T : TextDef G.prog G.w G.K G.mg G.base f z) (hk1 : 1 ≤ k) (hg : Gl X x) (hm : G.mg x = some (.ref f))
    (hk : PySem.W.keepIn G.K (.ref f) = true) (hyz : (y == u) = false) (hsz : z.length + (z.length + 1) * u.length ≤ 16777216) (hok : sOk (tl (Txt.replace z y u)) = true)
    (hdb : (x == ("__debug__" : Str)) = false := by decide)
    (hst : starEach [.Constant (.str y) j c0, .Constant (.str u) l c1] X.env = [(false, eval (.Constant (.str y) j c0) X.env), (false, eval (.Constant (.str u) l c1) X.env)] := by rfl)
    (hbase : attributeBase (.Call (.Name x p0) [] [] p1) "replace" X.env (eval (.Call (.Name x p0) [] [] p1) X.env) = eval (.Call (.Name x p0) [] [] p1) X.env := by rfl) (hline : (apos.endLine == pos.line) = true := by rfl) :
    PEp G X W (.Call (.Attribute (.Call (.Name x p0) [] [] p1) "replace" apos) [.Constant (.str y) j c0, .Constant (.str u) l c1] [] pos) (dC (.str (tl (Txt.replace z y u)))) := by
  have T' : TextDef X.prog X.w X.K X.mg X.base f z := by rw [c.hP, c.hw, c.hK, c.hm, c.hb]; exact T
  exact eC (pe_signsRep T' (c.hr.mono hk1) hg (by rw [c.hm]; exact hm) (by rw [c.hK]; exact hk) hyz hsz hdb hst hbase hline) fun _ _ => Rp.str' hok
end
end PL

/-! PL14: a def that calls itself (by fuel), str of a number -/
namespace PL
open PySem PySem.Spec PyProof.Rows L2 AB
open TL (tl)
section
variable {G : Gx} {X : Cx} {W : WX} {k : Nat}
/-- a def that is not asked -/
theorem bNever {b : List Stmt} : PBp G X W b (fun _ => .no) := ⟨fun pins s σ H D I z => by obtain ⟨_, _, _, h⟩ := z; exact h.elim⟩
def strD : List D → Option Fv
  | [.int i] => if i.natAbs.log2 < 1920 then some (.sh (.str (tl (Str.ofString (toString i))))) else none
  | [.bl b] => some (.sh (.str (tl (Str.ofString (if b then "True" else "False")))))
  | _ => none
theorem call_strB : CallR X (.type "str") (fun xs H Q => (∃ i, xs = [.int i] ∧ i.natAbs.log2 < 1920 ∧ Q (.str (toString i)) H) ∨ ∃ b : Bool, xs = [.bl b] ∧ Q (.str (Str.ofString (if b then "True" else "False"))) H) := by
  intro pins s σ H xs us Q I r h
  rcases h with h | ⟨b, rfl, q⟩
  · exact call_str_int pins s σ H xs us Q I r h
  · obtain ⟨u, rfl, r1⟩ := vals1 r
    cases r1
    exact PySem.P.str_of_bool ⟨.str _, H, I.tok _, ⟨_, rfl⟩, by cases b <;> exact q⟩
theorem bStr : BP G X (.type "str") strD := by
  refine ⟨_, call_strB, ?_⟩
  intro H F xs ds fv Q fo rs h p
  unfold strD at h
  split at h
  · obtain ⟨v, rfl, r⟩ := rs.one
    cases r
    split at h
    · rename_i hz
      cases h
      exact .inl ⟨_, rfl, hz, p.sh0 (Rp.str' (sOk_str _))⟩
    · cases h
  · obtain ⟨v, rfl, r⟩ := rs.one
    cases r
    cases h
    exact .inr ⟨_, rfl, p.sh0 (Rp.str' (sOk_str _))⟩
  · cases h
end
end PL

/-! PL15: == and != beside an empty list or tuple, whatever the other holds -/
namespace PL
open PySem PySem.Spec PyProof.Rows L2 AB
open TL (tl)
/-- a list or tuple of any content beside an empty one -/
def rEmp (K : PySem.W.Frag) (neg : Bool) : R2 := fun x y H Q => ∃ a b xs, x = .ref a ∧ y = .ref b ∧ ((SqL K H a xs ∧ SqL K H b []) ∨ (SqT K H a xs ∧ SqT K H b [])) ∧ Q (.bl (xor neg xs.isEmpty)) H
def eqE : D → D → Option Fv
  | .lst xs, .lst [] => some (.sh (.bl xs.isEmpty))
  | .tup xs, .tup [] => some (.sh (.bl xs.isEmpty))
  | d, e => eqO d e
def neE : D → D → Option Fv
  | .lst xs, .lst [] => some (.sh (.bl (!xs.isEmpty)))
  | .tup xs, .tup [] => some (.sh (.bl (!xs.isEmpty)))
  | d, e => neO d e
section
variable {G : Gx} {X : Cx} {W : WX} {k : Nat}
theorem op_eqEmp (hu : X.A.units < cLine) : OpR X (compareOp .Eq) (rEmp X.K false) := by
  intro pins s σ H x y v u Q I rx ry h
  obtain ⟨a, b, xs, rfl, rfl, h, q⟩ := h
  cases (show v = Value.ref a from rx)
  cases (show u = Value.ref b from ry)
  rcases h with ⟨ha, hb⟩ | ⟨ha, hb⟩
  · obtain ⟨us, r1, p1, _⟩ := I.list ha
    obtain ⟨ws, r2, p2, _⟩ := I.list hb
    cases r2
    cases r1 with
    | nil => exact SeqAt.RcAt.lists (e := fun _ => true) p1.isList p2.isList rfl hu (fun j h1 _ => absurd h1 (Nat.not_lt_zero j)) _ _ _ _ ⟨.bl _, H, I, rfl, q⟩
    | cons r rs => exact SeqAt.RcAt.lists_lengths p1.isList p2.isList (by simp) hu _ _ _ _ ⟨.bl _, H, I, rfl, q⟩
  · obtain ⟨us, r1, p1, _⟩ := I.tuple ha
    obtain ⟨ws, r2, p2, _⟩ := I.tuple hb
    cases r2
    refine SeqAt.RcAt.tuples (e := fun _ => true) p1 p2 hu (fun j _ h1 => absurd h1 (Nat.not_lt_zero j)) _ _ _ _ ?_
    cases r1 with
    | nil => exact ⟨.bl _, H, I, rfl, q⟩
    | cons r rs => exact ⟨.bl _, H, I, rfl, q⟩
theorem op_neEmp (hu : X.A.units < cLine) : OpR X (compareOp .NotEq) (rEmp X.K true) := by
  intro pins s σ H x y v u Q I rx ry h
  obtain ⟨a, b, xs, rfl, rfl, h, q⟩ := h
  cases (show v = Value.ref a from rx)
  cases (show u = Value.ref b from ry)
  rcases h with ⟨ha, hb⟩ | ⟨ha, hb⟩
  · obtain ⟨us, r1, p1, _⟩ := I.list ha
    obtain ⟨ws, r2, p2, _⟩ := I.list hb
    cases r2
    cases r1 with
    | nil => exact SeqAt.RcNeAt.lists (e := fun _ => true) p1.isList p2.isList rfl hu (fun j h1 _ => absurd h1 (Nat.not_lt_zero j)) _ _ _ _ ⟨.bl _, H, I, rfl, q⟩
    | cons r rs => exact SeqAt.RcNeAt.lists_lengths p1.isList p2.isList (by simp) hu _ _ _ _ ⟨.bl _, H, I, rfl, q⟩
  · obtain ⟨us, r1, p1, _⟩ := I.tuple ha
    obtain ⟨ws, r2, p2, _⟩ := I.tuple hb
    cases r2
    refine SeqAt.RcNeAt.tuples (e := fun _ => true) p1 p2 hu (fun j _ h1 => absurd h1 (Nat.not_lt_zero j)) _ _ _ _ ?_
    cases r1 with
    | nil => exact ⟨.bl _, H, I, rfl, q⟩
    | cons r rs => exact ⟨.bl _, H, I, rfl, q⟩
theorem RpAll.empE {H : Hp} {F : Addr → Prop} {vs : List V} {ds : List D} (h : RpAll G H F vs ds) : vs.isEmpty = ds.isEmpty := by cases h <;> rfl
theorem emp_lst {H : Hp} {F : Addr → Prop} {x : V} {xs : List D} (r : Rt G H F x (.lst xs)) : ∃ a vs, x = .ref a ∧ SqL G.K H a vs ∧ vs.isEmpty = xs.isEmpty ∧ (xs = [] → vs = []) := by
  obtain ⟨a, vs, rfl, e, rs⟩ := r
  exact ⟨a, vs, rfl, .inl (.inl e), rs.empE, fun z => by subst z; cases rs; rfl⟩
theorem emp_tup {H : Hp} {F : Addr → Prop} {x : V} {xs : List D} (r : Rt G H F x (.tup xs)) : ∃ a vs, x = .ref a ∧ SqT G.K H a vs ∧ vs.isEmpty = xs.isEmpty ∧ (xs = [] → vs = []) := by
  cases r with
  | tup s rs => exact ⟨_, _, rfl, s.sq, rs.empE, fun z => by subst z; cases rs; rfl⟩
theorem sEqE : OpS G (fun x y H Q => rEmp G.K false x y H Q ∨ rEqD G.K x y H Q) eqE := by
  intro H F x y d e fv Q fo r1 r2 h p
  unfold eqE at h
  split at h
  · cases h
    obtain ⟨a, vs, rfl, s1, e1, _⟩ := emp_lst r1
    obtain ⟨b, ws, rfl, s2, _, e2⟩ := emp_lst r2
    cases e2 rfl
    refine .inl ⟨a, b, vs, rfl, rfl, .inl ⟨s1, s2⟩, ?_⟩
    rw [e1, Bool.false_xor]
    exact p.sh0 (.bl _)
  · cases h
    obtain ⟨a, vs, rfl, s1, e1, _⟩ := emp_tup r1
    obtain ⟨b, ws, rfl, s2, _, e2⟩ := emp_tup r2
    cases e2 rfl
    refine .inl ⟨a, b, vs, rfl, rfl, .inr ⟨s1, s2⟩, ?_⟩
    rw [e1, Bool.false_xor]
    exact p.sh0 (.bl _)
  · exact .inr (sEq H F x y _ _ fv Q fo r1 r2 h p)
theorem sNeE : OpS G (fun x y H Q => rEmp G.K true x y H Q ∨ rNeD G.K x y H Q) neE := by
  intro H F x y d e fv Q fo r1 r2 h p
  unfold neE at h
  split at h
  · cases h
    obtain ⟨a, vs, rfl, s1, e1, _⟩ := emp_lst r1
    obtain ⟨b, ws, rfl, s2, _, e2⟩ := emp_lst r2
    cases e2 rfl
    refine .inl ⟨a, b, vs, rfl, rfl, .inl ⟨s1, s2⟩, ?_⟩
    rw [e1, Bool.true_xor]
    exact p.sh0 (.bl _)
  · cases h
    obtain ⟨a, vs, rfl, s1, e1, _⟩ := emp_tup r1
    obtain ⟨b, ws, rfl, s2, _, e2⟩ := emp_tup r2
    cases e2 rfl
    refine .inl ⟨a, b, vs, rfl, rfl, .inr ⟨s1, s2⟩, ?_⟩
    rw [e1, Bool.true_xor]
    exact p.sh0 (.bl _)
  · exact .inr (sNe H F x y _ _ fv Q fo r1 r2 h p)
theorem cEqE (c : Cok G X W k) : OpP G X .Eq eqE := ⟨_, OpR.or (by rw [← c.hK]; exact op_eqEmp (by have := c.u; omega)) (opEq c), sEqE⟩
theorem cNeE (c : Cok G X W k) : OpP G X .NotEq neE := ⟨_, OpR.or (by rw [← c.hK]; exact op_neEmp (by have := c.u; omega)) (opNe c), sNeE⟩
end
end PL

/-! PX0: the program's own errors: a class over a built-in error, whose __init__ hands all on by super() and keeps each argument as a field -/
namespace PySem
namespace PX
open PySem.W PySem.Calls PyProof.Rows PySem.HandSPX
/-- what is known of a built-in error that stands above an own one -/
structure XB (B nw it : String) (bm : List Value) : Prop where
  fb : ExcBaseFacts B nw it bm
  ks : KxsFacts B it
  pass : ∀ z : Value, refuseLoop z "__setattr__" bm = pure ()
  obj : bm.contains (.type "object") = true
  ini : ∀ K : Frag, alongIn K "__init__" bm = some (some (.builtin it))
theorem xbV : XB "ValueError" "ValueError.__new__" "ValueError.__init__" [.type "ValueError", .type "Exception", .type "BaseException", .type "object"] :=
  ⟨F.excBase_ValueError, kxs_ValueError, F.store_ValueError.passes, by decide +kernel, fun K => by kernel_rfl⟩
theorem xbL : XB "LookupError" "LookupError.__new__" "LookupError.__init__" [.type "LookupError", .type "Exception", .type "BaseException", .type "object"] :=
  ⟨F.excBase_LookupError, kxs_LookupError, F.store_LookupError.passes, by decide +kernel, fun K => by kernel_rfl⟩
theorem xbR : XB "RuntimeError" "RuntimeError.__new__" "RuntimeError.__init__" [.type "RuntimeError", .type "Exception", .type "BaseException", .type "object"] :=
  ⟨F.excBase_RuntimeError, kxs_RuntimeError, F.store_RuntimeError.passes, by decide +kernel, fun K => by kernel_rfl⟩
theorem xbO : XB "OverflowError" "OverflowError.__new__" "OverflowError.__init__" [.type "OverflowError", .type "ArithmeticError", .type "Exception", .type "BaseException", .type "object"] :=
  ⟨F.excBase_OverflowError, kxs_OverflowError, fun z => by kernel_rfl, by decide +kernel, fun K => by kernel_rfl⟩

section
open Builtin Builtin.ObjectAttr
variable {prog : Program} {w : World} {A : Around} {E : Value → Shared → Prop} {R : Result → Shared → Prop} {hp : Heap} {g : Array GenState} {d : Drawn} {t : Nat} {os : OsState} {B nw it : String} {bm : List Value}
theorem mroHas {K : Frag} {C : Addr} {cd : ClassData} (hc : clsIn K C = some cd) (hm : cd.mro = .ref C :: bm) {b : Value} (hb : bm.contains b = true) : mroIn K C b = some true := by
  have e : cd.mro.contains b = true := by rw [hm, List.contains_cons, hb, Bool.or_true]
  have n : cd.mro.isEmpty = false := by rw [hm]; rfl
  unfold mroIn
  rw [hc, Option.bind_some, n, e]
  rfl
/-- to the own dict -/
theorem toDict (xb : XB B nw it bm) {K : Frag} {n : Str} {tk : Tok} {v : Value} {x C : Addr} {ox : Obj} {od : Option Obj} {cd : ClassData}
    (X : K.In hp) (I : InstAt hp x ox C od) (hc : clsIn K C = some cd) (hm : cd.mro = .ref C :: bm) (ha : findIn K (.ref C) n = some none)
    (go : wpAny (model prog w) A.in1 (storeInOwnDict (.ref x) (.ref C) (.str n tk) n v false)
      (fun r s' => match r with | .done f => R (.ok f) s' | .again c' => c'.quiet = true ∧ codeAny (model prog w) A c' R s') (fun e s' => R (.error e) s') ⟨hp, g, d, t, os⟩) :
    codeAny (model prog w) A (.call (.builtin "object.__setattr__") ⟨[.ref x, .str n tk, v], []⟩) R ⟨hp, g, d, t, os⟩ := by
  have S := F.store_object
  have is : Looks (model prog w) hp (isInstance (.ref x) (.type "object")) true := I.type.andThen (looks_mroIn X (mroHas hc hm xb.obj))
  have mr : Looks (model prog w) hp (mroOf (.ref C)) cd.mro := (looks_clsIn X hc).andThen .now
  have ps : refuseLoop (.ref x) "__setattr__" cd.mro = pure () := by rw [hm, refuseLoop_ref]; exact xb.pass _
  refine codeAny_call_builtin S.slot.plain S.entry (@check_slot (model prog w) _ _ ⟨hp, g, d, t, os⟩ "object.__setattr__" "object" "__setattr__" (.ref x) [.str n tk, v] [] _ S.kind S.split is (S.args (.ref x) (.str n tk) v) ?_)
  rw [osa_eq, refuse_eq]
  refine wpAny_bind (wpAny_bind (I.type.at (wpAny_bind (mr.at ?_))))
  rw [ps]
  have nt : Looks (model prog w) hp (storeTaker? none) none := .now
  exact wpAny_pure (wpAny_bind (I.type.at (wpAny_bind ((looks_findIn X ha).at (wpAny_bind (nt.at go))))))
/-- the first field -/
theorem setNew (xb : XB B nw it bm) {K : Frag} {n : Str} {tk : Tok} {v : Value} {x C : Addr} {fv : Array Value} {cd : ClassData}
    (X : K.In hp) (hx : hp.get? x = some { cls := .ref C, data := .fields fv }) (hc : clsIn K C = some cd) (hm : cd.mro = .ref C :: bm) (hh : cd.hasDict = true) (ha : findIn K (.ref C) n = some none)
    (go : ∀ h' tk' dx, (∀ b o, b ≠ x → hp.get? b = some o → h'.get? b = some o) → hp.objs.size ≤ dx → dx ≠ x → h'.get? x = some { cls := .ref C, dict := some dx, data := .fields fv } →
      h'.Ns1 dx (fun y => if y = n then some v else none) → R (.ok (.ret .none)) ⟨h', g, d, tk', os⟩) :
    codeAny (model prog w) A (.call (.builtin "object.__setattr__") ⟨[.ref x, .str n tk, v], []⟩) R ⟨hp, g, d, t, os⟩ := by
  have xs : x ≠ hp.objs.size := Nat.ne_of_lt (Heap.lt_size hx)
  have lc : Looks (model prog w) hp (classData C) cd := looks_clsIn X hc
  refine toDict xb X (ox := { cls := .ref C, data := .fields fv }) (od := none) ⟨hx, rfl, rfl, trivial⟩ hc hm ha ?_
  clear hm hc
  obtain ⟨nm, bs, mro, ns, qn, hd, sn, sb, ab, col, del⟩ := cd
  dsimp only at hh
  subst hh
  unfold storeInOwnDict ownDictForStores
  repeat (first | with_reducible refine store_in_new ?_ ?_ | with_reducible refine lc.at ?_ | with_reducible refine wpAny_loadPart_at hx ?_ | wp_step)
  · exact ⟨_, #[], _, (Heap.get?_update_ne _ _ _ _ xs.symm).trans (Heap.get?_push_at rfl rfl), rfl, fun e z => absurd z (by simp), fun _ => rfl⟩
  · intro h' tk' n' sb'
    have x1 : (hp.push { cls := .type "dict", data := .dict #[] }).get? x = some { cls := .ref C, data := .fields fv } := Heap.get?_push_of_some _ hx
    refine go h' tk' hp.objs.size (fun b o hb ho => ?_) (Nat.le_refl _) xs.symm ?_ n'
    · rw [sb'.2 b (Nat.ne_of_lt (Heap.lt_size ho)), Heap.get?_update_ne _ _ _ _ hb]
      exact Heap.get?_push_of_some _ ho
    · rw [sb'.2 x xs]
      exact Heap.get?_update_self _ x1 rfl
/-- a further field -/
theorem setOld (xb : XB B nw it bm) {K : Frag} {n : Str} {tk : Tok} {v : Value} {x C dx : Addr} {fv : Array Value} {cd : ClassData} {m0 : Str → Option Value} {nl : List Str}
    (X : K.In hp) (hx : hp.get? x = some { cls := .ref C, dict := some dx, data := .fields fv }) (hn : hp.Ns1 dx m0) (hw : Within m0 nl) (hz : nl.length ≤ 1000) (hc : clsIn K C = some cd) (hm : cd.mro = .ref C :: bm) (hh : cd.hasDict = true)
    (ha : findIn K (.ref C) n = some none)
    (go : ∀ h' tk', (∀ b o, b ≠ dx → hp.get? b = some o → h'.get? b = some o) → h'.Ns1 dx (fun y => if y = n then some v else m0 y) → R (.ok (.ret .none)) ⟨h', g, d, tk', os⟩) :
    codeAny (model prog w) A (.call (.builtin "object.__setattr__") ⟨[.ref x, .str n tk, v], []⟩) R ⟨hp, g, d, t, os⟩ := by
  obtain ⟨oD, es, ep, hoD, _, _⟩ := hn.count hw
  have lc : Looks (model prog w) hp (classData C) cd := looks_clsIn X hc
  refine toDict xb X (ox := { cls := .ref C, dict := some dx, data := .fields fv }) (od := some oD) ⟨hx, rfl, rfl, hoD⟩ hc hm ha ?_
  clear hm hc
  obtain ⟨nm, bs, mro, ns, qn, hd, sn, sb, ab, col, del⟩ := cd
  dsimp only at hh
  subst hh
  unfold storeInOwnDict ownDictForStores
  repeat (first | with_reducible refine OEX.store_in_old hn hw hz ?_ | with_reducible refine lc.at ?_ | with_reducible refine wpAny_loadPart_at hx ?_ | wp_step)
  intro h' tk' n' sb'
  exact go h' tk' (fun b o hb ho => (sb'.2 b hb).trans ho) n'
end

/-! ### super().__init__(..) -/
section
variable {prog : Program} {w : World} {A : Around} {E : Value → Shared → Prop} {h : Heap} {g : Array GenState} {d : Drawn} {t : Nat} {os : OsState} {B nw it : String} {bm : List Value}
variable {nm q : Str} {C N : Addr} {bs : List Value} {hdct : Bool} {sn : List Str} {sub : List Value} {ab : Bool} {col : Option Bool} {dd : Option Addr} {k0 k1 k2 k3 k5 : Option Value}
/-- the bound __init__, called -/
theorem callUp (xb : XB B nw it bm) {u x t0 : Addr} {us : List Value} {Q : Value → Shared → Prop}
    (hC : h.get? C = some (excClassObj nm q C N bs bm hdct sn sub ab col dd k0 k1 k2 k3 k5 nw)) (hx : h.get? x = some (excO C t0)) (hu : h.get? u = some (kxs_mw it x)) (hz : us.length ≤ sizeLine)
    (go : ∀ h' t1, (∀ b o, b ≠ x → h.get? b = some o → h'.get? b = some o) → h'.get? x = some (excO C t1) → Q .none ⟨h', g, d, t, os⟩) :
    wpAny (model prog w) A (call (.ref u) us) Q E ⟨h, g, d, t, os⟩ := by
  have FB := xb.fb
  refine wpAny_call (codeAny_of_tree ?_)
  show wpAny _ A.in1 (callAny (.ref u) ⟨us, []⟩) _ _ _
  simp only [callAny]
  refine wpAny_bind (wpAny_load hu ?_)
  simp only [kxs_mw, show (Value.type "method-wrapper" == Value.type "method" || Value.type "method-wrapper" == Value.type "builtin_function_or_method" || Value.type "method-wrapper" == Value.type "method-wrapper") = true by decide, if_true]
  refine KFB.if_so (by decide) ?_
  refine wpAny_bind (check_bound_init FB.toExcCallFacts hC hx rfl ?_)
  refine wpAny_bind (wpAny_pure (wpAny_pure ?_))
  refine ⟨plainId_quiet FB.init.plain _, codeAny_builtin FB.initEntry ?_⟩
  exact exc_init_tree (cls := .ref C) (t0 := t0) (dv := none) (c2 := .none) (c3 := .none) (b4 := .bool false) hx hz fun h' k e _ => go h' _ k e
end

/-! ### the text of __init__, and what the written part says of the class -/
abbrev aA (n : Str) (p : Pos) : Arg := { arg := n, annotation := none, pos := p }
abbrev iA (as : List Arg) : Arguments := { posonlyargs := [], args := as, vararg := none, kwonlyargs := [], kw_defaults := [], kwarg := none, defaults := [] }
abbrev sUp (es : List Expr) (p0 p1 p2 p3 p4 : Pos) : Stmt := .Expr (.Call (.Attribute (.Call (.Name "super" p0) [] [] p1) "__init__" p2) es [] p3) p4
abbrev sFld (n : Str) (p0 p1 p2 p3 : Pos) : Stmt := .Assign [.Attribute (.Name "self" p0) n p1] (.Name n p2) p3
abbrev iS (ns : List Str) : Scope := { kind := .function, names := (Str.ofString "self", NameKind.local) :: ns.map (fun n => (n, NameKind.local)) ++ [(Str.ofString "__class__", NameKind.free), (Str.ofString "super", NameKind.globalImplicit)], isGenerator := false, isCoroutine := false, more := [] }
/-- what all own errors have -/
structure XTop (prog : Program) (K : Frag) (mg : Str → Option Value) : Prop where
  sup : mg "super" = none
  opq : nsIn K cStatics "thirdparty.any" = some none
  nosup : (prog.main.scope.names.lookup ("super" : Str)).isSome = false
structure XTxt (prog : Program) (K : Frag) (C fI : Addr) (B nw it : String) (bm : List Value) (fs : List Str) (as : List Arg) (body : List Stmt) : Prop where
  cls : ∃ nm q N bs sn sub ab col dd k0 k1 k2 k3 k5, K.lookup C = some (excClassObj nm q C N bs bm true sn sub ab col dd k0 k1 k2 k3 k5 nw)
  sa : findIn K (.ref C) "__setattr__" = some (some (.builtin "object.__setattr__"))
  no : ∀ n ∈ fs, findIn K (.ref C) n = some none
  iC : findIn K (.ref C) "__init__" = some (some (.ref fI))
  tC : typeIn K (.ref fI) = some (.type "function")
  fn : ∃ (qn : Str) (oc : Value) (od : Option Addr) (doc pm : Value) (an : Option Addr) (cda cc : Addr) (ct : Value) (osl : Array (Option Value)),
    K.lookup fI = some ⟨oc, od, .func (ksFn "__init__" qn (iA as) body (iS fs) .none .none doc pm an (.ref cda) ct cc), osl⟩ ∧ codeIn K (.ref cda) qn = true ∧
    (∃ ccl cdd vs ccs file tf, K.lookup cda = some ⟨ccl, cdd, .fields vs, ccs⟩ ∧ vs[2]? = some (.str file tf) ∧ ((prog.main.file : Str) == file) = true) ∧
    (∃ cl cld csl, K.lookup cc = some ⟨cl, cld, .cell (some (.ref C)), csl⟩)

/-- super().__init__(..) stands in one line (for given places: fun _ _ _ _ _ => ⟨_, rfl⟩) -/
def UpOk (fs : List Str) (es : List Expr) (p0 p1 p2 p3 : Pos) : Prop := ∀ (qn : Str) (L f : Addr) (cd : Value) (cc : Addr), ∃ pl : Sem Bool,
  eval (.Call (.Attribute (.Call (.Name "super" p0) [] [] p1) "__init__" p2) es [] p3) (ksEnv qn (iS fs) L f cd cc) = (do
      let ov ← attributeBase (.Call (.Name "super" p0) [] [] p1) "__init__" (ksEnv qn (iS fs) L f cd cc) (eval (.Call (.Name "super" p0) [] [] p1) (ksEnv qn (iS fs) L f cd cc))
      standAt p2.atName
      let (f', first) ← holding [ov] (getMethod ov "__init__" pl)
      callWith p3 f' first (backTo p3 (starEach es (ksEnv qn (iS fs) L f cd cc))) [])
example : UpOk ["value"] [.Name "value" ⟨10, 25, 10, 30⟩] ⟨10, 8, 10, 13⟩ ⟨10, 8, 10, 15⟩ ⟨10, 8, 10, 24⟩ ⟨10, 8, 10, 31⟩ := fun _ _ _ _ _ => ⟨_, rfl⟩
def fldM : List (Str × Value) → Str → Option Value
  | [], _ => none
  | (n, v) :: r, y => if y = n then some v else fldM r y

section
variable {prog : Program} {w : World} {A : Around} {E : Value → Shared → Prop} {R : Result → Shared → Prop} {s : Shared} {K : Frag} {mg : Str → Option Value} {C fI : Addr} {B nw it : String} {bm : List Value} {fs : List Str} {as : List Arg} {body : List Stmt}
/-- super().__init__(..), then the rest -/
theorem x_up (xb : XB B nw it bm) (XT : XTop prog K mg) (T : XTxt prog K C fI B nw it bm fs as body) {qn : Str} {L cda cc : Addr} {all : List Stmt} {oc : Value} {od : Option Addr} {doc pm : Value} {an : Option Addr} {ct : Value} {osl : Array (Option Value)}
    {es : List Expr} {rest : List Stmt} {p0 p1 p2 p3 p4 : Pos} {x t0 : Addr} {us : List Value} {m : Str → Option Value} {Q : Flow → Shared → Prop}
    (ho : K.lookup fI = some ⟨oc, od, .func (ksFn "__init__" qn (iA as) body (iS fs) .none .none doc pm an (.ref cda) ct cc), osl⟩) (hself : (as.head?).map (·.arg) = some "self")
    (hcd : ∃ ccl cdd vs ccs file tf, K.lookup cda = some ⟨ccl, cdd, .fields vs, ccs⟩ ∧ vs[2]? = some (.str file tf) ∧ ((prog.main.file : Str) == file) = true) (hce : ∃ cl cld csl, K.lookup cc = some ⟨cl, cld, .cell (some (.ref C)), csl⟩)
    (X : K.In s.heap) (hg : s.heap.Ns mainGlobals mg) (hb : ∃ mb, s.heap.Ns builtinsNs mb ∧ mb "super" = some (.type "super")) (hL : s.heap.Ns L m) (hm : m "self" = some (.ref x)) (hx : s.heap.get? x = some (excO C t0)) (hz : us.length ≤ sizeLine)
    (hk : (iS fs).names.lookup ("super" : Str) = some .globalImplicit) (hkc : (iS fs).names.lookup ("__class__" : Str) = some .free) (hks : (iS fs).names.lookup ("self" : Str) = some .local)
    (hes : ∀ (s' : Shared) (Q' : List Value → Shared → Prop), s'.heap.Ns L m → Q' us s' → wpAny (model prog w) A (spliced (backTo p3 (starEach es (ksEnv qn (iS fs) L fI (.ref cda) cc)))) Q' E s')
    (hne : ∃ e r, es = e :: r ∧ starEach (e :: r) (ksEnv qn (iS fs) L fI (.ref cda) cc) = (false, eval e (ksEnv qn (iS fs) L fI (.ref cda) cc)) :: starEach r (ksEnv qn (iS fs) L fI (.ref cda) cc) ∧ (backTo p3 (starEach r (ksEnv qn (iS fs) L fI (.ref cda) cc))).any (·.1) = false)
    (hsw : swapsWith (.Call (.Attribute (.Call (.Name "super" p0) [] [] p1) "__init__" p2) es [] p3) none p4.line (ksEnv qn (iS fs) L fI (.ref cda) cc) = pure false)
    (hup : UpOk fs es p0 p1 p2 p3)
    (go : ∀ h' tk t1, (∀ b o, b ≠ x → s.heap.get? b = some o → h'.get? b = some o) → h'.get? x = some (excO C t1) → wpAny (model prog w) A (execs rest (ksEnv qn (iS fs) L fI (.ref cda) cc)) Q E { s with heap := h', toks := tk }) :
    _root_.PySem.wpAt (model prog w) A (.func all (ksEnv qn (iS fs) L fI (.ref cda) cc)) (execs (sUp es p0 p1 p2 p3 p4 :: rest) (ksEnv qn (iS fs) L fI (.ref cda) cc)) Q E s := by
  obtain ⟨ccl, cdd, vs, ccs, file, tf, hco, hvs, hfile⟩ := hcd
  obtain ⟨cl, cld, csl, hcell⟩ := hce
  obtain ⟨nm, q, N, bs, sn, sub, ab, col, dd, k0, k1, k2, k3, k5, hC⟩ := T.cls
  obtain ⟨ar, har, hara⟩ : ∃ ar, as.head? = some ar ∧ ar.arg = "self" := by
    cases e : as.head? with
    | none => rw [e] at hself; cases hself
    | some ar => rw [e] at hself; exact ⟨ar, rfl, Option.some.inj hself⟩
  obtain ⟨mb, hb1, hb2⟩ := hb
  have hcl : clsIn K C = some { name := nm, bases := bs, mro := .ref C :: bm, ns := N, qualname := q, hasDict := true, slotNames := sn, subclasses := sub, abstract := ab, collection := col, hasDel := false } := by unfold clsIn; rw [hC] <;> rfl
  obtain ⟨hh, g, d, t, os⟩ := s
  obtain ⟨pl, hev⟩ := hup qn L fI (.ref cda) cc
  refine ks_wpAt_execs_cons (ks_wpAt_Expr_any (ks_wpAt_MethodCall ?_ hev) rfl hsw)
  have I : InstAt hh x (excO C t0) C none := ⟨hx, rfl, rfl, trivial⟩
  refine ks_wpAt_super_base (env := ksEnv qn (iS fs) L fI (.ref cda) cc) hk hkc (by decide) rfl (X _ _ ho) rfl (ar := ar) har rfl (X _ _ hco) rfl hvs hfile XT.nosup ?_
  refine ks_loadName_global rfl hk (loadGlobal_builtin (env := ksEnv qn (iS fs) L fI (.ref cda) cc) hg XT.sup hb1 hb2 ⟨rfl, ?_⟩)
  refine wpAny_loadName_free rfl hkc rfl ⟨_, X _ _ hcell, rfl⟩ ?_
  refine wpAny_loadName_local rfl (by rw [hara]; exact hks) hL (by rw [hara]; exact hm) ?_
  refine ks_wpAny_isType_cls (X _ _ hC) rfl ⟨rfl, ?_⟩
  have hsub : Looks (model prog w) hh (isSubtype (.ref C) (.ref C)) true := looks_mroIn X (by
    unfold mroIn
    rw [hcl]
    simp)
  refine ks_wpAny_call_super (X _ _ hC) rfl hx rfl (fun c e => by cases e) hsub (fun h1 e1 k1' => ?_)
  have X1 := X.keeps k1'
  have I1 : InstAt h1 x (excO C t0) C none := ⟨k1' _ _ hx, rfl, rfl, trivial⟩
  have hI : Looks (model prog w) h1 (isInstance (.ref x) (.type B)) true := I1.type.andThen (looks_mroIn X1 (mroHas hcl rfl xb.fb.hasB))
  refine kxs_getMethod xb.ks e1 (looks_opaque X1 XT.opq) (l₀ := .ref C :: bm) (l := bm) ((looks_clsIn X1 hcl).andThen .now) (by simp) X1 (xb.ini K) hI (ks_ne X1 I1 hcl) (by decide) ?_
  have kk : ∀ b o, hh.get? b = some o → (h1.push (kxs_mw it x)).get? b = some o := fun b o e => Heap.get?_push_of_some _ (k1' b o e)
  obtain ⟨e0, r0, rfl, hst, hpl⟩ := hne
  rw [hst]
  refine kxs_callWith (i := it) (x := x) (by show (false || (backTo p3 (starEach r0 _)).any (·.1)) = false; rw [hpl]; rfl) (evalArgs_plain ?_)
  have hu : (h1.push (kxs_mw it x)).get? h1.objs.size = some (kxs_mw it x) := Heap.get?_push_at rfl rfl
  have z := hes ⟨h1.push (kxs_mw it x), g, d, t + 1, os⟩ (fun vs s₁ => KxsAt it h1.objs.size x s₁.heap ∧ wpAny (model prog w) A (call (.ref h1.objs.size) ([] ++ vs) []) (fun _ s' => _root_.PySem.wpAt (model prog w) A (.func all (ksEnv qn (iS fs) L fI (.ref cda) cc)) (execs rest (ksEnv qn (iS fs) L fI (.ref cda) cc)) Q E s') E s₁) (hL.keeps kk)
    ⟨hu, callUp xb (kk _ _ (X _ _ hC)) (kk _ _ hx) hu hz fun h' t1 k e => wpAt_of_wpAny (go h' _ t1 (fun b o hb ho => k b o hb (kk b o ho)) e)⟩
  rw [hst] at z
  exact z
end

/-- what __init__ leaves of a fresh error at x -/
structure IEnd (h h' : Heap) (x C dx : Addr) (fv : List (Str × Value)) : Prop where
  keep : ∀ b o, b ≠ x → h.get? b = some o → h'.get? b = some o
  obj : ∃ t1, h'.get? x = some { cls := .ref C, dict := some dx, data := .fields #[.ref t1, .none, .none, .none, .bool false, .none] }
  dbig : h.objs.size ≤ dx
  dne : dx ≠ x
  ns : h'.Ns1 dx (fldM fv)
structure Made (h h' : Heap) (e C d : Addr) (fv : List (Str × Value)) : Prop where
  keep : ∀ b o, h.get? b = some o → h'.get? b = some o
  new : h.objs.size ≤ e
  obj : ∃ oe vs, h'.get? e = some oe ∧ oe.cls = .ref C ∧ oe.dict = some d ∧ oe.data = .fields vs ∧ vs[1]? = some .none
  dbig : h.objs.size ≤ d
  dne : d ≠ e
  ns : h'.Ns1 d (fldM fv)
section
variable {prog : Program} {w : World} {A : Around} {E : Value → Shared → Prop} {R : Result → Shared → Prop} {s : Shared} {K : Frag} {mg : Str → Option Value} {C fI : Addr} {B nw it : String} {bm : List Value}
theorem ldX {M : Model} {qn : Str} {sc : Scope} {L f : Addr} {cd : Value} {cc : Addr} {m : Str → Option Value} {x : Str} {pos : Pos} {v : Value} {Q : Value → Shared → Prop} (hn : s.heap.Ns L m) (hv : m x = some v) (hk : sc.kind = .function) (hl : sc.names.lookup x = some .local) (hd : (x == ("__debug__" : Str)) = false) (h : Q v s) :
    wpAny M A (eval (.Name x pos) (ksEnv qn sc L f cd cc)) Q E s := wpAny_Name (wpAny_loadName_local hk hl hn hv h) hd
/-- the names of the fields are plain ones (for a name: each by rfl) -/
structure Nm1 (a : Str) : Prop where
  sup : (iS [a]).names.lookup ("super" : Str) = some .globalImplicit
  cls : (iS [a]).names.lookup ("__class__" : Str) = some .free
  loc : (iS [a]).names.lookup a = some .local
  dbg : (a == ("__debug__" : Str)) = false
  slf : (("self" : Str) == a) = false
  bnd : ∀ p1 p2 body qn doc pm an cd ct cc x v, bindArgs (ksFn "__init__" qn (iA [aA "self" p1, aA a p2]) body (iS [a]) .none .none doc pm an cd ct cc) ⟨[x, v], []⟩ = pure [(("self" : Str), x), (a, v)]
structure Nm2 (a b : Str) : Prop where
  sup : (iS [a, b]).names.lookup ("super" : Str) = some .globalImplicit
  cls : (iS [a, b]).names.lookup ("__class__" : Str) = some .free
  locA : (iS [a, b]).names.lookup a = some .local
  locB : (iS [a, b]).names.lookup b = some .local
  dbgA : (a == ("__debug__" : Str)) = false
  dbgB : (b == ("__debug__" : Str)) = false
  slfA : (("self" : Str) == a) = false
  slfB : (("self" : Str) == b) = false
  ab : (a == b) = false
  bnd : ∀ p1 p2 p3 body qn doc pm an cd ct cc x v u, bindArgs (ksFn "__init__" qn (iA [aA "self" p1, aA a p2, aA b p3]) body (iS [a, b]) .none .none doc pm an cd ct cc) ⟨[x, v, u], []⟩ = pure [(("self" : Str), x), (a, v), (b, u)]
theorem nm_value : Nm1 "value" := ⟨rfl, rfl, rfl, by decide, by decide, fun _ _ _ _ _ _ _ _ _ _ _ _ => rfl⟩
theorem nm_index : Nm1 "index" := ⟨rfl, rfl, rfl, by decide, by decide, fun _ _ _ _ _ _ _ _ _ _ _ _ => rfl⟩
theorem nm_row : Nm1 "row" := ⟨rfl, rfl, rfl, by decide, by decide, fun _ _ _ _ _ _ _ _ _ _ _ _ => rfl⟩
theorem nm_name : Nm1 "name" := ⟨rfl, rfl, rfl, by decide, by decide, fun _ _ _ _ _ _ _ _ _ _ _ _ => rfl⟩
theorem nm_label : Nm1 "label" := ⟨rfl, rfl, rfl, by decide, by decide, fun _ _ _ _ _ _ _ _ _ _ _ _ => rfl⟩
theorem nm_limit : Nm1 "limit" := ⟨rfl, rfl, rfl, by decide, by decide, fun _ _ _ _ _ _ _ _ _ _ _ _ => rfl⟩
theorem nm_hand : Nm1 "hand" := ⟨rfl, rfl, rfl, by decide, by decide, fun _ _ _ _ _ _ _ _ _ _ _ _ => rfl⟩
theorem nm_index_number : Nm2 "index" "number" := ⟨rfl, rfl, rfl, rfl, by decide, by decide, by decide, by decide, by decide, fun _ _ _ _ _ _ _ _ _ _ _ _ _ _ => rfl⟩
theorem nm_hand_other : Nm2 "hand" "other" := ⟨rfl, rfl, rfl, rfl, by decide, by decide, by decide, by decide, by decide, fun _ _ _ _ _ _ _ _ _ _ _ _ _ _ => rfl⟩
theorem nm_name_index : Nm2 "name" "index" := ⟨rfl, rfl, rfl, rfl, by decide, by decide, by decide, by decide, by decide, fun _ _ _ _ _ _ _ _ _ _ _ _ _ _ => rfl⟩
theorem nm_name_case : Nm2 "name" "case" := ⟨rfl, rfl, rfl, rfl, by decide, by decide, by decide, by decide, by decide, fun _ _ _ _ _ _ _ _ _ _ _ _ _ _ => rfl⟩
theorem noCell (l : List Str) : ∀ y ∈ (iS l).names, y.2 ≠ .cell := by
  intro y hy
  simp only [iS, List.cons_append, List.mem_cons, List.mem_append, List.mem_map, List.not_mem_nil, or_false] at hy
  rcases hy with rfl | ⟨n, _, rfl⟩ | rfl | rfl <;> exact fun z => NameKind.noConfusion z
theorem x_init1 (xb : XB B nw it bm) (XT : XTop prog K mg) {a : Str} (NM : Nm1 a) {pa1 pa2 p0 p1 p2 p3 p4 p5 q0 q1 q2 q3 : Pos}
    (T : XTxt prog K C fI B nw it bm [a] [aA "self" pa1, aA a pa2] [sUp [.Name a p5] p0 p1 p2 p3 p4, sFld a q0 q1 q2 q3]) (hup : UpOk [a] [.Name a p5] p0 p1 p2 p3) {x t0 : Addr} {v : Value} (X : K.In s.heap) (hnx : K.lookup x = none) (hlim : s.heap.NoLimit)
    (hg : s.heap.Ns mainGlobals mg) (hb : ∃ mb, s.heap.Ns builtinsNs mb ∧ mb "super" = some (.type "super")) (hx : s.heap.get? x = some (excO C t0)) (hroom : A.depth < recursionLimit)
    (hq : ∀ h' tk dx, IEnd s.heap h' x C dx [(a, v)] → R (.ok (.ret .none)) { s with heap := h', toks := tk }) :
    codeAny (model prog w) A (.call (.ref fI) ⟨[.ref x, v], []⟩) R s := by
  obtain ⟨qn, oc, od, doc, pm, an, cda, cc, ct, osl, ho, hcd, hco, hce⟩ := T.fn
  obtain ⟨nm, q, N, bs, sn, sub, ab, col, dd, k0, k1, k2, k3, k5, hC⟩ := T.cls
  have hcl : clsIn K C = some { name := nm, bases := bs, mro := .ref C :: bm, ns := N, qualname := q, hasDict := true, slotNames := sn, subclasses := sub, abstract := ab, collection := col, hasDel := false } := by unfold clsIn; rw [hC] <;> rfl
  refine ks_codeAny_call_defAt (fd := ksFn "__init__" qn _ _ _ .none .none doc pm an (.ref cda) ct cc) (binds := [("self", .ref x), (a, v)]) hroom (X _ _ ho) rfl hlim (codeRec_of X hcd) rfl (BindsTo.of_eq (NM.bnd _ _ _ _ _ _ _ _ _ _ _ _)) (noCell _) ?_ (fun h1 hn k => ?_) rfl rfl rfl
  · intro y hy
    simp only [List.mem_cons, List.not_mem_nil, or_false] at hy
    rcases hy with rfl | rfl
    · rfl
    · exact NM.loc
  · have ms : (fun y => List.lookup y [(a, v), (("self" : Str), Value.ref x)]) ("self" : Str) = some (.ref x) := by simp [List.lookup, NM.slf]
    have ma : (fun y => List.lookup y [(a, v), (("self" : Str), Value.ref x)]) a = some v := by simp [List.lookup]
    have hn' : h1.Ns s.heap.objs.size (fun y => List.lookup y [(a, v), (("self" : Str), Value.ref x)]) := hn
    refine x_up xb XT T (t0 := t0) ho rfl hco hce (X.keeps k) (hg.keeps k) (hb.elim fun mb z => ⟨mb, z.1.keeps k, z.2⟩) hn' ms (k _ _ hx) (us := [v]) (by show 1 ≤ sizeLine; rw [sizeLine_eq]; omega) NM.sup NM.cls rfl
      (fun s' Q' hL' h' => spliced_more (ldX hL' ma rfl NM.loc NM.dbg (spliced_none h'))) ⟨_, _, rfl, rfl, rfl⟩ rfl hup ?_
    intro h2 tk t1 k2 e2
    have hxL : s.heap.objs.size ≠ x := Nat.ne_of_gt (Heap.lt_size hx)
    have hn2 : h2.Ns s.heap.objs.size (fun y => List.lookup y [(a, v), (("self" : Str), Value.ref x)]) := by
      obtain ⟨oL, es, ep, hL, r⟩ := hn'
      exact ⟨oL, es, ep, k2 _ _ hxL hL, r⟩
    have X2 : K.In h2 := fun b o e => k2 b o (fun z => by rw [z, hnx] at e; cases e) (X.keeps k b o e)
    refine wpAny_execs_cons (plainObj_wpAny_Assign_Attribute ?_)
    refine ldX hn2 ma rfl NM.loc NM.dbg (ldX hn2 ms rfl rfl (by decide) ?_)
    refine set_plain X2 (ox := excO C t1) (od := none) ⟨e2, rfl, rfl, trivial⟩ T.sa ?_
    refine setNew xb X2 e2 hcl rfl rfl (T.no a (by simp)) fun h3 tk3 dx k3 dn dne e3 hn3 => ?_
    have z : s.heap.objs.size < h2.objs.size := hn2.lt
    exact wpAny_execs_nil (hq h3 tk3 dx ⟨fun b o hb e => k3 b o hb (k2 b o hb (k b o e)), ⟨t1, e3⟩, Nat.le_of_lt (Nat.lt_of_lt_of_le z dn), dne, hn3⟩)
theorem x_init2 (xb : XB B nw it bm) (XT : XTop prog K mg) {a b : Str} (NM : Nm2 a b) {pa1 pa2 pa3 p0 p1 p2 p3 p4 p5 p6 q0 q1 q2 q3 r0 r1 r2 r3 : Pos}
    (T : XTxt prog K C fI B nw it bm [a, b] [aA "self" pa1, aA a pa2, aA b pa3] [sUp [.Name a p5, .Name b p6] p0 p1 p2 p3 p4, sFld a q0 q1 q2 q3, sFld b r0 r1 r2 r3]) (hup : UpOk [a, b] [.Name a p5, .Name b p6] p0 p1 p2 p3) {x t0 : Addr} {v u : Value} (X : K.In s.heap) (hnx : K.lookup x = none) (hlim : s.heap.NoLimit)
    (hg : s.heap.Ns mainGlobals mg) (hb : ∃ mb, s.heap.Ns builtinsNs mb ∧ mb "super" = some (.type "super")) (hx : s.heap.get? x = some (excO C t0)) (hroom : A.depth < recursionLimit)
    (hq : ∀ h' tk dx, IEnd s.heap h' x C dx [(b, u), (a, v)] → R (.ok (.ret .none)) { s with heap := h', toks := tk }) :
    codeAny (model prog w) A (.call (.ref fI) ⟨[.ref x, v, u], []⟩) R s := by
  obtain ⟨qn, oc, od, doc, pm, an, cda, cc, ct, osl, ho, hcd, hco, hce⟩ := T.fn
  obtain ⟨nm, q, N, bs, sn, sub, ab, col, dd, k0, k1, k2, k3, k5, hC⟩ := T.cls
  have hcl : clsIn K C = some { name := nm, bases := bs, mro := .ref C :: bm, ns := N, qualname := q, hasDict := true, slotNames := sn, subclasses := sub, abstract := ab, collection := col, hasDel := false } := by unfold clsIn; rw [hC] <;> rfl
  have ba : (b == a) = false := by rw [Bool.beq_comm]; exact NM.ab
  refine ks_codeAny_call_defAt (fd := ksFn "__init__" qn _ _ _ .none .none doc pm an (.ref cda) ct cc) (binds := [("self", .ref x), (a, v), (b, u)]) hroom (X _ _ ho) rfl hlim (codeRec_of X hcd) rfl (BindsTo.of_eq (NM.bnd _ _ _ _ _ _ _ _ _ _ _ _ _ _)) (noCell _) ?_ (fun h1 hn k => ?_) rfl rfl rfl
  · intro y hy
    simp only [List.mem_cons, List.not_mem_nil, or_false] at hy
    rcases hy with rfl | rfl | rfl
    · rfl
    · exact NM.locA
    · exact NM.locB
  · have ms : (fun y => List.lookup y [(b, u), (a, v), (("self" : Str), Value.ref x)]) ("self" : Str) = some (.ref x) := by simp [List.lookup, NM.slfA, NM.slfB]
    have ma : (fun y => List.lookup y [(b, u), (a, v), (("self" : Str), Value.ref x)]) a = some v := by simp [List.lookup, NM.ab]
    have mb : (fun y => List.lookup y [(b, u), (a, v), (("self" : Str), Value.ref x)]) b = some u := by simp [List.lookup]
    have hn' : h1.Ns s.heap.objs.size (fun y => List.lookup y [(b, u), (a, v), (("self" : Str), Value.ref x)]) := hn
    refine x_up xb XT T (t0 := t0) ho rfl hco hce (X.keeps k) (hg.keeps k) (hb.elim fun mb z => ⟨mb, z.1.keeps k, z.2⟩) hn' ms (k _ _ hx) (us := [v, u]) (by show 2 ≤ sizeLine; rw [sizeLine_eq]; omega) NM.sup NM.cls rfl
      (fun s' Q' hL' h' => spliced_more (ldX hL' ma rfl NM.locA NM.dbgA (spliced_more (ldX hL' mb rfl NM.locB NM.dbgB (spliced_none h'))))) ⟨_, _, rfl, rfl, rfl⟩ rfl hup ?_
    intro h2 tk t1 k2 e2
    have hxL : s.heap.objs.size ≠ x := Nat.ne_of_gt (Heap.lt_size hx)
    have hn2 : h2.Ns s.heap.objs.size (fun y => List.lookup y [(b, u), (a, v), (("self" : Str), Value.ref x)]) := by
      obtain ⟨oL, es, ep, hL, r⟩ := hn'
      exact ⟨oL, es, ep, k2 _ _ hxL hL, r⟩
    have X2 : K.In h2 := fun b o e => k2 b o (fun z => by rw [z, hnx] at e; cases e) (X.keeps k b o e)
    refine wpAny_execs_cons (plainObj_wpAny_Assign_Attribute ?_)
    refine ldX hn2 ma rfl NM.locA NM.dbgA (ldX hn2 ms rfl rfl (by decide) ?_)
    refine set_plain X2 (ox := excO C t1) (od := none) ⟨e2, rfl, rfl, trivial⟩ T.sa ?_
    refine setNew xb X2 e2 hcl rfl rfl (T.no a (by simp)) fun h3 tk3 dx k3 dn dne e3 hn3 => ?_
    have z : s.heap.objs.size < h2.objs.size := hn2.lt
    have hdx : s.heap.objs.size ≤ dx := Nat.le_of_lt (Nat.lt_of_lt_of_le z dn)
    have hLd : s.heap.objs.size ≠ dx := Nat.ne_of_lt (Nat.lt_of_lt_of_le z dn)
    have hn3' : h3.Ns s.heap.objs.size (fun y => List.lookup y [(b, u), (a, v), (("self" : Str), Value.ref x)]) := by
      obtain ⟨oL, es, ep, hL, r⟩ := hn2
      exact ⟨oL, es, ep, k3 _ _ hxL hL, r⟩
    have X3 : K.In h3 := fun b o e => k3 b o (fun z => by rw [z, hnx] at e; cases e) (X2 b o e)
    refine wpAny_execs_cons (plainObj_wpAny_Assign_Attribute ?_)
    refine ldX hn3' mb rfl NM.locB NM.dbgB (ldX hn3' ms rfl rfl (by decide) ?_)
    refine set_plain X3 (ox := { cls := .ref C, dict := some dx, data := .fields #[.ref t1, .none, .none, .none, .bool false, .none] }) (od := h3.get? dx) ⟨e3, rfl, rfl, ?_⟩ T.sa ?_
    · obtain ⟨oD, _, _, hoD, _⟩ := hn3
      show (match some dx, h3.get? dx with | some dx, some o => h3.get? dx = some o | none, none => True | _, _ => False)
      rw [hoD]
      exact hoD
    refine setOld xb X3 e3 hn3 (nl := [a]) (Within.cons a v Within.nil) (by simp) hcl rfl rfl (T.no b (by simp)) fun h4 tk4 k4 hn4 => ?_
    exact wpAny_execs_nil (hq h4 tk4 dx ⟨fun b o hb e => k4 b o (fun z => absurd (Heap.lt_size e) (by rw [z]; exact Nat.not_lt.mpr hdx)) (k3 b o hb (k2 b o hb (k b o e))), ⟨t1, k4 _ _ (Ne.symm dne) e3⟩, hdx, dne, hn4⟩)
end

/-- the class, called -/
def Ini (prog : Program) (w : World) (K : Frag) (mg : Str → Option Value) (C fI : Addr) (us : List Value) (fv : List (Str × Value)) : Prop :=
  ∀ (A : Around) (R : Result → Shared → Prop) (s : Shared) (x t0 : Addr), K.In s.heap → K.lookup x = none → s.heap.NoLimit → s.heap.Ns mainGlobals mg → (∃ mb, s.heap.Ns builtinsNs mb ∧ mb "super" = some (.type "super")) →
    s.heap.get? x = some (excO C t0) → A.depth < recursionLimit → (∀ h' tk dx, IEnd s.heap h' x C dx fv → R (.ok (.ret .none)) { s with heap := h', toks := tk }) → codeAny (model prog w) A (.call (.ref fI) ⟨.ref x :: us, []⟩) R s
section
variable {prog : Program} {w : World} {A : Around} {E : Value → Shared → Prop} {R : Result → Shared → Prop} {s : Shared} {K : Frag} {mg : Str → Option Value} {C fI : Addr} {B nw it : String} {bm : List Value} {fs : List Str} {as : List Arg} {body : List Stmt}
theorem x_made (xb : XB B nw it bm) (T : XTxt prog K C fI B nw it bm fs as body) {us : List Value} {fv : List (Str × Value)} (hI : Ini prog w K mg C fI us fv) (X : K.In s.heap) (hlim : s.heap.NoLimit) (hg : s.heap.Ns mainGlobals mg) (hb : ∃ mb, s.heap.Ns builtinsNs mb ∧ mb "super" = some (.type "super")) (hz : us.length ≤ sizeLine) (hroom : A.depth + 1 < recursionLimit)
    (hq : ∀ h' tk e d, Made s.heap h' e C d fv → R (.ok (.ret (.ref e))) { s with heap := h', toks := tk }) :
    codeAny (model prog w) A (.call (.ref C) ⟨us, []⟩) R s := by
  obtain ⟨nm, q, N, bs, sn, sub, ab, col, dd, k0, k1, k2, k3, k5, hC⟩ := T.cls
  obtain ⟨hp, g, dr, tk, os⟩ := s
  have k : ∀ b o, hp.get? b = some o → ((hp.push (kdv_tup us)).push (excO C hp.objs.size)).get? b = some o := fun b o e => Heap.get?_push_of_some _ (Heap.get?_push_of_some _ e)
  have hget : ((hp.push (kdv_tup us)).push (excO C hp.objs.size)).get? (hp.objs.size + 1) = some (excO C hp.objs.size) := by heap_get
  have hnx : K.lookup (hp.objs.size + 1) = none := by
    cases e : K.lookup (hp.objs.size + 1) with
    | none => rfl
    | some o =>
      have z : hp.get? (hp.objs.size + 1) = some o := X _ _ e
      exact absurd (Nat.lt_of_succ_lt (Heap.lt_size z)) (Nat.lt_irrefl _)
  refine call_own xb.fb (fun _ => rfl) (X _ _ hC) (looks_findIn X T.iC) (fun self => bind_fn X self T.tC) hz ?_
  refine hI _ _ ⟨(hp.push (kdv_tup us)).push (excO C hp.objs.size), g, dr, tk, os⟩ _ _ (X.keeps k) hnx (hlim.keeps k) (hg.keeps k) (hb.elim fun mb z => ⟨mb, z.1.keeps k, z.2⟩) hget ?_ fun h' tk' dx ⟨k', ⟨t1, hx⟩, dn, dne, hns⟩ => ?_
  · show A.depth + 1 < recursionLimit
    exact hroom
  · have old : ∀ b o, hp.get? b = some o → h'.get? b = some o := fun b o e => k' b o (Nat.ne_of_lt (Nat.lt_succ_of_lt (Heap.lt_size e))) (k b o e)
    have z : hp.objs.size + 1 + 1 ≤ dx := by simpa only [Heap.size_push] using dn
    exact ⟨rfl, hq h' tk' (hp.objs.size + 1) dx ⟨old, Nat.le_succ _, ⟨_, _, hx, rfl, rfl, rfl, rfl⟩, Nat.le_trans (Nat.le_trans (Nat.le_succ _) (Nat.le_succ _)) z, dne, hns⟩⟩
end
end PX
end PySem

/-! PX1: raise of an own error -/
namespace PL
open PySem PySem.Spec PyProof.Rows L2 AB
open TL (tl)
/-- an own error class, as the layer needs it: its name, its fields -/
structure XCl (G : Gx) (x : Str) (fs : List Str) (C : Addr) : Prop where
  mgC : G.mg x = some (.ref C)
  kC : PySem.W.keepIn G.K (.ref C) = true
  exC : PySem.W.subIn G.K (.ref C) (.type "BaseException") = some true
  tyC : PySem.W.typeIn G.K (.ref C) = some (.type "type")
  ini : ∃ (fI : Addr) (B nw it : String) (bm : List Value) (as : List Arg) (body : List Stmt), PX.XB B nw it bm ∧ PX.XTxt G.prog G.K C fI B nw it bm fs as body ∧ ∀ us : List Value, us.length = fs.length → PX.Ini G.prog G.w G.K G.mg C fI us (fs.zip us)
section
variable {G : Gx} {X : Cx} {W : WX} {k : Nat} {H : Hp} {F : Addr → Prop}
def tMkX (C : Addr) (fs : List Str) (ta : TA) : L2.St → Hp → XK → Prop := fun σ H Q => ta σ H fun vs H1 => vs.length = fs.length ∧ ∀ d, H1 d = none → Q (.ref C) (some d) (upd H1 d (.xd (fs.zip vs)))
theorem fld_rel : ∀ {fs : List Str} {vs : List V} {us : List Value}, Vals vs us → ∀ f, RelO ((fs.zip vs).lookup f) (PX.fldM (fs.zip us) f)
  | [], vs, us, _, f => by cases vs <;> cases us <;> trivial
  | n :: fs, [], [], .nil, f => trivial
  | n :: fs, v :: vs, u :: us, .cons r rs, f => by
    show RelO (((n, v) :: fs.zip vs).lookup f) (PX.fldM ((n, u) :: fs.zip us) f)
    unfold List.lookup PX.fldM
    by_cases h : f = n
    · rw [if_pos h, show (f == n) = true from beq_iff_eq.mpr h]; exact r
    · rw [if_neg h, show (f == n) = false from beq_eq_false_iff_ne.mpr h]; exact fld_rel rs f
theorem pmk_x {x : Str} {fs : List Str} {C : Addr} {e : Expr} {es : List Expr} {ta : TA} {p pos : Pos} (c : Cok G X W k) (hk : 1 ≤ k) (XC : XCl G x fs C) (hg : Gl X x) (hl : fs.length ≤ 1000) (ha : PA X (e :: es) ta)
    (hdb : (x == ("__debug__" : Str)) = false := by decide) (he : starEach (e :: es) X.env = (false, eval e X.env) :: starEach es X.env := by rfl) (hpl : (backTo pos (starEach es X.env)).any (·.1) = false := by rfl) :
    PMk X (.Call (.Name x p) (e :: es) [] pos) (tMkX C fs ta) := by
  intro pins s σ H Q I h
  obtain ⟨fI, B, nw, it, bm, as, body, xb, T, hI⟩ := XC.ini
  have hm : X.mg x = some (.ref C) := by rw [c.hm]; exact XC.mgC
  refine wpAny_Call_Name_kw (ld_glob I hg hm ?_ hdb)
  refine PySem.W.callWith_K (h₀ := X.base) I.ok.mod.kin (by rw [c.hK]; exact XC.kC) (thn (ha.run pos pins s σ H _ I h) fun us s1 ⟨vs, H1, I1, r1, hz, q1⟩ => ⟨I1.kIn, ?_⟩) he hpl
  show wpAny _ _ (call (.ref C) us) _ _ _
  have hus : us.length = fs.length := by rw [← r1.length]; exact hz
  have hKin : G.K.In s1.heap := by rw [← c.hK]; exact I1.kIn
  have hrun : PX.Ini X.prog X.w G.K G.mg C fI us (fs.zip us) := by rw [c.hP, c.hw]; exact hI us hus
  have hT : PX.XTxt X.prog G.K C fI B nw it bm fs as body := by rw [c.hP]; exact T
  have hgl : s1.heap.Ns mainGlobals G.mg := by rw [← c.hm]; exact I1.ok.mod.glob.keeps I1.bk
  have hbl : ∃ mb, s1.heap.Ns builtinsNs mb ∧ mb "super" = some (.type "super") := by
    obtain ⟨mb, b1, b2⟩ := I1.ok.mod.blt
    exact ⟨mb, b1.keeps I1.bk, by rw [b2 _ (by decide)]; decide +kernel⟩
  refine wpAny_call (PX.x_made xb hT hrun hKin I1.nolimit hgl hbl (by rw [hus, sizeLine_eq]; omega) ?_ fun h' tk a d md => ?_)
  · have := c.hr.dp; omega
  · obtain ⟨oe, fv, ea, e1, e2, e3, e4⟩ := md.obj
    obtain ⟨Gh, g1, g2⟩ := L2.restrict h' fun b => decide (b ≠ a)
    have gk : ∀ b, b ≠ a → Gh.get? b = h'.get? b := fun b hb => g1 b (decide_eq_true hb)
    have ge : Gh.get? a = none := g2 a (by simp)
    have old : ∀ b o, s1.heap.get? b = some o → Gh.get? b = some o := fun b o e => by
      rw [gk b (Nat.ne_of_lt (Nat.lt_of_lt_of_le (Heap.lt_size e) md.new))]; exact md.keep b o e
    have hd1 : H1 d = none := I1.hok.fresh md.dbig
    have ha1 : H1 a = none := I1.hok.fresh md.new
    have nsG : Gh.Ns1 d (PX.fldM (fs.zip us)) := by
      obtain ⟨o, es', ep, q, r⟩ := md.ns
      exact ⟨o, es', ep, by rw [gk d md.dne]; exact q, r⟩
    have J : Inv X pins σ (upd H1 d (.xd (fs.zip vs))) { s1 with heap := Gh, toks := tk } :=
      I1.laid old md.dbig ⟨_, nsG, fun f => fld_rel r1 f⟩
    refine ⟨a, oe, fv, { s1 with heap := Gh, toks := tk }, _, .ref C, some d, rfl, J, fun b o e => ?_, ge, ea, ⟨e1, e2⟩, e3, e4, ?_, rfl, I1.bare, raises_own (by rw [c.hK]; exact XC.exC) (by rw [c.hK]; exact XC.tyC), q1 d hd1⟩
    · by_cases hb : b = a
      · subst hb; rw [ge] at e; cases e
      · rw [gk b hb] at e; exact e
    · rw [upd_ne md.dne.symm]; exact ha1
def raiseF (x : Str) (fs : List Str) (vs : List Fv) (ε : Ev) : Re Fl := match shr vs ε with
  | some (ds, ε') => if ds.length = fs.length then .exc ⟨x, fs.zip ds⟩ ε' else .no
  | none => .no
def sDRaise (x : Str) (fs : List Str) (da : Dn (List Fv)) : Dn Fl := fun ε => (da ε).bind (raiseF x fs)
theorem zip_fst {α β : Type} : ∀ {a : List α} {b : List β}, b.length = a.length → (a.zip b).map (·.1) = a
  | [], _, _ => rfl
  | x :: a, [], h => by simp at h
  | x :: a, y :: b, h => by rw [List.zip_cons_cons, List.map_cons, zip_fst (by simpa using h)]
theorem zip_snd {α β : Type} : ∀ {a : List α} {b : List β}, b.length = a.length → (a.zip b).map (·.2) = b
  | [], [], _ => rfl
  | [], _ :: _, h => by simp at h
  | x :: a, [], h => by simp at h
  | x :: a, y :: b, h => by rw [List.zip_cons_cons, List.map_cons, zip_snd (by simpa using h)]
theorem sRaise {x : Str} {fs : List Str} {C : Addr} {e : Expr} {es : List Expr} {da : Dn (List Fv)} {p pos pos' : Pos} (c : Cok G X W k) (hk : 1 ≤ k) (XC : XCl G x fs C) (hg : Gl X x) (hl : fs.length ≤ 1000) (ha : PAp G X W (e :: es) da)
    (hdb : (x == ("__debug__" : Str)) = false := by decide) (he : starEach (e :: es) X.env = (false, eval e X.env) :: starEach es X.env := by rfl) (hpl : (backTo pos (starEach es X.env)).any (·.1) = false := by rfl) :
    PSp G X W (.Raise (some (.Call (.Name x p) (e :: es) [] pos)) none pos') (sDRaise x fs da) := by
  refine PS.imp (ps_raise c.calm c.tk (pmk_x c hk XC hg hl ha hdb he hpl)) ?_
  rintro E σ H ⟨Cf, ε, ok, post⟩
  refine wA_bind (P := PostS G W Cf σ ε H E) ok post (fun _ _ h => PostS.px h) id fun vfs ε1 vs H1 st1 ok1 vr p1 => ?_
  unfold raiseF at p1
  cases q : shr vfs ε1 with
  | none => rw [q] at p1; exact p1.elim
  | some r =>
    obtain ⟨ds, ε2⟩ := r
    rw [q] at p1
    obtain ⟨k2, a, o⟩ := shr_sound ok1 vr q
    dsimp only at p1
    split at p1
    · rename_i hlen
      have hv : vs.length = fs.length := by rw [a.length]; exact hlen
      refine ⟨hv, fun d hd => ?_⟩
      have gr : ∀ b u, H1 b = some u → upd H1 d (.xd (fs.zip vs)) b = some u := grow_new hd
      refine p1 (.ref C) (some d) σ _ (st1.trans ((Stp.less (H := H1) o).trans (Stp.grow gr))) (k2.grow gr) ⟨XC.mgC, .inr ⟨d, fs.zip vs, rfl, upd_same, ?_, ?_⟩⟩
      · rw [zip_fst hv, zip_fst hlen]
      · rw [zip_snd hv, zip_snd hlen]
        exact a.mv ((Stp.grow (σ := σ) (ε := ε2) gr).mv (C := Cf))
    · exact p1.elim
end
end PL

/-! PX2: a lambda handed to a def that calls it, where no repr is under way -/
namespace PL
open PySem PySem.Spec PyProof.Rows L2 AB LamX
open TL (tl)
section
variable {X : Cx} {pins : List (Addr × Obj)} {σ : L2.St} {H : Hp} {s : Shared}
abbrev lamQ (X : Cx) : Str := X.env.qual ++ "<lambda>"
abbrev lamC (X : Cx) (scope : Scope) : List (Str × Addr) := cloFrom X.env.cells scope.names []
/-- the lambda is called by the def that got it -/
theorem act_g {CXg : CXT} {Eg : XK} {Ng : List Str} {qg : Str} {sg : Scope} {g f c' : Addr} {cdg pm ctv : Value}
    {params : Arguments} {body : Expr} {scope : Scope} {k i : Nat} {a : Str} {pn : List (Addr × Obj)}
    {xe : Value → Shared → Prop} {W : WX} {E : XK} {tb : TE} {p1 p2 : Pos} (I : Inv X pins σ H s)
    (L : LamS X.env.scope scope) (hgd : X.A.guards = some [])
    (hf : s.heap.get? f = some (PySem.W.kla_obj "<lambda>" (lamQ X) params body scope (lamC X scope) pm c' ctv))
    (hfn : H f = none) (hfr : f ∉ frs X.stack)
    (hbind : bindArgs (PySem.W.kla_fn "<lambda>" (lamQ X) params body scope (lamC X scope) pm (.ref c') ctv) ⟨[], []⟩ = pure [])
    (tk : Takes ((cxOf CXg X.prog X.w X.K X.mg X.base Ng qg sg g cdg X.A X.stack s H Eg).tr pn xe) W)
    (hW : ∀ cls d σ' H', E cls d H' → W cls d σ' H')
    (hr : Room (k + 1) (X.A.deeper (envOfC qg sg s.heap.objs.size g cdg)))
    (hbody : ∀ (A : Around) (outer : List Env) (s : Shared) (H : Hp), A.guards = some [] →
      Room k (A.deeper (lamEnv X scope s.heap.objs.size f c')) → PE (lamCx X A outer s H E scope f c') body tb)
    (hN : Ng[i]? = some a) (hv : Vis sg a) (hd : (a == ("__debug__" : Str)) = false)
    (hcd : (a == ("__classdict__" : Str)) = false) :
    PE ((cxOf CXg X.prog X.w X.K X.mg X.base Ng qg sg g cdg X.A X.stack s H Eg).tr pn xe) (.Call (.Name a p1) [] [] p2)
      (fun τ HZ Q => τ[i]? = some (some (.ref f)) ∧ HZ c' = some (CodeO c' (lamQ X)) ∧ tb σ HZ Q) := by
  refine ⟨fun pz sz τ HZ Q IZ h => ?_⟩
  obtain ⟨hs, hc, ht⟩ := h
  have ev := (pe_var (pos := p1) (i := i) hN hv hd hcd).run pz sz τ HZ (fun v H1 => v = .ref f ∧ H1 = HZ) IZ
    ⟨.ref f, hs, rfl, rfl⟩
  refine wpAny_Call_Name_kw (thn ev ?_)
  rintro u s1 ⟨v, H1, I1, r1, rfl, rfl⟩
  obtain rfl : u = Value.ref f := r1
  have fo := I1.base.keep f _ hf hfn hfr (fun z => nomatch (show f ∈ ([] : List Addr) from z))
  refine PySem.W.callWith_F0 ⟨_, _, _, _, fo⟩ ?_
  have un : Un (frs X.stack) [] H H1 s.heap s1.heap := I1.base
  obtain ⟨⟨oc, vs, t, o1, o2, o3⟩, _, _⟩ := I1.hok c' _ hc
  have run : codeAny (model X.prog X.w) (X.A.deeper (envOfC qg sg s.heap.objs.size g cdg)) (.call (.ref f) ⟨[], []⟩)
      (CR (L2.CX X.prog X.w) (envOfC qg sg s.heap.objs.size g cdg :: X.stack) X.prog X.w H1 s1 Q E) s1 := by
    refine PySem.W.kla_callFunE hr.depth fo rfl L.co L.gen rfl ⟨c', oc, vs, t, rfl, o1, o2, o3⟩ ?_
    rw [hbind]
    refine wpAny_pure (wpAny_newFunctionEnv (fun y hy => (L.own y hy).2) (fun y hy => absurd hy (by simp)) ?_ L.kind)
    intro h1 hns hsb
    refine ⟨I1.nolimit.fresh _ hsb, ?_⟩
    show codeAny _ _ (.expr body (lamEnv X scope s1.heap.objs.size f c')) _ _
    have kp : ∀ b o, s1.heap.get? b = some o → h1.get? b = some o := fun b o e =>
      hsb.extBut b o (Nat.ne_of_lt (Heap.lt_size e)) (Heap.get?_push_of_some _ e)
    have J := lam_start2 (E := E) (c' := c') (f := f) (tk := s1.toks + ([] : List (Str × Value)).length) I L I1.env0 hr.hd un hns kp
    refine PySem.W.kla_codeExpr (wpAny_mono ((hbody (X.A.deeper (envOfC qg sg s.heap.objs.size g cdg)) _ s1 H1 hgd (hr.deeper _)).run [] _ _ H1 Q J ht) ?_ fun e s' hq => hq)
    rintro v s' ⟨w', H', J', rv, q⟩
    exact ⟨w', H', J'.os, J'.bare, J'.base, J'.hok, rv, q⟩
  refine wpAny_call (codeAny_mono run ?_)
  intro r s' hq
  cases r with
  | error e => exact passes_call tk hW pz τ H1 s1 e s' I1 hq
  | ok fl =>
    cases fl with
    | ret u => exact I1.after hq
    | next => exact False.elim hq
    | brk => exact False.elim hq
    | cont => exact False.elim hq
/-- the lambda is made; of what is tracked only its maker's table is written -/
theorem lam_mk {q : Str} {c P : Addr} {params : Arguments} {body : Expr} {scope : Scope} {pos : Pos}
    {E : Value → Shared → Prop} {Q : Value → Shared → Prop} (I : Inv X pins σ H s) (TB : TabB X.base X.mg c P)
    (hcode : X.env.code = .ref c) (hq : q = lamQ X) (hT : TabS H P q) (hdef : defaultsOf params X.env = ([], []))
    (hfree : ∀ y ∈ scope.names, y.2 = .free → ∃ c, X.env.cells.lookup y.1 = some c)
    (h : ∀ (f c' : Addr) (pm ctv : Value) (H1 : Hp) (s' : Shared), Inv X pins σ H1 s' →
      (∀ b o, H b = some o → b ≠ P → H1 b = some o) → TabS H1 P q →
      s'.heap.get? f = some (PySem.W.kla_obj "<lambda>" q params body scope (lamC X scope) pm c' ctv) → H1 f = none →
      f ∉ frs X.stack → H1 c' = some (CodeO c' q) → Q (.ref f) s') :
    wpAny (model X.prog X.w) X.A (eval (.Lambda params body scope pos) X.env) Q E s := by
  subst hq
  obtain ⟨ps, hP, ht, ha⟩ := hT
  refine PySem.W.kla_eval hdef ?_
  have bP := TB.bm.keeps I.bk
  have oP : s.heap.get? P = some { cls := .none, data := .fields ps } := I.hok P _ hP
  have gl := I.mod.glob.keeps I.bk
  have cd := TB.code.keeps I.bk
  have nofr : ∀ f, s.heap.objs.size ≤ f → f ∉ frs X.stack := by
    intro f hf z
    rcases List.mem_cons.mp (I.stkSub _ z) with e | e
    · have := I.lt
      rw [← e] at this
      exact Nat.lt_irrefl _ (Nat.lt_of_lt_of_le this hf)
    · exact I.nofs hf e
  cases hc : codeAmong pos ps.toList with
  | some cv =>
    obtain ⟨c', e, hco⟩ := ha pos cv hc
    subst e
    refine PySem.W.kla_makeFunctionHit (mg := X.mg) (c := c) (P := P) (ps := ps) (closure_ok hfree) I.ok.glob gl hcode cd oP ht hc bP ?_
    intro ctv h' tk hx hsz
    refine h h'.objs.size c' ((X.mg "__name__").getD .none) ctv H _ (I.kept (t' := tk) fun b o e => Heap.get?_push_of_some _ (hx b o e)) ?_
      ⟨ps, hP, ht, ha⟩ (Heap.get?_push_size _ rfl) (I.hok.fresh hsz) (nofr _ hsz) hco
    exact fun b o e _ => e
  | none =>
    refine PySem.W.kla_makeFunction (mg := X.mg) (c := c) (P := P) (ps := ps) (closure_ok hfree) I.ok.glob gl hcode cd oP ht hc TB.gP bP ?_
    intro c' ctv h' tk hx hge hlt hrec htb
    obtain ⟨c2, oc, vs, t, e2, hoc, hd, hv⟩ := hrec
    cases e2
    have hsz : s.heap.objs.size ≤ h'.objs.size := Nat.le_trans hge (Nat.le_of_lt hlt)
    have nC : H c' = none := I.hok.fresh hge
    have nP : P ≠ c' := ne_of_none hP nC
    have J := inv_table (t' := tk) (more := #[rawInt pos.line, rawInt pos.col, .ref c'])
      (h' := h'.push (PySem.W.kla_obj "<lambda>" (lamQ X) params body scope (lamC X scope) ((X.mg "__name__").getD .none) c' ctv)) I hP
      (fun b o hb e => Heap.get?_push_of_some _ (hx b o hb e)) (Heap.get?_push_of_some _ htb) hge
      ⟨oc, vs, t, Heap.get?_push_of_some _ hoc, hd, hv⟩
    have hE : ∀ b o, H b = some o → b ≠ P →
        upd (upd H P (.tbl (ps ++ #[rawInt pos.line, rawInt pos.col, .ref c']))) c' (CodeO c' (lamQ X)) b = some o := by
      intro b o e n
      rw [upd_ne (ne_of_none e nC), upd_ne n]
      exact e
    have eL : (ps ++ #[rawInt pos.line, rawInt pos.col, Value.ref c']).toList = ps.toList ++ [rawInt pos.line, rawInt pos.col, .ref c'] := by
      simp
    refine h h'.objs.size c' ((X.mg "__name__").getD .none) ctv _ _ J hE ?_ (Heap.get?_push_size _ rfl) ?_ (nofr _ hsz) upd_same
    · refine ⟨_, (upd_ne nP).trans upd_same, by rw [eL]; exact PySem.TriplesOk_snoc _ _ _ _ ht, ?_⟩
      intro p' cv hcv
      rw [eL] at hcv
      rcases among_app _ ht hcv with z | z
      · obtain ⟨c0, e1, e2⟩ := ha p' cv z
        refine ⟨c0, e1, hE _ _ e2 fun z => ?_⟩
        rw [z, hP] at e2
        exact codeO_ne _ (Option.some.inj e2).symm
      · exact ⟨c', z, upd_same⟩
    · rw [upd_ne (Nat.ne_of_gt hlt), upd_ne (Nat.ne_of_gt (Nat.lt_of_lt_of_le (Heap.lt_size oP) hsz))]
      exact I.hok.fresh hsz
/-- what x(lambda: body) asks -/
def tLamG (P : Addr) (q : Str) (TT : (XK → Hp → VK → Prop) → Hp → VK → Prop) (t : XK → TE) : TE := fun σ H Q =>
  TabS H P q ∧ ∀ H1, (∀ b o, H b = some o → b ≠ P → H1 b = some o) → TabS H1 P q → TT (fun E H' Q' => t E σ H' Q') H1 Q
/-- x(lambda: body) -/
theorem lamcall_g {TT : (XK → Hp → VK → Prop) → Hp → VK → Prop} {x a : Str} {g c P : Addr} {k : Nat}
    {pg : Arguments} {bg : List Stmt} {sg : Scope} {dV kV doc pm cdv ct oc : Value} {an od : Option Addr}
    {osl : Array (Option Value)} {Ng : List Str} {params : Arguments} {body : Expr} {scope : Scope} {t : XK → TE} {p lpos pos : Pos}
    (hgd : X.A.guards = some []) (hg : Gl X x) (hm : X.mg x = some (.ref g)) (hk : PySem.W.keepIn X.K (.ref g) = true)
    (lk : X.K.lookup g = some ⟨oc, od, .func (PySem.W.fnOf x x pg bg sg dV kV doc pm an cdv ct), osl⟩)
    (hcg : PySem.W.codeIn X.K cdv x = true)
    (hb : L2.Binds X.K (PySem.W.fnOf x x pg bg sg dV kV doc pm an cdv ct) [a] [])
    (Sg : FnScope Ng [a] sg) (hNg : Ng[0]? = some a) (hva : Vis sg a)
    (hG : GivesTo X Ng x sg g cdv bg a (lamQ X) TT) (TB : TabB X.base X.mg c P) (hcode : X.env.code = .ref c)
    (hr : Room (k + 2) X.A)
    (L : LamS X.env.scope scope) (hdef : defaultsOf params X.env = ([], []))
    (hbind : ∀ (q : Str) (cl : List (Str × Addr)) (pm cv ctv : Value),
      bindArgs (PySem.W.kla_fn "<lambda>" q params body scope cl pm cv ctv) ⟨[], []⟩ = pure [])
    (hbody : ∀ (A : Around) (outer : List Env) (s : Shared) (H : Hp) (E : XK) (f c' : Addr), A.guards = some [] →
      Room k (A.deeper (lamEnv X scope s.heap.objs.size f c')) → PE (lamCx X A outer s H E scope f c') body (t E))
    (hdb : (x == ("__debug__" : Str)) = false) (hd : (a == ("__debug__" : Str)) = false) (hcd : (a == ("__classdict__" : Str)) = false) :
    PE X (.Call (.Name x p) [.Lambda params body scope lpos] [] pos) (tLamG P (lamQ X) TT t) := by
  refine ⟨fun pins s σ H Q I h => ?_⟩
  obtain ⟨hT, h⟩ := h
  refine wpAny_Call_Name_kw (ld_glob I hg hm ?_ hdb)
  refine PySem.W.callWith_K (h₀ := X.base) I.ok.mod.kin hk ?_ (by rfl) (by rfl)
  show wpAny _ _ (spliced ((false, eval (.Lambda params body scope lpos) X.env) :: backTo pos (starEach [] X.env))) _ _ s
  refine Calls.spliced_cons (lam_mk I TB hcode rfl hT hdef (L.has I.ok) ?_)
  intro f c' pm' ctv H1 s' I1 eN T1 hf hfn hfr hco
  refine Calls.spliced_nil ⟨I1.kIn, ?_⟩
  have rc : codeAny (model X.prog X.w) X.A (.call (.ref g) ⟨[.ref f], []⟩) (CR C8.CX0 X.stack X.prog X.w H1 s' Q C8.E0) s' := by
    refine run_ofS (N := Ng) (ps := [a]) (us := [.ref f]) (vs := [.ref f]) lk hcg Sg hr I1.env0 (hb s' [.ref f] I1.kIn rfl)
      (.cons rfl .nil) rfl ?_
    intro hr'
    obtain ⟨t', ht', hq'⟩ := hG f c' s' H1 Q (fun E H' Q' => t E σ H' Q') (fun W pn xe E p1 p2 tk hW =>
      act_g (i := 0) I1 L hgd hf hfn hfr (hbind _ _ _ _ _) tk hW hr' (fun A outer s H hq hr2 => hbody A outer s H E f c' hq hr2)
        hNg hva hd hcd) hco (h H1 eN T1)
    exact ⟨t', ht'.nox, hq'⟩
  refine wpAny_call (codeAny_mono rc ?_)
  intro r s2 hq
  cases r with
  | error e => exact (show False from hq).elim
  | ok fl =>
    cases fl with
    | ret u => exact I1.after hq
    | next => exact False.elim hq
    | brk => exact False.elim hq
    | cont => exact False.elim hq
end
end PL

/-! PX3: a caught error -/
namespace PL
open PySem PySem.Spec PyProof.Rows L2 AB LamX
open TL (tl)
/-- what is known of a caught error in its except suite: its name's slot, its fields -/
def XPre (G : Gx) (i : Nat) (a dd : Addr) (fs : List (Str × D)) (F : Addr → Prop) (σ : L2.St) (H : Hp) : Prop :=
  σ[i]? = some (some (.ref a)) ∧ ∃ xs, H dd = some (.xd xs) ∧ xs.map (·.1) = fs.map (·.1) ∧ RpAll G H F (xs.map (·.2)) (fs.map (·.2))
/-- an expression of an except suite: its value -/
def Atm (G : Gx) (Z : Cx) (i : Nat) (a dd : Addr) (fs : List (Str × D)) (e : Expr) (d : D) : Prop :=
  PE Z e fun σ H Q => ∃ F, XPre G i a dd fs F σ H ∧ ∀ v, Rp G H F v d → Q v H
def AtmL (G : Gx) (Z : Cx) (i : Nat) (a dd : Addr) (fs : List (Str × D)) (es : List Expr) (ds : List D) : Prop :=
  PA Z es fun σ H Q => ∃ F, XPre G i a dd fs F σ H ∧ ∀ vs, RpAll G H F vs ds → Q vs H
/-- a suite that hands back a value -/
def Suit (G : Gx) (Z : Cx) (i : Nat) (a dd : Addr) (fs : List (Str × D)) (ss : List Stmt) (d : D) : Prop :=
  ∃ t, PSs Z ss t ∧ ∀ (E : Ends) (σ : L2.St) (H : Hp) (F : Addr → Prop), FOld H F → XPre G i a dd fs F σ H → (∀ v H', (∀ b o, H b = some o → H' b = some o) → Rp G H' F v d → E.rt v H') → t E σ H
section
variable {G : Gx} {Z : Cx} {i : Nat} {a dd : Addr} {fs : List (Str × D)} {H : Hp} {F : Addr → Prop}
theorem PE.weak {e : Expr} {t t' : TE} (h : PE Z e t) (k : ∀ σ H Q, t' σ H Q → t σ H Q) : PE Z e t' := PE.imp h k
theorem xa_str {s : Str} {j : Nat} {pos : Pos} (hs : sOk (tl s) = true) : Atm G Z i a dd fs (.Constant (.str s) j pos) (.str (tl s)) := PE.imp pe_str fun σ H Q ⟨F, _, q⟩ => q _ (Rp.str' hs)
theorem lookup_rp : ∀ {xs : List (Str × V)} {fs : List (Str × D)} {f : Str} {d : D}, xs.map (·.1) = fs.map (·.1) → RpAll G H F (xs.map (·.2)) (fs.map (·.2)) → fs.lookup f = some d → ∃ v, xs.lookup f = some v ∧ Rp G H F v d
  | [], [], f, d, _, _, h => by cases h
  | [], _ :: _, f, d, h, _, _ => by cases h
  | _ :: _, [], f, d, h, _, _ => by cases h
  | (n, v) :: xs, (m, e) :: fs, f, d, h, r, l => by
    simp only [List.map_cons, List.cons.injEq] at h
    obtain ⟨rfl, h⟩ := h
    cases r with
    | cons r rs =>
      unfold List.lookup at l ⊢
      cases q : f == n with
      | true => rw [q] at l; cases l; exact ⟨v, rfl, r⟩
      | false => rw [q] at l; exact lookup_rp h rs l
theorem xa_nil : AtmL G Z i a dd fs [] [] := PA.imp pa_nil fun σ H Q ⟨F, _, q⟩ => q [] .nil
theorem xa_cons {e : Expr} {es : List Expr} {d : D} {ds : List D} (h : Atm G Z i a dd fs e d) (hs : AtmL G Z i a dd fs es ds) (hst : starEach (e :: es) Z.env = (false, eval e Z.env) :: starEach es Z.env := by rfl) : AtmL G Z i a dd fs (e :: es) (d :: ds) :=
  PA.imp (pa_cons h hs hst) fun σ H Q ⟨F, p, q⟩ => ⟨F, p, fun v r => ⟨F, p, fun vs rs => q _ (.cons r rs)⟩⟩
theorem su_tup {es : List Expr} {ds : List D} {j : Nat} {p1 p2 : Pos} (h : AtmL G Z i a dd fs es ds) (hl : ds.length ≤ 1000) : Suit G Z i a dd fs [.Return (some (.Tuple es j p1)) p2] (.tup ds) := by
  refine ⟨_, pss_one (ps_ret (pe_tup h)), fun E σ H F fo p q => ⟨F, p, fun vs rs => ⟨by rw [rs.length, sizeLine_eq]; omega, fun b hb => ?_⟩⟩⟩
  have gr : ∀ c o, H c = some o → upd H b (.tup vs) c = some o := grow_new hb
  refine q _ _ gr (.tup (.inl ⟨.inl upd_same, fun z => fo b z hb⟩) (rs.mv ⟨fun c o e _ _ => gr c o e, fun c z => .inl z⟩))
theorem su_one {e : Expr} {d : D} {p2 : Pos} (h : Atm G Z i a dd fs e d) : Suit G Z i a dd fs [.Return (some e) p2] d :=
  ⟨_, pss_one (ps_ret h), fun E σ H F fo p q => ⟨F, p, fun v r => q v H (fun _ _ e => e) r⟩⟩
end
/-- a class whose instances are caught -/
structure XHd (K : PySem.W.Frag) (C : Addr) : Prop where
  xf : XfC K C
  ec : ExcC K C
  cl : (PySem.W.clsIn K C).isSome = true
  me : PySem.W.exmOne K (.ref C) (.ref C) = some true
section
variable {G : Gx} {X : Cx} {i : Nat} {a dd C : Addr} {oe : Obj} {pn : List (Addr × Obj)} {fs : List (Str × D)}
theorem xa_fld {n f : Str} {d : D} {p1 p2 : Pos} (T : XHd X.K C) (hno : PySem.W.findIn X.K (.ref C) f = some none) (hz : Zc (.ref C) (some dd) oe) (hf : ∃ vs, oe.data = .fields vs) (hd : fs.lookup f = some d)
    (hN : X.N[i]? = some n) (hv : Vis X.env.scope n) (hb : attributeBase (.Name n p1) f X.env (eval (.Name n p1) X.env) = eval (.Name n p1) X.env := by rfl) (hdb : (n == ("__debug__" : Str)) = false := by decide) (hcd : (n == ("__classdict__" : Str)) = false := by decide) :
    Atm G (X.suite a ((a, oe) :: pn)) i a dd fs (.Attribute (.Name n p1) f p2) d := by
  refine PE.imp (pe_xf T.xf hno hz hf (pe_var (i := i) hN hv hdb hcd) hb) ?_
  rintro σ H Q ⟨F, ⟨hσ, xs, hx, e, r⟩, q⟩
  obtain ⟨v, l, rv⟩ := lookup_rp e r hd
  exact ⟨.ref a, hσ, rfl, rfl, dd, xs, v, rfl, hx, l, q v rv⟩
theorem isE {u : Value} {b : Bool} {d : Option Addr} (T : XHd X.K C) (hz : Zc (.ref C) d oe) (hf : ∃ vs, oe.data = .fields vs) (hk : PySem.W.kitOne X.K (.ref C) u = some b) :
    CallR (X.suite a ((a, oe) :: pn)) (.builtin "isinstance") (fun xs H Q => ∃ c : V, xs = [.ref a, c] ∧ (∀ w, RelV c w → w = u) ∧ (d = none ∨ ∃ dd xs, d = some dd ∧ H dd = some (.xd xs)) ∧ Q (.bl b) H) := by
  intro pins s σ H xs us Q I r h
  obtain ⟨c, rfl, hcv, hdd, q⟩ := h
  cases r with
  | cons rx rr =>
    cases rr with
    | cons rt rr =>
      cases rr
      cases rx
      obtain rfl := hcv _ rt
      obtain ⟨hget, _⟩ := I.pin (a, oe) (List.mem_append.mpr (.inl List.mem_cons_self))
      obtain ⟨vs, hv⟩ := hf
      have fin : ∀ tk, EP (X.suite a ((a, oe) :: pn)) pins σ Q (.bool b) { s with toks := tk } := fun tk => ⟨.bl b, H, I.kept (t' := tk) fun _ _ z => z, rfl, q⟩
      have nc : PySem.W.notCls oe = true := by unfold PySem.W.notCls; rw [hv] <;> rfl
      rcases hdd with rfl | ⟨dd, ys, rfl, hx⟩
      · have J : PySem.W.InstAt s.heap a oe C none := ⟨hget, hz.1, nc, by rw [hz.2]; trivial⟩
        exact PySem.W.kia_one (PySem.W.kitx_exc T.cl T.ec.hg T.ec.hk T.ec.hs T.ec.ha T.ec.hn T.ec.ht T.ec.hm) I.kIn J hk (fun z => nomatch z) fin
      · have hxx : ObjOk X.prog X.w H s.heap dd (.xd ys) := I.hok dd _ hx
        obtain ⟨mA, hns, _⟩ := hxx
        obtain ⟨od, ho, _⟩ := lookIn_ns hns
        have J : PySem.W.InstAt s.heap a oe C (some od) := ⟨hget, hz.1, nc, by rw [hz.2]; exact ho⟩
        exact PySem.W.kia_one (PySem.W.kitx_exc T.cl T.ec.hg T.ec.hk T.ec.hs T.ec.ha T.ec.hn T.ec.ht T.ec.hm) I.kIn J hk (fun z => nomatch z) fin
end
end PL

/-! PX4: a def that calls what it got and tells what came of it -/
namespace PL
open PySem PySem.Spec PyProof.Rows L2 AB LamX
open TL (tl)
theorem takes_len {X : Cx} {W : WX} (t : Takes X W) : Takes X (fun c d σ H => σ.length = X.N.length → W c d σ H) := fun u s' ⟨a, B, sI, pins, σ, H, cls, d, e, I, nb, up, sky, na, os, ag, w⟩ =>
  t u s' ⟨a, B, sI, pins, σ, H, cls, d, e, I, nb, up, sky, na, os, ag, w I.len⟩
/-- what the suite of a clause for the class at C wishes -/
def tsW (G : Gx) (i : Nat) (C : Addr) (hd : List (Str × D) → Option D) (a : Addr) (cls : Value) (d : Option Addr) : TS := fun E σ H =>
  ∃ (dd : Addr) (fs : List (Str × D)) (F : Addr → Prop) (dv : D), cls = .ref C ∧ d = some dd ∧ hd fs = some dv ∧ FOld H F ∧ XPre G i a dd fs F σ H ∧ ∀ v H', (∀ b o, H b = some o → H' b = some o) → Rp G H' F v dv → E.rt v H'
abbrev catX (X : Cx) (Ng : List Str) (x : Str) (sg : Scope) (g : Addr) (cdg : Value) (s : Shared) (H : Hp) : Cx := cxOf C8.CX0 X.prog X.w X.K X.mg X.base Ng x sg g cdg X.A X.stack s H C8.E0
/-- the clause's suite is right wherever it is entered -/
def SuitAll (G : Gx) (X : Cx) (Ng : List Str) (x : Str) (sg : Scope) (g : Addr) (cdg : Value) (i : Nat) (C : Addr) (ss : List Stmt) (hd : List (Str × D) → Option D) : Prop :=
  ∀ (s : Shared) (H : Hp) (a dd : Addr) (oe : Obj) (pn : List (Addr × Obj)) (fs : List (Str × D)) (dv : D), Zc (.ref C) (some dd) oe → (∃ vs, oe.data = .fields vs) → hd fs = some dv →
    Suit G ((catX X Ng x sg g cdg s H).nox.suite a ((a, oe) :: pn)) i a dd fs ss dv
section
variable {G : Gx} {X : Cx} {Ng : List Str} {x a q e xn : Str} {sg : Scope} {g C : Addr} {cdg : Value} {i : Nat} {hd : List (Str × D) → Option D} {b₀ : Stmt} {ss : List Stmt}
theorem suit_ps (h : SuitAll G X Ng x sg g cdg i C (b₀ :: ss) hd) {s : Shared} {H : Hp} {a : Addr} {oe : Obj} {cls : Value} {d : Option Addr} {pn : List (Addr × Obj)} (hz : Zc cls d oe) (hf : ∃ vs, oe.data = .fields vs) :
    PSs ((catX X Ng x sg g cdg s H).nox.suite a ((a, oe) :: pn)) (b₀ :: ss) (tsW G i C hd a cls d) := by
  refine ⟨fun pins s' σ H' D I hh => ?_⟩
  obtain ⟨dd, fs, F, dv, rfl, rfl, e, fo, xp, q⟩ := hh
  obtain ⟨t, ht, hq⟩ := h s H a dd oe pn fs dv hz hf e
  exact ht.run pins s' σ H' D I (hq D σ H' F fo xp q)
def EX (G : Gx) (K : PySem.W.Frag) (n i : Nat) (C : Addr) (hd : List (Str × D) → Option D) (D : Ends) : XK := fun cls d H' => ∀ τ : L2.St, τ.length = n → wAs K (.ref C) i (tsW G i C hd) (fun _ _ _ _ => False) D cls d τ H'
def TTc (G : Gx) (K : PySem.W.Frag) (n i : Nat) (C : Addr) (hd : List (Str × D) → Option D) (wr : VK → VK) : (XK → Hp → VK → Prop) → Hp → VK → Prop := fun tl H Q => ∀ nx, tl (EX G K n i C hd { nx := nx, rt := Q }) H (wr Q)
/-- try: (a statement that calls a) / except xn as e: .. -/
theorem gives_try {st : Stmt} {wr : VK → VK} {np p7 p8 : Pos} (hNd : Ng.Nodup) (hi : Ng[i]? = some e) (hle : sg.names.lookup e = some .local) (hge : sg.names.lookup xn = some .globalImplicit) (hme : X.mg xn = some (.ref C)) (hdx : (xn == ("__debug__" : Str)) = false)
    (h0 : ∀ f : Addr, (L2.start Ng [V.ref f])[0]? = some (some (V.ref f))) (hS : SuitAll G X Ng x sg g cdg i C (b₀ :: ss) hd)
    (hst : ∀ (s : Shared) (H : Hp) (pn : List (Addr × Obj)) (xe : Value → Shared → Prop) (te : TE), (∀ p1 p2, PE ((catX X Ng x sg g cdg s H).tr pn xe) (.Call (.Name a p1) [] [] p2) te) → PS ((catX X Ng x sg g cdg s H).tr pn xe) st (fun D σ H => te σ H (wr D.rt))) :
    GivesTo X Ng x sg g cdg [.Try [st] [.ExceptHandler (some (.Name xn np)) (some e) (b₀ :: ss) p7] [] [] p8] a q (TTc G X.K Ng.length i C hd wr) := by
  intro f c' s H Q tl act hc h
  have hgl : Gl (catX X Ng x sg g cdg s H).nox xn := hge
  refine ⟨_, pss_one (ps_try_as (X := (catX X Ng x sg g cdg s H).nox) (c := .ref C) (Wout := fun _ _ _ _ => False) (tb := fun W D σ H => σ[0]? = some (some (.ref f)) ∧ H c' = some (CodeO c' q) ∧ tl (fun cls d H' => ∀ τ : L2.St, τ.length = Ng.length → W cls d τ H') H (wr D.rt)) (ts := tsW G i C hd)
      rfl rfl hNd hi hle ⟨hgl, hdx, .inl hme⟩ LamX.takes0 (fun W pn xe tk _ => ?_) (fun a oe cls d pn hz hf => suit_ps hS hz hf)), ?_⟩
  · refine ⟨fun pins s' σ H' D I h' => ?_⟩
    have hp := hst s H pn xe _ fun p1 p2 => act (fun c d σ H => σ.length = Ng.length → W c d σ H) pn xe (fun cls d H' => ∀ τ : L2.St, τ.length = Ng.length → W cls d τ H') p1 p2 (takes_len tk) (fun cls d σ' H' hE => hE σ')
    exact (pss_one hp).run pins s' σ H' D I h'
  · exact ⟨h0 f, hc, h _⟩
/-- try: a() / except xn as e: .. / return None -/
theorem gives_tryN {np p1 p2 p3 p4 p5 p7 p8 : Pos} {j : Nat} (hNd : Ng.Nodup) (hi : Ng[i]? = some e) (hle : sg.names.lookup e = some .local) (hge : sg.names.lookup xn = some .globalImplicit) (hme : X.mg xn = some (.ref C)) (hdx : (xn == ("__debug__" : Str)) = false)
    (h0 : ∀ f : Addr, (L2.start Ng [V.ref f])[0]? = some (some (V.ref f))) (hS : SuitAll G X Ng x sg g cdg i C (b₀ :: ss) hd)
    (hsw : ∀ (s : Shared) (H : Hp), swapsWith (.Call (.Name a p1) [] [] p2) none p3.line (catX X Ng x sg g cdg s H).env = pure false) :
    GivesTo X Ng x sg g cdg [.Try [.Expr (.Call (.Name a p1) [] [] p2) p3] [.ExceptHandler (some (.Name xn np)) (some e) (b₀ :: ss) p7] [] [] p8, .Return (some (.Constant .none j p4)) p5] a q (TTc G X.K Ng.length i C hd fun Q _ H' => Q .non H') := by
  intro f c' s H Q tl act hc h
  have hgl : Gl (catX X Ng x sg g cdg s H).nox xn := hge
  refine ⟨_, pss_cons (ps_try_as (X := (catX X Ng x sg g cdg s H).nox) (c := .ref C) (Wout := fun _ _ _ _ => False) (tb := fun W D σ H => σ[0]? = some (some (.ref f)) ∧ H c' = some (CodeO c' q) ∧ tl (fun cls d H' => ∀ τ : L2.St, τ.length = Ng.length → W cls d τ H') H (fun _ H' => D.nx σ H')) (ts := tsW G i C hd)
      rfl rfl hNd hi hle ⟨hgl, hdx, .inl hme⟩ LamX.takes0 (fun W pn xe tk _ => ?_) (fun a oe cls d pn hz hf => suit_ps hS hz hf)) (pss_one (ps_ret pe_non)), ?_⟩
  · refine ⟨fun pins s' σ H' D I h' => ?_⟩
    have hp := ps_expr (act (fun c d σ H => σ.length = Ng.length → W c d σ H) pn xe (fun cls d H' => ∀ τ : L2.St, τ.length = Ng.length → W cls d τ H') p1 p2 (takes_len tk) (fun cls d σ' H' hE => hE σ')) (hsw s H)
    exact (pss_one hp).run pins s' σ H' D I h'
  · exact ⟨h0 f, hc, h _⟩
end
end PL

/-! PX5: x(lambda: body), x a def that tells what came of it -/
namespace PL
open PySem PySem.Spec PyProof.Rows L2 AB LamX
open TL (tl)
def catE (hd : Xc → Option D) (x : Xc) (ε : Ev) : Re Fv := match hd x with
  | some d => .ok (.sh d) ε
  | none => .no
def catO (wrap : D → D) (fv : Fv) (ε : Ev) : Re Fv := match shr [fv.old] ε with
  | some ([d], ε2) => .ok (.sh (wrap d)) ε2
  | _ => .no
def catR (hd : Xc → Option D) (wrap : D → D) : Re Fv → Re Fv
  | .ok fv ε1 => catO wrap fv ε1
  | .exc x ε1 => catE hd x ε1
  | .no => .no
def dCatch (hd : Xc → Option D) (wrap : D → D) (den : Dn Fv) : Dn Fv := fun ε => catR hd wrap (den ε)
/-- one clause, for the class xn -/
def hdOne (xn : Str) (h : List (Str × D) → Option D) (x : Xc) : Option D := if x.cls = xn ∧ x.fs ≠ [] then h x.fs else none
/-- what is done with the value -/
def WrOk (G : Gx) (wr : VK → VK) (wrap : D → D) : Prop := ∀ (H : Hp) (F : Addr → Prop) (v : V) (d : D) (Q : VK), FOld H F → Rp G H F v d → (∀ v' H', (∀ b o, H b = some o → H' b = some o) → Rp G H' F v' (wrap d) → Q v' H') → wr Q v H
section
variable {G : Gx} {X : Cx} {W : WX} {C : Fr} {σ : L2.St} {ε : Ev} {H H1 : Hp} {k : Nat}
theorem wr_ret : WrOk G (fun Q v H => Q v H) id := fun H F v d Q fo r q => q v H (fun _ _ e => e) r
theorem wr_non : WrOk G (fun Q _ H => Q .non H) (fun _ => .non) := fun H F v d Q fo r q => q .non H (fun _ _ e => e) .non
theorem wr_told {s : Str} (hs : sOk (tl s) = true) : WrOk G (fun Q v H => [V.str s, v].length ≤ sizeLine ∧ ∀ p, H p = none → Q (.ref p) (upd H p (.tup [.str s, v]))) (fun d => .tup [.str (tl s), d]) := fun H F v d Q fo r q => by
  refine ⟨by rw [sizeLine_eq]; simp, fun b hb => ?_⟩
  have gr : ∀ c o, H c = some o → upd H b (.tup [.str s, v]) c = some o := grow_new hb
  exact q _ _ gr (.tup (.inl ⟨.inl upd_same, fun z => fo b z hb⟩) (.cons (Rp.str' hs) (.cons (r.mv ⟨fun c o e _ _ => gr c o e, fun c z => .inl z⟩) .nil)))
theorem Ok.lam {P : Addr} {q : Str} (k : Ok G C H σ ε) (kp : ∀ b o, H b = some o → b ≠ P → H1 b = some o) (t0 : TabS H P q) (t1 : TabS H1 P q) (hu : ∀ p ∈ G.T, p.1 = P → p.2 = q) : Ok G C H1 σ ε ∧ Stp σ ε σ ε H H1 := by
  obtain ⟨ps, eP, _⟩ := id t0
  obtain ⟨ps1, eP1, _⟩ := id t1
  have nP : ∀ {b o}, H b = some o → NT o → b ≠ P := fun {b o} e nt z => by rw [z, eP] at e; cases e; exact nt ps rfl
  have al : ∀ b, H1 b = none → H b = none := fun b e => by
    by_cases hb : b = P
    · rw [hb, eP1] at e; cases e
    · cases q : H b with
      | none => rfl
      | some o => rw [kp b o q hb] at e; cases e
  have st : Stp σ ε σ ε H H1 := ⟨fun b o e _ nt => kp b o e (nP e nt), fun _ h => .inl h, al⟩
  have m := st.mv (C := C)
  refine ⟨⟨k.len, fun b o e n nt => kp b o (k.kept b o e n nt) (nP (k.kept b o e n nt) nt), k.inj, k.new, k.nf, fun p z e => k.f0 p z (al p e),
    fun i d e => ?_, fun i d e => ?_, fun i d e => ?_, k.ioA, k.ioB, fun p hp => ?_, fun b e => k.h0 b (al b e)⟩, st⟩
  · obtain ⟨v, e1, r⟩ := k.sh i d e; exact ⟨v, e1, r.mv m⟩
  · obtain ⟨v, e1, r⟩ := k.ow i d e; obtain ⟨o, eo⟩ := r.some; exact ⟨v, e1, r.mv m (by rw [eo, kp _ _ eo (nP eo (r.nt eo))])⟩
  · obtain ⟨v, e1, r⟩ := k.io i d e; obtain ⟨o, eo⟩ := r.some; exact ⟨v, e1, r.mv m (by rw [eo, kp _ _ eo (nP eo (r.nt eo))])⟩
  · by_cases hb : p.1 = P
    · rw [hb, hu p hp hb]; exact t1
    · refine tab_keep (as := fun b => b = P) kp (k.tb p hp) hb fun c ec z => ?_
      rw [z, eP] at ec
      exact codeO_ne _ (Option.some.inj ec).symm
theorem eCatch {x a xn : Str} {g c0 P CX : Addr} {pg : Arguments} {bg : List Stmt} {sg : Scope} {dV kV doc pm cdv ct oc : Value} {an od : Option Addr} {osl : Array (Option Value)} {Ng : List Str} {params : Arguments} {body : Expr} {scope : Scope} {den : Dn Fv} {p lpos pos : Pos}
    {i : Nat} {hd : List (Str × D) → Option D} {wr : VK → VK} {wrap : D → D} {q : Str} (c : Cok G X W (k + 2)) (hg : Gl X x) (hm : G.mg x = some (.ref g)) (hk : PySem.W.keepIn G.K (.ref g) = true)
    (lk : G.K.lookup g = some ⟨oc, od, .func (PySem.W.fnOf x x pg bg sg dV kV doc pm an cdv ct), osl⟩) (hcg : PySem.W.codeIn G.K cdv x = true)
    (hb : L2.Binds G.K (PySem.W.fnOf x x pg bg sg dV kV doc pm an cdv ct) [a] []) (Sg : FnScope Ng [a] sg) (hNg : Ng[0]? = some a) (hva : Vis sg a)
    (hG : GivesTo X Ng x sg g cdv bg a q (TTc G X.K Ng.length i CX hd wr)) (hwr : WrOk G wr wrap) (hmx : G.mg xn = some (.ref CX)) (hex : PySem.W.exmOne G.K (.ref CX) (.ref CX) = some true) (hi : i < Ng.length)
    (TB : TabB G.base G.mg c0 P) (hcode : X.env.code = .ref c0) (hq : q = lamQ X) (hTq : (P, q) ∈ G.T) (hu : ∀ p ∈ G.T, p.1 = P → p.2 = q) (L : LamS X.env.scope scope) (hdef : defaultsOf params X.env = ([], []))
    (hbind : ∀ (q : Str) (cl : List (Str × Addr)) (pm cv ctv : Value), bindArgs (PySem.W.kla_fn "<lambda>" q params body scope cl pm cv ctv) ⟨[], []⟩ = pure [])
    (hbody : ∀ (A : Around) (outer : List Env) (s : Shared) (H : Hp) (E : XK) (f c' : Addr), Cok G (lamCx X A outer s H E scope f c') (fun c d _ H' => E c d H') k → PEp G (lamCx X A outer s H E scope f c') (fun c d _ H' => E c d H') body den)
    (hdb : (x == ("__debug__" : Str)) = false := by decide) (hd1 : (a == ("__debug__" : Str)) = false := by decide) (hcd : (a == ("__classdict__" : Str)) = false := by decide) :
    PEp G X W (.Call (.Name x p) [.Lambda params body scope lpos] [] pos) (dCatch (hdOne xn hd) wrap den) := by
  subst hq
  refine PE.imp (lamcall_g (P := P) (k := k) (t := fun E => wE G (fun c d _ H' => E c d H') den) c.gd hg (by rw [c.hm]; exact hm) (by rw [c.hK]; exact hk) (by rw [c.hK]; exact lk) (by rw [c.hK]; exact hcg) (by rw [c.hK]; exact hb) Sg hNg hva hG
    (by rw [c.hb, c.hm]; exact TB) hcode c.hr L hdef hbind (fun A outer s H E f c' gd hr => hbody A outer s H E f c' ⟨c.hK, c.hm, c.hP, c.hw, c.hb, rfl, hr, gd, takes_of rfl rfl rfl rfl, passes_of rfl⟩) hdb hd1 hcd) ?_
  rintro σ H Q ⟨Cf, ε, ok, post⟩
  refine ⟨ok.tb _ hTq, fun H1 kp T1 nx => ?_⟩
  obtain ⟨ok1, st1⟩ := ok.lam kp (ok.tb _ hTq) T1 hu
  refine ⟨Cf, ε, ok1, ?_⟩
  have post := PostE.from st1 post
  unfold dCatch at post
  cases e : den ε with
  | no => rw [e] at post; exact post.elim
  | ok fv ε1 =>
    rw [e] at post
    intro v H' st2 ok2 vr
    simp only [catR, catO] at post
    cases qs : shr [fv.old] ε1 with
    | none => rw [qs] at post; exact post.elim
    | some r =>
      obtain ⟨ds, ε2⟩ := r
      rw [qs] at post
      obtain ⟨k3, rs, o3⟩ := shr_sound ok2 (vr.old .nil) qs
      cases rs with
      | cons rv rn =>
        cases rn
        exact hwr H' _ v _ Q k3.fold rv fun v' H'' gr r' => post v' H'' ((st2.trans (Stp.less (H := H') o3)).trans (Stp.grow gr)) (k3.grow gr) r'
  | exc x ε1 =>
    rw [e] at post
    intro cl d H' st2 ok2 xr
    simp only [catR, catE, hdOne] at post
    split at post
    · rename_i dv hdv
      split at hdv
      · rename_i hx
        obtain ⟨g1, g2⟩ := xr
        obtain ⟨hc, hne⟩ := hx
        rw [hc, hmx] at g1
        cases g1
        rcases g2 with ⟨z, _⟩ | ⟨dd, vs, rfl, hxd, hn, rs⟩
        · exact absurd z hne
        · intro τ hτ
          refine ⟨true, by rw [c.hK]; exact hex, fun _ a ha => ⟨dd, x.fs, Cf.F σ ε1, dv, rfl, rfl, hdv, ok2.fold, ⟨?_, vs, hxd, hn, rs⟩, fun v H'' gr r => post v H'' (st2.trans (Stp.grow gr)) (ok2.grow gr) r⟩, fun z => nomatch z⟩
          exact List.getElem?_set_self (by rw [hτ]; exact hi)
      · cases hdv
    · exact post.elim
end
end PL

/-! PX6: isinstance and repr in an except suite -/
namespace PL
open PySem PySem.Spec PyProof.Rows L2 AB LamX
open TL (tl)
section
variable {G : Gx} {X : Cx} {i : Nat} {a dd C : Addr} {oe : Obj} {pn : List (Addr × Obj)} {fs : List (Str × D)}
theorem xa_isi {n bn : Str} {B : String} {b : Bool} {p1 p2 p3 p4 : Pos} (T : XHd X.K C) (hz : Zc (.ref C) (some dd) oe) (hf : ∃ vs, oe.data = .fields vs) (hk : PySem.W.kitOne X.K (.ref C) (.type B) = some b) (hN : X.N[i]? = some n) (hv : Vis X.env.scope n)
    (hg : Gl X "isinstance") (hm : X.mg "isinstance" = none) (hgB : Gl X bn) (hmB : X.mg bn = none) (hvB : bootBuiltins bn = some (.type B)) (hnB : bn ≠ "__name__" := by decide) (hdB : (bn == ("__debug__" : Str)) = false := by decide)
    (hdb : (n == ("__debug__" : Str)) = false := by decide) (hcd : (n == ("__classdict__" : Str)) = false := by decide) :
    Atm G (X.suite a ((a, oe) :: pn)) i a dd fs (.Call (.Name "isinstance" p1) [.Name n p2, .Name bn p3] [] p4) (.bl b) := by
  refine PE.imp (pe_callB (X := X.suite a ((a, oe) :: pn)) (isE T hz hf hk) hg hm PyProof.Rows.boot_isinstance (pa_cons (pe_var (i := i) hN hv hdb hcd) (pa_cons (pe_bltn (v := .ty B) hgB hmB hvB rfl hnB hdB) pa_nil))) ?_
  rintro σ H Q ⟨F, ⟨hσ, xs, hx, e, r⟩, q⟩
  exact ⟨.ref a, hσ, .ty B, rfl, fun w hw => hw, .inr ⟨dd, xs, rfl, hx⟩, q _ (.bl b)⟩
theorem xa_if {c e1 e2 : Expr} {d1 d2 : D} {b : Bool} {pos : Pos} {Z : Cx} (hc : Atm G Z i a dd fs c (.bl b)) (h1 : Atm G Z i a dd fs e1 d1) (h2 : Atm G Z i a dd fs e2 d2) (hi : ∀ whole, isTrue c Z.env whole = (do let v ← whole; standAt c.pos; holding [v] (truthy v)) := by intro _; rfl) : Atm G Z i a dd fs (.IfExp c e1 e2 pos) (if b = true then d1 else d2) := by
  refine PE.imp (pe_ifExp (pt_val hc hi) h1 h2) ?_
  rintro σ H Q ⟨F, p, q⟩
  refine ⟨F, p, fun v r => ?_⟩
  cases r
  refine ⟨b, rfl, ?_⟩
  cases b with
  | true => exact ⟨F, p, q⟩
  | false => exact ⟨F, p, q⟩
theorem xa_repr {e : Expr} {d : D} {p1 p2 : Pos} {Z : Cx} (hK : Z.K = G.K) (hb : Z.base = G.base) (un : Z.A.units + 200 < cLine) (hgd : Z.A.guards = some []) (hg : Gl Z "repr") (hm : Z.mg "repr" = none) (h : Atm G Z i a dd fs e d) (hd : okRep d)
    (hst : starEach [e] Z.env = (false, eval e Z.env) :: starEach [] Z.env := by rfl) : Atm G Z i a dd fs (.Call (.Name "repr" p1) [e] [] p2) (.str (repL d)) := by
  refine PE.imp (pe_callB (reprR hK hb un hgd) hg hm (by decide +kernel) (pa_cons h pa_nil hst) (by decide) (by decide) hst) ?_
  rintro σ H Q ⟨F, p, q⟩
  refine ⟨F, p, fun v r => ?_⟩
  refine ⟨v, d, F, rfl, r, hd, ?_⟩
  exact q _ (.str (by simpa [repL, tl] using (r.shownOk 60 hd.1).1))
theorem Cok.u_cat {W : WX} {k : Nat} (c : Cok G X W (k + 1)) {Ng : List Str} {x : Str} {sg : Scope} {g : Addr} {cdg : Value} {s : Shared} {H : Hp} {a : Addr} {pn : List (Addr × Obj)} : ((catX X Ng x sg g cdg s H).nox.suite a pn).A.units + 200 < cLine := by
  have := (c.hr.deeper (envOfC x sg s.heap.objs.size g cdg)).un
  show (X.A.deeper (envOfC x sg s.heap.objs.size g cdg)).units + 200 < cLine
  omega
end
end PL

/-! PXT: the law's own call, with tables of code objects -/
namespace AB
open PySem PySem.Spec PyProof.Rows L2 LamX
/-- the law's promise, where the tables stand -/
def spLawT (K : PySem.W.Frag) (ts : List Addr) : Sp := fun vs H Q E => spLaw K vs H Q E ∧ ∀ t ∈ ts, H t = some (.tbl #[])
def tabO : Obj := { cls := .none, data := .fields #[] }
def scrT (K : PySem.W.Frag) (a : Addr) (vs : List Value) (ns : List Int) (ts : List Addr) : Hp := fun b =>
  if b = a ∧ K.lookup a = none then some (.frz (scrO vs) (.lst (ns.map V.int))) else if b ∈ ts then some (.tbl #[]) else none
section
variable {P : Program} {w : World} {K : PySem.W.Frag} {mg mb : Str → Option Value} {k : Nat} {fa a : Addr}
  {fd : FuncData} {x : Str} {sp : Sp} {s₁ : Shared} {vs : List Value} {ns : List Int} {ts : List Addr}
theorem scrT_some {b : Addr} {o : HO} (h : scrT K a vs ns ts b = some o) :
    (b = a ∧ K.lookup a = none ∧ o = .frz (scrO vs) (.lst (ns.map V.int))) ∨ (b ∈ ts ∧ o = .tbl #[]) := by
  unfold scrT at h
  by_cases c : b = a ∧ K.lookup a = none
  · rw [if_pos c] at h
    exact .inl ⟨c.1, c.2, (Option.some.inj h).symm⟩
  · rw [if_neg c] at h
    by_cases d : b ∈ ts
    · rw [if_pos d] at h
      exact .inr ⟨d, (Option.some.inj h).symm⟩
    · rw [if_neg d] at h
      cases h
theorem goes_tab {cs : List (Addr × Addr)} (KX : K.In s₁.heap) (hns : s₁.heap.Ns mainGlobals mg) (hb : s₁.heap.Ns builtinsNs mb)
    (hbb : ∀ x : Str, x ≠ "__name__" → mb x = bootBuiltins x) (hlim : s₁.heap.NoLimit) (hg : s₁.gens = #[])
    (hT : ∀ p ∈ cs, s₁.heap.get? p.2 = some tabO) (nT : ∀ p ∈ cs, K.lookup p.2 = none)
    (hC : ∀ p ∈ cs, PySem.W.CodeHd s₁.heap p.1 p.2)
    (hsys : ∃ m, s₁.heap.Ns sysModules m)
    (hbm : ∃ (bm : Addr) (ob : Obj), mg "__builtins__" = some (.ref bm) ∧ bm ≠ builtinsNs ∧ s₁.heap.get? bm = some ob ∧
      ob.cls = .type "module" ∧ ob.dict = some builtinsNs ∧ ob.data = .plain)
    (ha : s₁.heap.get? a = some (scrO vs)) (hi : IntsAre vs ns) (hl : ns.length ≤ sizeLine) (hr : Room k callerA)
    (F : ∀ base : Heap, K.In base → base.Ns mainGlobals mg → (∃ o, base.get? sysModules = some o) → (∀ p ∈ cs, TabB base mg p.1 p.2) → FnG P w K mg base CX0 k fa fd [x] sp)
    (hbind : ∀ (s : Shared) (u : Value), BindsTo s fd ⟨[u], []⟩ [(x, u)])
    (hsp : ∀ H : Hp, (∀ p ∈ cs, H p.2 = some (.tbl #[])) → SqL K H a (ns.map V.int) →
      sp [.ref a] H (fun v _ => v = .bl true) fun _ _ _ => False) :
    codeAny (model P w) callerA (.call (.ref fa) ⟨[.ref a], []⟩)
      (fun r s' => r = .ok (.ret (.bool true)) ∧ OldK s₁.heap s'.heap ∧ s'.os = s₁.os ∧ AllBare s'.gens) s₁ := by
  have rv := vals_ints hi
  obtain ⟨ts, hts⟩ : ∃ ts, ts = cs.map (·.2) := ⟨_, rfl⟩
  let H : Hp := scrT K a vs ns ts
  have mem : ∀ b ∈ ts, ∃ p ∈ cs, p.2 = b := fun b hb => by
    rw [hts] at hb
    obtain ⟨p, hp, e⟩ := List.mem_map.mp hb
    exact ⟨p, hp, e⟩
  have isT : ∀ b ∈ ts, s₁.heap.get? b = some tabO := fun b hb => by
    obtain ⟨p, hp, rfl⟩ := mem b hb
    exact hT p hp
  have aT : a ∉ ts := fun z => by
    have := isT a z
    rw [ha] at this
    cases this
  have hH : ∀ p ∈ cs, H p.2 = some (.tbl #[]) := fun p hp => by
    have hm : p.2 ∈ ts := by rw [hts]; exact List.mem_map.mpr ⟨p, hp, rfl⟩
    show (if p.2 = a ∧ K.lookup a = none then _ else if p.2 ∈ ts then _ else _) = _
    rw [if_neg (show ¬(p.2 = a ∧ K.lookup a = none) from fun z => aT (z.1 ▸ hm)), if_pos hm]
  have toBase : ∀ {b : Addr} {o : Obj}, s₁.heap.get? b = some o → H b = none → (hidT s₁.heap H).get? b = some o :=
    fun e n => hidT_get e n
  -- what is tracked is the script or a table
  have only : ∀ {b : Addr} {o : Obj}, s₁.heap.get? b = some o → o ≠ scrO vs → o ≠ tabO → H b = none := by
    intro b o e h1 h2
    cases q : H b with
    | none => rfl
    | some u =>
      rcases scrT_some q with ⟨rfl, _, _⟩ | ⟨hb', _⟩
      · rw [ha] at e
        cases e
        exact absurd rfl h1
      · rw [isT b hb'] at e
        cases e
        exact absurd rfl h2
  have dictFree : ∀ {b : Addr} {o : Obj} {es : Array DictEntry} {ep : Nat}, s₁.heap.get? b = some o → o.data = .dict es ep → H b = none := by
    intro b o es ep e d
    refine only e (fun z => ?_) fun z => ?_
    · rw [z] at d
      exact nomatch (show Data.seq vs.toArray _ = Data.dict es ep from d)
    · rw [z] at d
      exact nomatch (show Data.fields #[] = Data.dict es ep from d)
  have nsB : ∀ {b : Addr} {m : Str → Option Value}, s₁.heap.Ns b m → (hidT s₁.heap H).Ns b m := by
    rintro b m ⟨o, es, ep, e, d, r⟩
    exact ⟨o, es, ep, toBase e (dictFree e d), d, r⟩
  have kinB : K.In (hidT s₁.heap H) := by
    intro b o e
    refine toBase (KX b o e) ?_
    cases q : H b with
    | none => rfl
    | some u =>
      rcases scrT_some q with ⟨rfl, z, _⟩ | ⟨hb', _⟩
      · rw [z] at e
        cases e
      · obtain ⟨p, hp, rfl⟩ := mem b hb'
        rw [nT p hp] at e
        cases e
  have hM : Mod K mg (hidT s₁.heap H) := ⟨kinB, nsB hns, ⟨mb, nsB hb, hbb⟩, by
    obtain ⟨mc, h1, h2⟩ := hlim
    exact ⟨mc, nsB h1, h2⟩⟩
  have hok : HOk P w H s₁.heap := by
    intro b u e
    rcases scrT_some e with ⟨rfl, z, rfl⟩ | ⟨hb', rfl⟩
    · exact ⟨ha, by rw [List.length_map]; exact hl, vs, _, rv, ha⟩
    · exact isT b hb'
  have sq : SqL K H a (ns.map V.int) := by
    cases q : K.lookup a with
    | none => exact .inl (.inr ⟨scrO vs, if_pos ⟨rfl, q⟩⟩)
    | some o =>
      have e := KX a o q
      rw [ha] at e
      cases e
      refine .inr ⟨_, vs.toArray, _, q, rfl, rfl, rfl, ?_, by simpa using rv⟩
      have := rv.length
      rw [List.length_map] at this
      rw [List.size_toArray]
      omega
  have TB : ∀ p ∈ cs, TabB (hidT s₁.heap H) mg p.1 p.2 := by
    intro p hp
    have tp := hT p hp
    have glb : mainGlobals ≠ p.2 := fun z => by
      obtain ⟨o, es, ep, e, d, _⟩ := hns
      rw [z, tp] at e
      cases e
      cases d
    refine ⟨?_, ?_, glb⟩
    · obtain ⟨o, us, file, tf, flags, tg, inF, text, tt, e1, r1, r2⟩ := hC p hp
      refine ⟨o, us, file, tf, flags, tg, inF, text, tt, toBase e1 (only e1 (fun z => ?_) fun z => ?_), r1, r2⟩
      · rw [z] at r1
        exact absurd (show Value.type "list" = Value.type "code" from r1) (by decide)
      · rw [z] at r1
        exact absurd (show Value.none = Value.type "code" from r1) (by decide)
    · obtain ⟨bm, ob, b1, b2, b3, b4, b5, b6⟩ := hbm
      refine ⟨bm, ob, b1, b2, fun z => ?_, fun z => ?_, toBase b3 (only b3 (fun z => ?_) fun z => ?_), b4, b5, b6⟩
      · obtain ⟨o, es, ep, e, d, _⟩ := hns
        rw [z, e] at b3
        cases b3
        rw [d] at b6
        cases b6
      · rw [z, tp] at b3
        cases b3
        cases b6
      · rw [z] at b6
        cases b6
      · rw [z] at b6
        cases b6
  have SY : ∃ o, (hidT s₁.heap H).get? sysModules = some o := by
    obtain ⟨m, hm⟩ := hsys
    obtain ⟨o, es, ep, e, _⟩ := nsB hm
    exact ⟨o, e⟩
  have e0 : Env0 P w K mg (hidT s₁.heap H) callerA [] s₁ H :=
    { frames := rfl, mod := hM, bs := fun b o e => of_hidT e, bsz := Nat.le_of_eq (hidT_size _ _), funs := trivial,
      frf := fun b z => absurd (show b ∈ ([] : List Addr) from z) (by simp), hok := hok, bare := .of_eq hg }
  refine codeAny_mono ((F _ kinB (nsB hns) SY TB).go callerA [] s₁ H ⟨[.ref a], []⟩ [.ref a] [.ref a] _ _ hr rfl e0
    (hbind s₁ (.ref a)) (.cons rfl .nil) (hsp H hH sq)) ?_
  intro r s' h
  cases r with
  | error e => exact False.elim h
  | ok fl =>
    cases fl with
    | next => exact False.elim h
    | brk => exact False.elim h
    | cont => exact False.elim h
    | ret u =>
      obtain ⟨v, H', os, bare, un, hok', r', q⟩ := h
      have q1 : v = .bl true := q
      subst q1
      have q2 : u = Value.bool true := r'
      subst q2
      have grown : ∀ b ∈ ts, ∃ more : Array Value, s'.heap.get? b = some { cls := .none, data := .fields more } := fun b hb' => by
        obtain ⟨p, hp, rfl⟩ := mem b hb'
        obtain ⟨more, z⟩ := un.tbls p.2 #[] (hH p hp)
        exact ⟨_, hok' p.2 _ z⟩
      have key : ∀ b o, b ∉ ts → s₁.heap.get? b = some o → s'.heap.get? b = some o := by
        intro b o nb e
        cases q : H b with
        | none => exact un.keep b o e q (fun z => absurd (show b ∈ ([] : List Addr) from z) (by simp)) (by simp)
        | some u =>
          rcases scrT_some q with ⟨rfl, z, rfl⟩ | ⟨hb', _⟩
          · obtain ⟨e1, _⟩ := hok b _ q
            obtain ⟨e2, _⟩ := hok' b _ (un.frzs b _ _ q)
            rw [e] at e1
            cases e1
            exact e2
          · exact absurd hb' nb
      refine ⟨rfl, ⟨fun b o e => ?_, fun b o e => ?_⟩, os, bare⟩
      · by_cases hb' : b ∈ ts
        · obtain ⟨more, hm⟩ := grown b hb'
          obtain ⟨p, hp, rfl⟩ := mem b hb'
          rw [hT p hp] at e
          cases e
          exact .inr (.inl ⟨((hC p hp).tab (hT p hp)).isCodeTable, rfl, #[], more, rfl, by rw [Array.empty_append]; exact hm⟩)
        · exact .inl (key b o hb' e)
      · by_cases hb' : b ∈ ts
        · obtain ⟨more, hm⟩ := grown b hb'
          exact ⟨_, hm⟩
        · exact ⟨o, key b o hb' e⟩
theorem walk_tab {l : PySem.W.OpenLaw} {n k : Nat} {q : Program} {loose : List Str}
    {XP : (Str → Option Value) → Heap → Prop} {YP : World → Heap → Prop} {d : DefRec} {K : Params → PySem.W.Frag} {x : Str} {ts : List Addr}
    (hn : l.most = some n) (hn2 : n ≤ sizeLine) (h63 : n ≤ 63) (hdf : d.params.defaults = []) (hr : Room k callerA) (himp : importsNone q = true)
    (hY : ∀ (w : World) (h : Heap), YP w h → (K w.params).In h ∧ ∀ t ∈ ts, h.get? t = some (PySem.W.tabObj #[]))
    (F : ∀ (w : World) (mg : Str → Option Value) (fa : Addr) (h : Heap), (K w.params).In h → h.Ns mainGlobals mg →
      mg d.name = some (.ref fa) → ∃ (fd : FuncData) (cs : List (Addr × Addr)), (∀ p ∈ cs, p.2 ∈ ts) ∧ (∀ p ∈ cs, (K w.params).lookup p.2 = none) ∧
        (∀ p ∈ cs, PySem.W.codeHdIn (K w.params) p.1 p.2 = true) ∧ (∀ (s : Shared) (u : Value), BindsTo s fd ⟨[u], []⟩ [(x, u)]) ∧
        ∀ base : Heap, (K w.params).In base → base.Ns mainGlobals mg → (∃ o, base.get? sysModules = some o) → (∀ p ∈ cs, TabB base mg p.1 p.2) →
          FnG l.prog w (K w.params) mg base CX0 k fa fd [x] (spLawT (K w.params) (cs.map (·.2)))) :
    PySem.W.WalkO q loose XP YP l.row.toRowW d [] (fun f vs => PySem.call f vs) := by
  refine Att.attach_call hn hdf ?_
  intro w s₀ s₁ mg mb fa o pm cd doc a vs ns G Y ho hd hcd hmg hobj hints hlen hg
  obtain ⟨KX, hT⟩ := hY w _ Y
  obtain ⟨fd, cs, c1, c2, c3, hb, hF⟩ := F w mg fa _ KX G.T.g hmg
  refine goes_tab KX G.T.g G.T.b G.T.builtins G.T.nolimit hg (fun p hp => hT _ (c1 p hp)) c2 (fun p hp => PySem.W.codeHd_of_K KX (c3 p hp)) (by obtain ⟨m, hm, _⟩ := (G.T.seer himp).mods; exact ⟨m, hm⟩) G.T.bmain hobj hints (Nat.le_trans hlen hn2) hr hF hb fun H hH hS => ?_
  refine ⟨⟨a, ns, rfl, hS, Nat.le_trans hlen h63, fun _ => rfl⟩, fun t ht => ?_⟩
  obtain ⟨p, hp, rfl⟩ := List.mem_map.mp ht
  exact hH p hp
end
end AB

namespace PL
open PySem PySem.Spec PyProof.Rows L2 AB LamX
open TL (tl)
section
variable {G : Gx}
theorem law_plainT {j : Nat} {f : Addr} {fd : FuncData} {x : Str} {den : List D → Rf} {ts : List Addr} (Fn : FnP G j f fd [x] [false] den) (h : ∀ ns : List Int, ns.length ≤ 63 → ∃ outs, den [.flz (ns.map .int)] = .ok (.sh (.bl true)) outs) (hT : ∀ p ∈ G.T, p.1 ∈ ts) : FnG G.prog G.w G.K G.mg G.base CX0 j f fd [x] (spLawT G.K ts) := by
  refine FnG.cx0 Fn ?_
  rintro vs H Q E ⟨⟨a, ns, rfl, hS, hl, q⟩, hH⟩
  refine ⟨fun _ => False, [.flz (ns.map .int)], fun p z => z.elim, (fun p hp => TabS.nil (hH _ (hT p hp))), .val (.flz ?_ (RpAll.ints ns)) .nil, .nil, ?_⟩
  · rcases hS with h | h
    · exact .inl ⟨h, fun z => z⟩
    · exact .inr h
  · obtain ⟨outs, e⟩ := h ns hl
    rw [e]
    intro v H' kp rr
    obtain ⟨_, r⟩ := rr
    cases r
    exact q H'
end
/-- x(lambda: ..), by the def's own record -/
theorem eCat {G : Gx} {X : Cx} {W : WX} {k : Nat} {st : Stmt} {fd : FuncData} {x a xn : Str} {g c0 P CX : Addr} {Ng : List Str} {params : Arguments} {body : Expr} {scope : Scope} {den : Dn Fv} {p lpos pos : Pos}
    {i : Nat} {hd : List (Str × D) → Option D} {wr : VK → VK} {wrap : D → D} {q : Str} (c : Cok G X W (k + 2)) (hg : Gl X x) (Fx : FX G.K G.mg x st [a] g fd) (Sg : FnScope Ng [a] (defScope st)) (hNg : Ng[0]? = some a) (hva : Vis (defScope st) a)
    (hG : ∀ cdv, GivesTo X Ng x (defScope st) g cdv (defBody st) a q (TTc G X.K Ng.length i CX hd wr)) (hwr : WrOk G wr wrap) (hmx : G.mg xn = some (.ref CX)) (hex : PySem.W.exmOne G.K (.ref CX) (.ref CX) = some true) (hi : i < Ng.length)
    (TB : TabB G.base G.mg c0 P) (hcode : X.env.code = .ref c0) (hq : q = lamQ X) (hTq : (P, q) ∈ G.T) (hu : ∀ p ∈ G.T, p.1 = P → p.2 = q) (L : LamS X.env.scope scope) (hdef : defaultsOf params X.env = ([], []))
    (hbind : ∀ (q : Str) (cl : List (Str × Addr)) (pm cv ctv : Value), bindArgs (PySem.W.kla_fn "<lambda>" q params body scope cl pm cv ctv) ⟨[], []⟩ = pure [])
    (hbody : ∀ (A : Around) (outer : List Env) (s : Shared) (H : Hp) (E : XK) (f c' : Addr), Cok G (lamCx X A outer s H E scope f c') (fun c d _ H' => E c d H') k → PEp G (lamCx X A outer s H E scope f c') (fun c d _ H' => E c d H') body den)
    (hdb : (x == ("__debug__" : Str)) = false := by decide) (hd1 : (a == ("__debug__" : Str)) = false := by decide) (hcd : (a == ("__classdict__" : Str)) = false := by decide) :
    PEp G X W (.Call (.Name x p) [.Lambda params body scope lpos] [] pos) (dCatch (hdOne xn hd) wrap den) := by
  obtain ⟨oc, od, kV, doc, pm, an, cdv, ct, osl, rfl, lk, hcg⟩ := Fx.F.ex
  exact eCatch c hg Fx.g Fx.F.kp lk hcg Fx.b Sg hNg hva (hG cdv) hwr hmx hex hi TB hcode hq hTq hu L hdef hbind hbody hdb hd1 hcd
end PL

/-! PX7: zip of two lists, of two tuples -/
namespace PL
open PySem PySem.Spec PyProof.Rows L2 AB RZ
open TL (tl)
section
variable {G : Gx} {X : Cx} {W : WX} {H : Hp} {F : Addr → Prop} {k : Nat}
def zipD (xs ys : List D) : List D := List.zipWith (fun x y => D.tup [x, y]) xs ys
theorem zipD_len (xs ys : List D) : (zipD xs ys).length = min xs.length ys.length := by simp [zipD]
theorem zipD_get {xs ys : List D} {i : Nat} {d : D} (h : (zipD xs ys)[i]? = some d) : ∃ x y, xs[i]? = some x ∧ ys[i]? = some y ∧ d = .tup [x, y] := by
  unfold zipD at h
  rw [List.getElem?_zipWith] at h
  cases e1 : xs[i]? with
  | none => rw [e1] at h; cases h
  | some x =>
    cases e2 : ys[i]? with
    | none => rw [e1, e2] at h; cases h
    | some y => rw [e1, e2] at h; cases h; exact ⟨x, y, rfl, rfl, rfl⟩
theorem ylds_zip {a b : Addr} {vs ws : List V} {ds es : List D} (s : SL G H F a vs) (r : RpAll G H F vs ds) (s' : SL G H F b ws) (r' : RpAll G H F ws es) : Ylds G H F (Itz G.K a b) (zipD ds es) := by
  intro i H1 F1 m fo
  have s1 := s.mv m
  have r1 := r.mv m
  have s2 := s'.mv m
  have r2 := r'.mv m
  refine ⟨fun d e => ?_, fun e => ⟨vs, ws, s1.sq, s2.sq, by rw [r.length, r'.length, e, zipD_len]; omega⟩⟩
  obtain ⟨x, y, ex, ey, rfl⟩ := zipD_get e
  obtain ⟨v, ev, rv⟩ := r1.get' ex
  obtain ⟨w, ew, rw'⟩ := r2.get' ey
  refine ⟨⟨vs, ws, v, w, s1.sq, s2.sq, ev, ew⟩, fun x H2 hy => ?_⟩
  obtain ⟨T, v', w', rfl, nT, rfl, hx, hy⟩ := hy
  have hx := hx vs s1.sq
  have hy := hy ws s2.sq
  rw [ev] at hx; cases hx
  rw [ew] at hy; cases hy
  exact ⟨grow_new nT, .tup (.inl ⟨.inl upd_same, fo.n nT⟩) (.cons (rv.mv (mv_old nT)) (.cons (rw'.mv (mv_old nT)) .nil))⟩
theorem ylds_zipT {a b : Addr} {vs ws : List V} {ds es : List D} (s : ST G H F a vs) (r : RpAll G H F vs ds) (s' : ST G H F b ws) (r' : RpAll G H F ws es) : Ylds G H F (ItzT G.K a b) (zipD ds es) := by
  intro i H1 F1 m fo
  have s1 := s.mv m
  have r1 := r.mv m
  have s2 := s'.mv m
  have r2 := r'.mv m
  refine ⟨fun d e => ?_, fun e => ⟨vs, ws, s1.sq, s2.sq, by rw [r.length, r'.length, e, zipD_len]; omega⟩⟩
  obtain ⟨x, y, ex, ey, rfl⟩ := zipD_get e
  obtain ⟨v, ev, rv⟩ := r1.get' ex
  obtain ⟨w, ew, rw'⟩ := r2.get' ey
  refine ⟨⟨vs, ws, v, w, s1.sq, s2.sq, ev, ew⟩, fun x H2 hy => ?_⟩
  obtain ⟨T, v', w', rfl, nT, rfl, hx, hy⟩ := hy
  have hx := hx vs s1.sq
  have hy := hy ws s2.sq
  rw [ev] at hx; cases hx
  rw [ew] at hy; cases hy
  exact ⟨grow_new nT, .tup (.inl ⟨.inl upd_same, fo.n nT⟩) (.cons (rv.mv (mv_old nT)) (.cons (rw'.mv (mv_old nT)) .nil))⟩
def zpF : Option (List D × Ev) → Re (List D)
  | some ([.lst xs, .lst ys], ε') => .ok (zipD xs ys) ε'
  | some ([.tup xs, .tup ys], ε') => .ok (zipD xs ys) ε'
  | _ => .no
def zipF (fs : List Fv) (ε : Ev) : Re (List D) := zpF (shr fs ε)
theorem zipK {e e2 : Expr} {ta : TA} {p pos tpos : Pos} {elts : List Expr} {kk : Nat} {K : PySem.W.Frag} (h : X.K = K) (hg : Gl X "zip") (hm : X.mg "zip" = none) (ha : PA X [e, e2] ta)
    (hs : starEach [e, e2] X.env = (false, eval e X.env) :: starEach [e2] X.env := by rfl) (hpl : (backTo pos (starEach [e2] X.env)).any (·.1) = false := by rfl) :
    PI X (.Tuple elts kk tpos) (.Call (.Name "zip" p) [e, e2] [] pos) (iZipA K ta) := h ▸ pi_zipA hg hm ha hs hpl
theorem iZ {e e2 : Expr} {da : Dn (List Fv)} {p pos tpos : Pos} {elts : List Expr} {kk : Nat} (c : Cok G X W k) (hg : Gl X "zip") (hm : G.mg "zip" = none) (ha : PAp G X W [e, e2] da)
    (hs : starEach [e, e2] X.env = (false, eval e X.env) :: starEach [e2] X.env := by rfl) (hpl : (backTo pos (starEach [e2] X.env)).any (·.1) = false := by rfl) :
    PIp G X W (.Tuple elts kk tpos) (.Call (.Name "zip" p) [e, e2] [] pos) (fun ε => (da ε).bind zipF) := by
  refine PI.imp (zipK (K := G.K) c.hK hg (by rw [c.hm]; exact hm) ha hs hpl) ?_
  rintro σ H R ⟨C, ε, ok, post⟩
  refine wA_bind (P := PostI G W C σ ε H R) ok post (fun _ _ h => h) id fun fs ε1 vs H1 st1 ok1 vr p => ?_
  unfold zipF at p
  cases q : shr fs ε1 with
  | none => rw [q] at p; exact p.elim
  | some r =>
    obtain ⟨ds, ε2⟩ := r
    rw [q] at p
    obtain ⟨k2, r2, o⟩ := shr_sound ok1 vr q
    unfold zpF at p
    split at p
    · rename_i xs ys ε' hq
      cases hq
      cases r2 with
      | cons ra rr =>
        cases rr with
        | cons rb rr =>
          cases rr
          cases ra with
          | lst e1 n1 s1 =>
            cases rb with
            | lst e2 n2 s2 => exact ⟨_, _, _, _, rfl, .inl ⟨SqL.of e1, SqL.of e2, p _ H1 (st1.trans (Stp.less o)) k2 (ylds_zip (.inl ⟨.inl e1, n1⟩) s1 (.inl ⟨.inl e2, n2⟩) s2)⟩⟩
    · rename_i xs ys ε' hq
      cases hq
      cases r2 with
      | cons ra rr =>
        cases rr with
        | cons rb rr =>
          cases rr
          cases ra with
          | tup e1 s1 =>
            cases rb with
            | tup e2 s2 => exact ⟨_, _, _, _, rfl, .inr ⟨e1.sq, e2.sq, p _ H1 (st1.trans (Stp.less o)) k2 (ylds_zipT e1 s1 e2 s2)⟩⟩
    · exact p.elim
end
end PL

/-! PX8: enumerate over a tuple -/
namespace AB
open PySem PySem.Spec PyProof.Rows L2
open TL (tl)
section
theorem meets_enumT (l : Addr) (items : Array Value) :
    Meets (Builtin.«enumerate.__new__» ⟨[.type "enumerate", .ref l], []⟩) (fun _ R s => s.heap.IsTuple l items ∧
      R (.ok (.ret (.ref (s.heap.push { cls := .type "tuple_iterator", data := .fields #[.ref l, .int 0 0] }).objs.size)))
        { s with heap := (s.heap.push { cls := .type "tuple_iterator", data := .fields #[.ref l, .int 0 0] }).push { cls := .type "enumerate", data := .fields #[.none, .bool false, .ref s.heap.objs.size, rawInt 0, .none, .none] } }) :=
  .of_wp fun prog w A R s h => by
    obtain ⟨hp, g, d, tk, os⟩ := s
    obtain ⟨hL, h⟩ := h
    have hL : Heap.IsTuple (Shared.heap ⟨hp, g, d, tk, os⟩) l items := hL
    have hsub := sub_enumerate
    have q1 : ∀ {A' : Around} {E : Value → Shared → Prop} {Q : Value → Shared → Prop}, Q (.ref hp.objs.size) ⟨hp.push { cls := .type "tuple_iterator", data := .fields #[.ref l, .int 0 0] }, g, d, tk, os⟩ → wpAny (model prog w) A' (pyIter (.ref l)) Q E ⟨hp, g, d, tk, os⟩ :=
      fun q => wpAny_pyIter_tuple hL q
    wp_walk using q1
    refine wpAny_stack_any fun st => wpAny_pure ?_
    split
    · rename_i c _ _ _ _ _
      cases (c == Value.type "enumerate")
      · wp_walk using q1
        exact ⟨_, rfl, h⟩
      · wp_walk using q1
        exact ⟨_, rfl, h⟩
    · wp_walk using q1
      exact ⟨_, rfl, h⟩
variable {prog : Program} {w : World} {A : Around} {E : Value → Shared → Prop} {s : Shared}
theorem call_enumT {l : Addr} {items : Array Value} {Q : Value → Shared → Prop} (hL : s.heap.IsTuple l items)
    (h : ∀ h', IsEnum h' (s.heap.objs.size + 1) s.heap.objs.size 0 .none → h'.IsTupleIter s.heap.objs.size l 0 → h'.objs.size = s.heap.objs.size + 2 →
      (∀ b o, s.heap.get? b = some o → h'.get? b = some o) → Q (.ref (s.heap.objs.size + 1)) { s with heap := h' }) :
    wpAny (model prog w) A (call (.type "enumerate") [.ref l]) Q E s := by
  refine callType_new F.called_enumerate (by decide) (F.typeCall_enumerate_1 _) (F.newCall_enumerate_1 _) (fun obj => F.args_object_init_2 obj _) F.entry_enumerate_new (meets_enumT l items) ⟨hL, ?_⟩
  have hz : (s.heap.push { cls := .type "tuple_iterator", data := .fields #[.ref l, .int 0 0] }).objs.size = s.heap.objs.size + 1 := Heap.size_push ..
  show _ ∧ _
  rw [hz]
  have he : IsEnum ((s.heap.push { cls := .type "tuple_iterator", data := .fields #[.ref l, .int 0 0] }).push
      { cls := .type "enumerate", data := .fields #[.none, .bool false, .ref s.heap.objs.size, rawInt 0, .none, .none] }) (s.heap.objs.size + 1) s.heap.objs.size 0 .none := by
    have := Heap.get?_push_size (s.heap.push { cls := .type "tuple_iterator", data := .fields #[.ref l, .int 0 0] })
      (o := { cls := .type "enumerate", data := .fields #[.none, .bool false, .ref s.heap.objs.size, rawInt 0, .none, .none] }) rfl
    rw [hz] at this; exact this
  refine ⟨⟨_, he, rfl⟩, h _ he ⟨_, Heap.get?_push_of_some _ (Heap.get?_push_size _ rfl), rfl, rfl⟩ (by rw [Heap.size_push, hz]) fun b o x => Heap.get?_push_of_some _ (Heap.get?_push_of_some _ x)⟩
end
def IteT (K : PySem.W.Frag) (a : Addr) : It :=
  ⟨fun i H => ∃ (xs : List V) (x : V), SqT K H a xs ∧ xs[i]? = some x, fun i H v H' => ∃ T x, v = .ref T ∧ H T = none ∧ H' = upd H T (.tup [.int (i : Nat), x]) ∧ ∀ xs, SqT K H a xs → xs[i]? = some x, fun i H => ∃ xs : List V, SqT K H a xs ∧ xs.length = i⟩
theorem turn_enumT {P : Program} {w : World} {K : PySem.W.Frag} {elts : List Expr} {kk : Nat} {tpos : Pos} (a e it : Addr) (items : Array Value) (hae : a ≠ e) (hai : a ≠ it) :
    Turn P w K (.Tuple elts kk tpos) (IteT K a) [e, it] e (fun i h => (∃ old, IsEnum h e it ((i : Nat) : Int) old) ∧ h.IsTupleIter it a i ∧ e ≠ it) where
  mem := List.mem_cons_self
  obj := by
    rintro i h ⟨⟨old, he⟩, ⟨o, ho, hc, hd⟩, _⟩ b hb
    rcases List.mem_cons.mp hb with rfl | hb
    · exact ⟨_, he, fun v q => nomatch q⟩
    · obtain rfl := List.mem_singleton.mp hb
      exact ⟨o, ho, fun v q => by rw [hd] at q; cases q⟩
  keep := by
    rintro i h h' ⟨⟨old, he⟩, ⟨o, ho, hr⟩, hne⟩ k
    exact ⟨⟨old, k e (by simp) _ he⟩, ⟨o, k it (by simp) _ ho, hr⟩, hne⟩
  item := by
    intro X hP hw hK hc i pins s σ H E I hf st hg
    subst hP hw hK
    obtain ⟨⟨old, he⟩, hit, hne⟩ := st
    obtain ⟨xs, x, hq, hx⟩ := hg
    obtain ⟨its, rv, p, hz⟩ := I.tuple hq
    obtain ⟨u, hu, ru⟩ := rv.get hx
    have hel : e < s.heap.objs.size := Heap.lt_size he
    have hil : it < s.heap.objs.size := by obtain ⟨_, q, _⟩ := id hit; exact Heap.lt_size q
    have hi : i < its.toArray.size := by
      have := (List.getElem?_eq_some_iff.mp hu).1
      simpa using this
    refine wpAny_pyNext_enum_itemD (Draws.tuple (A := X.A.in1) (I.ok.hd hc) it a hai its.toArray) he ⟨hit, p⟩ hi hne (by simp [hne, Ne.symm hae]) ?_
    rintro x' h' tk hx' ho ⟨hit', _⟩ hT hsz hk
    have ex : x' = u := by
      have : its.toArray[i]? = some u := by simpa using hu
      rw [hx'] at this
      exact Option.some.inj this
    subst ex
    refine ⟨_, rfl, wpAny_letOwnedTupleGo_enum (s := { s with heap := h', toks := tk + 1 }) ho ?_⟩
    intro h'' he' sb
    have hT2 := (sb.2 _ (Nat.ne_of_gt hel)).trans hT
    have new : ObjOk X.prog X.w (upd H s.heap.objs.size (.tup [.int (i : Nat), x])) h'' s.heap.objs.size (.tup [.int (i : Nat), x]) :=
      ⟨show 2 ≤ sizeLine by decide, _, .cons ⟨_, rfl⟩ (.cons ru .nil), ⟨_, hT2, rfl, _, rfl⟩⟩
    have I1 : Inv X pins σ (upd H s.heap.objs.size (.tup [.int (i : Nat), x])) { s with heap := h'', toks := tk + 1 } := by
      refine I.turnedNew (ch := [e, it]) ?_ hf (Nat.le_refl _) new
      intro b ob hb q
      have n1 : b ≠ e := fun z => hb (by simp [z])
      have n2 : b ≠ it := fun z => hb (by simp [z])
      exact (sb.2 b n1).trans (hk b ob n1 n2 q)
    have e1 : ((i + 1 : Nat) : Int) = (i : Int) + 1 := by omega
    obtain ⟨oi, hoi, hri⟩ := hit'
    refine ⟨.ref s.heap.objs.size, _, I1, rfl, ⟨_, x, rfl, I.hok.fresh (Nat.le_refl _), rfl, fun ys hy => by rw [I.tuple_inj hy hq]; exact hx⟩, ⟨⟨_, by rw [e1]; exact he'⟩, ⟨oi, (sb.2 it (Ne.symm hne)).trans hoi, hri⟩, hne⟩, ?_⟩
    intro b hb
    have hb' : b < s.heap.objs.size := by
      rcases List.mem_cons.mp hb with rfl | hb
      · exact hel
      · obtain rfl := List.mem_singleton.mp hb
        exact hil
    rw [upd_ne (Nat.ne_of_lt hb')]
    exact (hf b hb).1
  done := by
    intro X hP hw hK hc i pins s σ H E I hf st hg
    subst hP hw hK
    obtain ⟨⟨old, he⟩, hit, hne⟩ := st
    obtain ⟨xs, hq, hx⟩ := hg
    obtain ⟨its, rv, p, hz⟩ := I.tuple hq
    obtain ⟨f0, f1, f2, f3, f4, f5⟩ := hf it (by simp)
    have hl := rv.length
    have ei : i = its.toArray.size := by simp; omega
    refine wpAny_pyNext_enum_endD (Draws.tuple (A := X.A.in1) (I.ok.hd hc) it a hai its.toArray) he ⟨ei ▸ hit, p⟩ ?_
    intro h' eb
    exact ⟨rfl, I.turned (t' := s.toks) (fun b o hb q => eb b o hb q) f0 f1 f3 f4 f5⟩
  self := fun A i s Q E st h => wpAny_pyIter_enum st.1.choose_spec h
def iEnumT (K : PySem.W.Frag) (ta : TA) : TI := fun σ H R => ta σ H fun vs H1 => ∃ a xs, vs = [.ref a] ∧ SqT K H1 a xs ∧ R (IteT K a) H1
theorem pi_enumT {X : Cx} {e : Expr} {ta : TA} {p pos tpos : Pos} {elts : List Expr} {kk : Nat} (hg : Gl X "enumerate") (hm : X.mg "enumerate" = none) (ha : PA X [e] ta) (hs : starEach [e] X.env = [(false, eval e X.env)] := by rfl) :
    PI X (.Tuple elts kk tpos) (.Call (.Name "enumerate" p) [e] [] pos) (iEnumT X.K ta) := by
  refine ⟨fun pins s σ H R I h => ?_⟩
  refine Call_ (ld_blt I hg hm boot_enumerate (PyProof.Rows.callWith_type1 (thn (ha.run pos pins s σ H _ I h) fun us s1 ⟨vs, H1, I1, r1, q1⟩ => ?_) hs rfl))
  obtain ⟨a, xs, ex, hq, q⟩ := q1
  subst ex
  cases r1 with
  | cons r rr =>
    cases rr
    cases r
    obtain ⟨its, rv, p', hz⟩ := I1.tuple hq
    have la : a < s1.heap.objs.size := by obtain ⟨o, ho, _⟩ := p'; exact Heap.lt_size ho
    refine call_enumT p' fun h' he hit hsz hk => wpAny_pyIter_enum he ?_
    have I2 : Inv X pins σ H1 { s1 with heap := h' } := I1.kept (t' := s1.toks) hk
    refine ⟨s1.heap.objs.size + 1, [s1.heap.objs.size + 1, s1.heap.objs.size], _, _, H1, rfl, I2, turn_enumT a (s1.heap.objs.size + 1) s1.heap.objs.size its.toArray (Nat.ne_of_lt (Nat.lt_succ_of_lt la)) (Nat.ne_of_lt la), ⟨⟨.none, he⟩, hit, Nat.succ_ne_self _⟩, fun b hb => ?_, q⟩
    have e' : b = s1.heap.objs.size + 1 ∨ b = s1.heap.objs.size := by simpa using hb
    have hle : s1.heap.objs.size ≤ b := by
      rcases e' with z | z
      · rw [z]; exact Nat.le_add_right _ _
      · rw [z]; exact Nat.le_refl _
    exact I1.fpOk hle (I1.hok.fresh hle)
theorem enumTK {X : Cx} {K : PySem.W.Frag} {e : Expr} {ta : TA} {p pos tpos : Pos} {elts : List Expr} {kk : Nat} (h : X.K = K) (hg : Gl X "enumerate") (hm : X.mg "enumerate" = none) (ha : PA X [e] ta)
    (hs : starEach [e] X.env = [(false, eval e X.env)] := by rfl) :
    PI X (.Tuple elts kk tpos) (.Call (.Name "enumerate" p) [e] [] pos) (iEnumT K ta) := h ▸ pi_enumT hg hm ha hs
end AB
namespace PL
open PySem PySem.Spec PyProof.Rows L2 AB
open TL (tl)
section
variable {G : Gx} {X : Cx} {W : WX} {H : Hp} {F : Addr → Prop} {k : Nat}
theorem ylds_enumT {a : Addr} {vs : List V} {ds : List D} (s : ST G H F a vs) (r : RpAll G H F vs ds) : Ylds G H F (IteT G.K a) (enumD ds) := by
  intro i H1 F1 m fo
  have s1 := s.mv m
  have r1 := r.mv m
  refine ⟨fun d e => ?_, fun e => ⟨vs, s1.sq, by rw [r.length, e, enumD_len]⟩⟩
  obtain ⟨y, ey, rfl⟩ := enumD_get e
  obtain ⟨v, ev, rv⟩ := r1.get' ey
  refine ⟨⟨vs, v, s1.sq, ev⟩, fun x H2 hy => ?_⟩
  obtain ⟨T, w, rfl, nT, rfl, hy⟩ := hy
  have := hy vs s1.sq
  rw [ev] at this; cases this
  exact ⟨grow_new nT, .tup (.inl ⟨.inl upd_same, fo.n nT⟩) (.cons (.int _) (.cons (rv.mv (mv_old nT)) .nil))⟩
def enF3 : Option (List D × Ev) → Re (List D)
  | some ([.lst ds], ε') => .ok (enumD ds) ε'
  | some ([.str l], ε') => .ok (enumD (chrsD l)) ε'
  | some ([.tup ds], ε') => .ok (enumD ds) ε'
  | _ => .no
def enumF3 (fs : List Fv) (ε : Ev) : Re (List D) := enF3 (shr fs ε)
/-- enumerate over a list, a text, a tuple -/
theorem iEn3 {e : Expr} {da : Dn (List Fv)} {p pos tpos : Pos} {elts : List Expr} {kk : Nat} (hK : X.K = G.K) (hg : Gl X "enumerate") (hm : X.mg "enumerate" = none) (ha : PAp G X W [e] da)
    (hs : starEach [e] X.env = [(false, eval e X.env)] := by rfl) : PIp G X W (.Tuple elts kk tpos) (.Call (.Name "enumerate" p) [e] [] pos) (fun ε => (da ε).bind enumF3) := by
  refine PI.imp (PI.or (iEn hK hg hm ha hs) (enumTK (K := G.K) hK hg hm ha hs)) ?_
  rintro σ H R ⟨C, ε, ok, post⟩
  have old : ∀ (d : D) (ε2 : Ev) (fs : List Fv) (ε1 : Ev), da ε = .ok fs ε1 → shr fs ε1 = some ([d], ε2) → (∀ xs, d ≠ .tup xs) → enF3 (some ([d], ε2)) = enumF fs ε1 := by
    intro d ε2 fs ε1 _ q hd
    unfold enumF
    rw [q]
    cases d <;> first | rfl | exact absurd rfl (hd _)
  cases q0 : da ε with
  | no => simp only [q0] at post; exact post.elim
  | exc x ε' =>
    simp only [q0] at post
    exact .inl ⟨C, ε, ok, by simp only [q0]; exact post⟩
  | ok fs ε1 =>
    simp only [q0, Re.bind] at post
    unfold enumF3 at post
    cases q1 : shr fs ε1 with
    | none => rw [q1] at post; exact post.elim
    | some r =>
      obtain ⟨ds, ε2⟩ := r
      rw [q1] at post
      cases ds with
      | nil => exact post.elim
      | cons d ds =>
        cases ds with
        | cons d' ds => cases d <;> exact post.elim
        | nil =>
          by_cases hd : ∃ xs, d = .tup xs
          · obtain ⟨xs, rfl⟩ := hd
            refine .inr ⟨C, ε, ok, ?_⟩
            rw [q0]
            intro vs H1 st k vr
            obtain ⟨k2, r2, o⟩ := shr_sound k vr q1
            cases r2 with
            | cons r2 rn =>
              cases rn
              cases r2 with
              | tup s r => exact ⟨_, _, rfl, s.sq, post _ H1 (st.trans (Stp.less o)) k2 (ylds_enumT s r)⟩
          · refine .inl ⟨C, ε, ok, ?_⟩
            simp only [q0, Re.bind]
            rw [← old d ε2 fs ε1 q0 q1 (fun xs z => hd ⟨xs, z⟩)]
            exact post
end
end PL

/-! PX9: a call that only reads what it gets, and hands back nothing that holds other values: what is owned stays owned -/
namespace PL
open PySem PySem.Spec PyProof.Rows L2 AB LamX
open TL (tl)
def noIns : D → Bool
  | .ins _ _ => false
  | _ => true
def callRk (m : Nat) (f : List D → Rf) (ε : Ev) : Option (List D) → Re Fv
  | some ds => if ds.length = m ∧ ds.all noIns = true then (match f ds with
      | .ok (.sh d) [] => if flatD d = true then .ok (.sh d) ε else .no
      | .exc x [] => if x.fs.all (fun p => flatD p.2) = true then .exc x ε else .no
      | _ => .no) else .no
  | none => .no
def callRF (m : Nat) (f : List D → Rf) (fs : List Fv) (ε : Ev) : Re Fv := callRk m f ε (rds ε fs)
def dCallR (m : Nat) (f : List D → Rf) (da : Dn (List Fv)) : Dn Fv := fun ε => (da ε).bind (callRF m f)
section
variable {G : Gx} {X : Cx} {W : WX} {C : Fr} {σ : L2.St} {ε : Ev} {H H1 : Hp} {F F' : Addr → Prop} {k : Nat}
theorem Rp.flat {v : V} {d : D} (r : Rp G H F v d) (h : flatD d = true) : Rp G H1 F' v d := by
  cases d <;> first | (cases h; done) | (cases r; constructor; done) | (cases r; constructor; assumption)
theorem RpAll.flat {vs : List V} {ds : List D} (r : RpAll G H F vs ds) (h : ds.all flatD = true) : RpAll G H1 F' vs ds := by
  induction vs generalizing ds with
  | nil => cases r; exact .nil
  | cons v vs ih =>
    cases r with
    | cons a b =>
      rw [List.all_cons, Bool.and_eq_true] at h
      exact .cons (a.flat h.1) (ih b h.2)
/-- what is read, leaning on nothing -/
theorem Rt.free {v : V} {d : D} (r : Rt G H F v d) (h : noIns d = true) : Rp G H (fun _ => False) v d := by
  have m : Mv H H F (fun _ => False) := Mv.less fun _ z => z.elim
  cases d with
  | lst ds => obtain ⟨a, vs, rfl, e, r⟩ := r; exact .lst e (fun z => z) (r.mv m)
  | dct es => obtain ⟨a, vs, rfl, e, q, r⟩ := r; exact .dct e (fun z => z) q (r.mv m)
  | dcT es => obtain ⟨a, vs, rfl, e, q, r⟩ := r; exact .dcT e (fun z => z) q (r.mv m)
  | ins c es => cases h
  | non => exact Rp.mv m r
  | bl b => exact Rp.mv m r
  | int i => exact Rp.mv m r
  | str l => exact Rp.mv m r
  | tup xs => exact Rp.mv m r
  | ty n => exact Rp.mv m r
  | ref a => exact Rp.mv m r
  | flz xs => exact Rp.mv m r
theorem Ok.kpt (k : Ok G C H σ ε) (kp : Kpt G [] H H1) : Ok G C H1 σ ε ∧ Stp σ ε σ ε H H1 := by
  obtain ⟨kp, al, tb⟩ := kp
  have kp : ∀ b o, H b = some o → NT o → H1 b = some o := fun b o e nt => kp b o e (by simp) nt
  have st : Stp σ ε σ ε H H1 := ⟨fun b o e _ nt => kp b o e nt, fun _ h => .inl h, al⟩
  have m := st.mv (C := C)
  refine ⟨⟨k.len, fun b o e n nt => kp b o (k.kept b o e n nt) nt, k.inj, k.new, k.nf, fun p z e => k.f0 p z (al p e),
    fun i d e => ?_, fun i d e => ?_, fun i d e => ?_, k.ioA, k.ioB, tb, fun b e => k.h0 b (al b e)⟩, st⟩
  · obtain ⟨v, e1, r⟩ := k.sh i d e; exact ⟨v, e1, r.mv m⟩
  · obtain ⟨v, e1, r⟩ := k.ow i d e; obtain ⟨o, eo⟩ := r.some; exact ⟨v, e1, r.mv m (by rw [eo, kp _ _ eo (r.nt eo)])⟩
  · obtain ⟨v, e1, r⟩ := k.io i d e; obtain ⟨o, eo⟩ := r.some; exact ⟨v, e1, r.mv m (by rw [eo, kp _ _ eo (r.nt eo)])⟩
theorem argFree : ∀ {mask : List Bool} {vs : List V} {ds : List D}, RtAll G H F vs ds → ds.all noIns = true → ds.length = mask.length → mask.all (!·) = true → ArgR G H (fun _ => False) mask vs ds ∧ ioAs mask vs = []
  | [], vs, ds, r, _, hl, _ => by
    cases r with
    | nil => exact ⟨.nil, rfl⟩
    | cons a b => simp at hl
  | b :: m, vs, ds, r, hn, hl, hm => by
    cases r with
    | nil => simp at hl
    | cons a r =>
      rw [List.all_cons, Bool.and_eq_true] at hn hm
      have hb : b = false := by simpa using hm.1
      subst hb
      obtain ⟨i1, i2⟩ := argFree (mask := m) r hn.2 (by simpa using hl) hm.2
      refine ⟨.val (a.free hn.1) i1, ?_⟩
      rename_i v _ _ _
      cases v <;> exact i2
theorem callR_sound {mask : List Bool} {f : List D → Rf} {fs : List Fv} {vs : List V} {Q : VK} (hm : mask.all (!·) = true) (ok : Ok G C H σ ε) (vr : VRs G C H σ ε vs fs) (p : PostE G W C σ ε H Q (callRF mask.length f fs ε)) : spP G mask f vs H Q (WE W σ) := by
  unfold callRF at p
  cases q : rds ε fs with
  | none => rw [q] at p; exact p.elim
  | some ds =>
    rw [q] at p
    unfold callRk at p
    dsimp only at p
    split at p
    · rename_i hc
      obtain ⟨a, io⟩ := argFree (vr.rt ok q) hc.2 hc.1 hm
      refine ⟨fun _ => False, ds, fun _ z => z.elim, ok.tb, a, by rw [io]; exact List.nodup_nil, ?_⟩
      rw [io]
      split at p
      · rename_i d e
        rw [e]
        split at p
        · rename_i hf
          intro v H' kp rr
          obtain ⟨_, r⟩ := rr
          obtain ⟨k2, st⟩ := ok.kpt kp
          exact p v H' st k2 (r.flat hf)
        · exact p.elim
      · rename_i x e
        rw [e]
        split at p
        · rename_i hf
          intro c d H' kp _ xr
          obtain ⟨k2, st⟩ := ok.kpt kp
          refine p c d H' st k2 ?_
          obtain ⟨g, xr⟩ := xr
          refine ⟨g, xr.imp id ?_⟩
          rintro ⟨a, ws, e1, e2, e3, r⟩
          refine ⟨a, ws, e1, e2, e3, r.flat ?_⟩
          rw [List.all_map]
          exact hf
        · exact p.elim
      · exact p.elim
    · exact p.elim
section
variable {j : Nat} {f : Addr} {fd : FuncData} {ps : List Str} {mask : List Bool} {den : List D → Rf} {x : Str} {p pos : Pos} {e : Expr} {es : List Expr} {da : Dn (List Fv)}
theorem eCallR (c : Cok G X W k) (F : FnP G j f fd ps mask den) (hj : j ≤ k) (hg : Gl X x) (hm : G.mg x = some (.ref f)) (hk : PySem.W.keepIn G.K (.ref f) = true) (hb : Binds G.K fd ps []) (hmask : mask.all (!·) = true)
    (ha : PAp G X W (e :: es) da) (hdb : (x == ("__debug__" : Str)) = false := by decide) (he : starEach (e :: es) X.env = (false, eval e X.env) :: starEach es X.env := by rfl) (hpl : (backTo pos (starEach es X.env)).any (·.1) = false := by rfl) :
    PEp G X W (.Call (.Name x p) (e :: es) [] pos) (dCallR mask.length den da) := by
  refine PE.imp (pe_callG c F hj hg hm hk hb ha hdb he hpl) ?_
  rintro σ H Q ⟨C, ε, ok, post⟩
  refine wA_bind (P := PostE G W C σ ε H Q) ok post (fun _ _ h => h) id fun fs ε1 vs H1 st1 ok1 vr p => ?_
  exact callR_sound hmask ok1 vr (PostE.from st1 p)
end
end
end PL

/-! PXA: a call that leaves values to their defaults (numbers) -/
namespace PL
open PySem PySem.Spec PyProof.Rows L2 AB
open TL (tl)
/-- a def whose binding is told apart -/
structure FX0 (K : PySem.W.Frag) (mg : Str → Option Value) (x : Str) (st : Stmt) (f : Addr) (fd : FuncData) : Prop where
  F : Fun K x x st f fd
  g : mg x = some (.ref f)
/-- one keyword-only default -/
theorem kwBinds {K : PySem.W.Frag} {x kw : Str} {st : Stmt} {v : Int} {tk : Tok} {ps : List Str} {f D : Addr} {oc : Value} {od an : Option Addr} {osl : Array (Option Value)} {doc pm cdv ct : Value} (n : Nat)
    (l : K.lookup f = some ⟨oc, od, .func (PySem.W.fnOf x x (defArgs st) (defBody st) (defScope st) .none (.ref D) doc pm an cdv ct), osl⟩) (c : PySem.W.codeIn K cdv x = true) (k : PySem.W.keepIn K (.ref f) = true)
    (kd : PySem.W.nsIn K D kw = some (some (.int v tk)))
    (h : ∀ (D : Addr) (doc pm : Value) (an : Option Addr) (cdv ct : Value) (us : List Value) (z : Value), us.length = n → KwChain D [(kw, z)] (bindArgs (PySem.W.fnOf x x (defArgs st) (defBody st) (defScope st) .none (.ref D) doc pm an cdv ct) ⟨us, []⟩) (ps.zip (us ++ [z]))) (hp : n + 1 = ps.length := by rfl) :
    ∃ ds, Vals [V.int v] ds ∧ Binds K (PySem.W.fnOf x x (defArgs st) (defBody st) (defScope st) .none (.ref D) doc pm an cdv ct) ps ds := by
  have F : FunD K x x (defArgs st) (defBody st) (defScope st) [] [(kw, V.int v)] f (PySem.W.fnOf x x (defArgs st) (defBody st) (defScope st) .none (.ref D) doc pm an cdv ct) :=
    ⟨⟨oc, od, .none, .ref D, doc, pm, an, cdv, ct, osl, rfl, l, c, .inl ⟨rfl, rfl⟩, .inr ⟨D, rfl, fun q hq => by
      obtain rfl := List.mem_singleton.mp hq
      exact ⟨_, kd, ⟨_, rfl⟩⟩⟩⟩, k⟩
  exact F.binds0 n (by simp) (by simp [hp]) fun D doc pm an cdv ct us ks h1 h2 => match ks, h2 with
    | [z], _ => h D doc pm an cdv ct us z h1
section
variable {G : Gx} {X : Cx} {W : WX} {C : Fr} {σ : L2.St} {ε : Ev} {H H' : Hp} {F : Addr → Prop} {k : Nat}
theorem run_fnD {CX : CXT} {j : Nat} {f : Addr} {fd : FuncData} {ps : List Str} {sp : Sp} {E : L2.St → XK} {pins : List (Addr × Obj)} {s : Shared} {Q : VK} {us ds : List Value} {vs dvs : List V} (F : FnG X.prog X.w X.K X.mg X.base CX j f fd ps sp)
    (hr : Room j X.A) (hg : X.A.guards = some []) (hb : Binds X.K fd ps ds) (hd : Vals dvs ds) (hx : PassesAt CX X σ (E σ)) (I : L2.Inv X pins σ H s) (r : Vals vs us) (h : sp (vs ++ dvs) H Q (E σ)) :
    wpAny (model X.prog X.w) X.A (call (.ref f) us) (EP X pins σ Q) X.xe s := by
  have r2 := r.append hd
  have hl : (us ++ ds).length = ps.length := by rw [← r2.length]; exact F.gl _ _ _ _ h
  have b := hb s us I.kIn hl
  refine wpAny_call (codeAny_mono (F.go X.A X.stack s H ⟨us, []⟩ (us ++ ds) (vs ++ dvs) Q (E σ) hr hg I.env0 b r2 h) fun r s' hq => ?_)
  cases r with
  | error e => exact hx pins H s e s' I hq
  | ok fl =>
    cases fl with
    | ret u => exact I.after hq
    | next => exact False.elim hq
    | brk => exact False.elim hq
    | cont => exact False.elim hq
section
variable {j : Nat} {f : Addr} {fd : FuncData} {ps : List Str} {mask : List Bool} {den : List D → Rf} {x : Str} {p pos : Pos} {e : Expr} {es : List Expr} {da : Dn (List Fv)}
def dCallD (mask : List Bool) (f : List D → Rf) (v : Int) (da : Dn (List Fv)) : Dn Fv := fun ε => (da ε).bind fun fs ε1 => callF mask f (fs ++ [.sh (.int v)]) ε1
theorem eCallD {ds : List Value} {v : Int} (c : Cok G X W k) (F : FnP G j f fd ps mask den) (hj : j ≤ k) (hg : Gl X x) (hm : G.mg x = some (.ref f)) (hk : PySem.W.keepIn G.K (.ref f) = true) (hb : Binds G.K fd ps ds) (hd : Vals [V.int v] ds)
    (ha : PAp G X W (e :: es) da) (hdb : (x == ("__debug__" : Str)) = false := by decide) (he : starEach (e :: es) X.env = (false, eval e X.env) :: starEach es X.env := by rfl) (hpl : (backTo pos (starEach es X.env)).any (·.1) = false := by rfl) :
    PEp G X W (.Call (.Name x p) (e :: es) [] pos) (dCallD mask den v da) := by
  have F' : FnG X.prog X.w X.K X.mg X.base (L2.CX X.prog X.w) j f fd ps (spP G mask den) := by rw [c.hP, c.hw, c.hK, c.hm, c.hb]; exact F
  rw [← c.hm] at hm
  rw [← c.hK] at hk hb
  refine ⟨fun pins s σ H Q I h => ?_⟩
  obtain ⟨C, ε, ok, post⟩ := h
  have h : wA G W da σ H fun vs H1 => spP G mask den (vs ++ [V.int v]) H1 Q (WE W σ) := by
    refine wA_bind (P := PostE G W C σ ε H Q) ok post (fun _ _ h => h) id fun fs ε1 vs H1 st1 ok1 vr p => ?_
    exact callF_sound ok1 (vr.app (.sh (.int v) .nil)) (PostE.from st1 p)
  refine wpAny_Call_Name_kw (ld_glob I hg hm ?_ hdb)
  refine PySem.W.callWith_K (h₀ := X.base) I.ok.mod.kin hk (thn (ha.run pos pins s σ H _ I h) fun us s1 ⟨vs, H1, I1, r, q⟩ => ⟨I1.kIn, ?_⟩) he hpl
  exact run_fnD F' (c.hr.mono hj) c.gd hb hd (passAt c.tk σ) I1 r q
end
end
end PL

/-! PXR: a tuple, turned round -/
namespace HT
open PySem PySem.Spec PyProof.Rows
section
variable {prog : Program} {w : World} {A : Around} {E : Value → Shared → Prop} {s : Shared}
theorem adjust_back (n : Nat) : Builtin.Slice.sliceAdjust none none (-1) (n : Int) = ((n : Int) - 1, -1) := rfl
theorem places_back (n : Nat) : Builtin.Slice.slicePlaces ((n : Int) - 1) (-1) (-1) = n := by
  unfold Builtin.Slice.slicePlaces
  have h1 : ¬ ((-1 : Int) > 0) := by decide
  have h2 : (- -1 : Int) = 1 := by decide
  simp only [h1, if_false, h2, Int.ediv_one]
  split <;> omega
theorem pick_back (xs : Array Value) : ((List.range xs.size).filterMap fun (m : Nat) => xs[((xs.size : Int) - 1 + (m : Int) * -1).toNat]?).toArray = xs.toList.reverse.toArray := by
  have e : (fun (m : Nat) => xs[((xs.size : Int) - 1 + (m : Int) * -1).toNat]?) = (fun k => xs[k]?) ∘ fun (m : Nat) => ((xs.size : Int) - 1 - (m : Int)).toNat := by
    funext m
    have : ((xs.size : Int) - 1 + (m : Int) * -1).toNat = ((xs.size : Int) - 1 - (m : Int)).toNat := by omega
    show xs[_]? = xs[_]?
    rw [this]
  rw [e, ← List.filterMap_map]
  have e2 : (List.range xs.size).map (fun (m : Nat) => ((xs.size : Int) - 1 - (m : Int)).toNat) = (List.range xs.size).map fun k => xs.size - 1 - k := by
    apply List.map_congr_left
    intro k hk
    omega
  rw [e2, PySem.W.krv_range, List.filterMap_reverse, PySem.W.krv_all]
theorem sliceApplied_back {sl : Addr} {vs : Value} {n : Nat} {Q : Int × Int × Nat → Shared → Prop} (hs : s.heap.IsSliceOf sl .none .none vs) (ps : IsPart vs (some (-1)))
    (h : Q ((n : Int) - 1, -1, n) s) : wpAny (model prog w) A (Builtin.Slice.sliceApplied (.ref sl) (pure (n : Int))) Q E s := by
  obtain ⟨os, hos, hcs, hds⟩ := id hs
  unfold Builtin.Slice.sliceApplied Builtin.Slice.sliceFields
  refine wpAny_bind (wpAny_bind (wpAny_field hos hds (x := .none) rfl (wpAny_bind (wpAny_field hos hds (x := .none) rfl (wpAny_bind (wpAny_field hos hds (x := vs) rfl (wpAny_pure ?_)))))))
  refine wpAny_bind (slicePart_ ps ?_)
  show wpAny _ _ (if ((-1 : Int) == 0) = true then _ else _) _ _ s
  rw [if_neg (by decide)]
  refine wpAny_bind (slicePart_none (wpAny_bind (slicePart_none (wpAny_bind (wpAny_pure ?_)))))
  show wpAny _ _ (match Builtin.Slice.sliceAdjust none none (-1) (n : Int) with | (lo, hi) => pure (lo, (-1 : Int), Builtin.Slice.slicePlaces lo hi (-1))) _ _ s
  rw [adjust_back n]
  show wpAny _ _ (pure ((n : Int) - 1, (-1 : Int), Builtin.Slice.slicePlaces ((n : Int) - 1) (-1) (-1))) _ _ s
  rw [places_back]
  exact wpAny_pure h
theorem getItem_tuple_back {t sl : Addr} {items : Array Value} {vs : Value} {Q : Value → Shared → Prop} (ht : IsTup s.heap t items) (hs : s.heap.IsSliceOf sl .none .none vs) (ps : IsPart vs (some (-1)))
    (h : Q (.ref s.heap.objs.size) { s with heap := s.heap.push { cls := .type "tuple", data := .seq items.toList.reverse.toArray } })
    (hsz : items.size ≤ sizeLine) : wpAny (model prog w) A (getItem (.ref t) (.ref sl)) Q E s := by
  have hrev : sizeOk (.seq items.toList.reverse.toArray) := by
    show items.toList.reverse.toArray.size ≤ sizeLine
    rw [List.size_toArray, List.length_reverse, Array.length_toList]
    omega
  obtain ⟨os, hos, hcs, hds⟩ := id hs
  have hTs : s.TypeIs (.ref sl) "slice" := ⟨os, hos, hcs⟩
  unfold getItem
  try with_reducible refine wpAny_holding ?_
  first | refine wpAny_bind (wpAny_pure ?_) | skip
  refine wpAny_bind (wpAny_sequenceKey ht.typeIs (by decide) ?_)
  refine wpAny_bind (wpAny_callSpecial?_slot (name := Str.ofString "__getitem__") ht.typeIs PyProof.Rows.slot_tuple_getitem
    (wpAny_call_entry PyProof.Rows.slot_tuple_getitem ht.typeIs entry_tuple_getitem ?_ (args_tuple_getitem _ _)))
  show wpAny _ _ (Builtin.Tuple.tupleItemsOf (.ref t) >>= _) _ _ s
  refine wpAny_bind (tupleItemsOf_ ht ?_)
  refine wpAny_bind (wpAny_typeOf hTs ?_)
  rw [if_pos (by decide)]
  refine wpAny_bind (sliceApplied_back hs ps ?_)
  have hno : ¬ ((((items.size : Nat) : Int) - 1 == 0 && (-1 : Int) == 1 && items.size == items.size) = true) := by
    have : ((-1 : Int) == 1) = false := by decide
    rw [this, Bool.and_false, Bool.false_and]
    exact Bool.false_ne_true
  show wpAny _ _ (if (((items.size : Nat) : Int) - 1 == 0 && (-1 : Int) == 1 && items.size == items.size) = true then _ else _) _ _ s
  rw [if_neg hno, pick_back]
  first
    | exact wpAny_bind (m := Builtin.Tuple.tupleExact _) (wpAny_newObj_type (wpAny_pure ⟨_, rfl, wpAny_pure h⟩) hrev)
    | exact wpAny_bind (m := Builtin.Tuple.tupleExact _) (wpAny_newObj_type (wpAny_bind (wpAny_pure (wpAny_pure ⟨_, rfl, wpAny_pure h⟩))) hrev)
    | exact wpAny_bind (wpAny_bind (m := Builtin.Tuple.tupleExact _) (wpAny_newObj_type (wpAny_pure (wpAny_pure ⟨_, rfl, wpAny_pure h⟩)) hrev))
    | exact wpAny_bind (wpAny_bind (m := Builtin.Tuple.tupleExact _) (wpAny_newObj_type (wpAny_pure ⟨_, rfl, wpAny_pure h⟩) hrev))
end
end HT
namespace PL
open PySem PySem.Spec PyProof.Rows L2 AB
open TL (tl)
section
variable {X : Cx}
def tRevT (K : PySem.W.Frag) (te : TE) : TE := fun σ H Q => te σ H fun x H1 => ∃ a xs, x = .ref a ∧ SqT K H1 a xs ∧ ∀ p, H1 p = none → Q (.ref p) (upd H1 p (.tup xs.reverse))
theorem pe_revT {e : Expr} {te : TE} {k : Nat} {p1 p2 p3 pos : Pos} (he : PE X e te) : PE X (.Subscript e (.Slice none none (some (.UnaryOp .USub (.Constant (.int 1) k p1) p2)) p3) pos) (tRevT X.K te) := by
  refine ⟨fun pins s σ H Q I h => ?_⟩
  refine Subscript_ (thn (he.run pins s σ H _ I h) fun v s1 ⟨x, H1, I1, r1, q1⟩ => ?_)
  obtain ⟨a, xs, ex, hx, q⟩ := q1
  subst ex
  cases r1
  have hst : PO X (some (.UnaryOp .USub (.Constant (.int 1) k p1) p2)) (tPart (tUn (rU fun i => .int (-i)) (tC (.int 1)))) := po_some (pe_un un_neg pe_int)
  refine wpAny_Slice (thn (po_none.run pins s1 σ H1 (fun o H2 => o = none ∧ H2 = H1) I1 ⟨rfl, rfl⟩) fun vl s2 ⟨l, H2, I2, pl, el, e2⟩ => ?_)
  subst el e2
  refine thn (po_none.run pins s2 σ H2 (fun o H3 => o = none ∧ H3 = H2) I2 ⟨rfl, rfl⟩) fun vu s3 ⟨u, H3, I3, pu, eu, e3⟩ => ?_
  subst eu e3
  refine thn (hst.run pins s3 σ H3 (fun o H4 => o = some (-1) ∧ H4 = H3) I3 ⟨1, rfl, -1, rfl, rfl, rfl⟩) fun vs s4 ⟨o, H4, I4, ps, eo, e4⟩ => ?_
  subst eo e4
  obtain rfl : vl = .none := by cases pl; rfl
  obtain rfl : vu = .none := by cases pu; rfl
  have I5 : Inv X pins σ H4 { s4 with heap := s4.heap.push { cls := .type "slice", data := .fields #[.none, .none, vs] } } := I4.kept (t' := s4.toks) fun b ob q => Heap.get?_push_of_some _ q
  obtain ⟨its, r, ht, hz⟩ := I5.tuple hx
  have hlen := r.length
  show wpAny (model X.prog X.w) X.A (subscriptTail e (.Slice none none (some (.UnaryOp .USub (.Constant (.int 1) k p1) p2)) p3) (.ref a) (.ref s4.heap.objs.size)) (EP X pins σ Q) X.xe { s4 with heap := s4.heap.push { cls := .type "slice", data := .fields #[.none, .none, vs] } }
  refine tail_any (ops := [.ref a, .ref s4.heap.objs.size]) ht.typeIs PyProof.Rows.slot_tuple_getitem.lookup ?_ (by with_unfolding_all rfl)
  refine HT.getItem_tuple_back ht (Heap.IsSliceOf.new _ _ _ vs) ps ?_ (by rw [List.size_toArray]; omega)
  refine ⟨.ref _, _, I5.laid (t' := s4.toks) (o := .tup xs.reverse) (fun b ob q => Heap.get?_push_of_some _ q) (Nat.le_refl _) ?_, rfl, q _ (I5.hok.fresh (Nat.le_refl _))⟩
  exact ⟨by rw [List.length_reverse]; exact hz, _, r.reverse, IsTup.new _ _⟩
end
section
variable {G : Gx} {X : Cx} {W : WX} {k : Nat} {H : Hp} {F : Addr → Prop}
theorem RpAll.rev : ∀ {vs : List V} {ds : List D}, RpAll G H F vs ds → RpAll G H F vs.reverse ds.reverse
  | _, _, .nil => .nil
  | _, _, .cons r rs => by
    rw [List.reverse_cons, List.reverse_cons]
    exact RpAll.app (RpAll.rev rs) (.cons r .nil)
/-- t[::-1] -/
def revTD : D → Option Fv
  | .tup ds => some (.sh (.tup ds.reverse))
  | _ => none
theorem eRevT {e : Expr} {de : Dn Fv} {j : Nat} {p1 p2 p3 pos : Pos} (c : Cok G X W k) (he : PEp G X W e de) : PEp G X W (.Subscript e (.Slice none none (some (.UnaryOp .USub (.Constant (.int 1) j p1) p2)) p3) pos) (d1 revTD de) := by
  refine e1 (r := fun x H Q => ∃ a xs, x = .ref a ∧ SqT G.K H a xs ∧ ∀ p, H p = none → Q (.ref p) (upd H p (.tup xs.reverse))) (c.hK ▸ pe_revT he) ?_
  intro H F x d fv Q fo r h p
  cases d with
  | tup ds =>
    have r : Rp G H F x (.tup ds) := r
    cases r with
    | @tup a vs _ s ra =>
      cases h
      exact ⟨a, vs, rfl, s.sq, fun q hq => p.tup ra.rev hq (fo.n hq)⟩
  | _ => cases h
end
end PL

/-! PXC: what the end must say of an own error class -/
namespace PL
open PySem PySem.Spec PySem.W PySem.Calls PyProof.Rows L2 AB LamX
open TL (tl)
/-- the code object at cda is of the program's file -/
def fileB (P : Program) (K : PySem.W.Frag) (cda : Addr) : Bool := match K.lookup cda with
  | some ⟨_, _, .fields vs, _⟩ => (match (vs[2]? : Option Value) with | some (.str f _) => (P.main.file : Str) == f | _ => false)
  | _ => false
theorem fileB_ok {P : Program} {K : PySem.W.Frag} {cda : Addr} (h : fileB P K cda = true) : ∃ ccl cdd vs ccs file tf, K.lookup cda = some ⟨ccl, cdd, .fields vs, ccs⟩ ∧ vs[2]? = some (.str file tf) ∧ ((P.main.file : Str) == file) = true := by
  unfold fileB at h
  split at h
  · rename_i a b vs d e
    split at h
    · rename_i f t e2
      exact ⟨_, _, _, _, f, t, e, e2, h⟩
    · cases h
  · cases h
def cellB (K : PySem.W.Frag) (cc C : Addr) : Bool := match K.lookup cc with
  | some ⟨_, _, .cell (some (.ref D)), _⟩ => D == C
  | _ => false
theorem cellB_ok {K : PySem.W.Frag} {cc C : Addr} (h : cellB K cc C = true) : ∃ cl cld csl, K.lookup cc = some ⟨cl, cld, .cell (some (.ref C)), csl⟩ := by
  unfold cellB at h
  split at h
  · rename_i a b D d e
    exact ⟨_, _, _, by rw [e, beq_iff_eq.mp h]⟩
  · cases h
def xhdB (K : PySem.W.Frag) (C : Addr) : Bool := xfB K C && (decide (PySem.W.findIn K (.ref C) "__class__" = some (some (.builtin "object.__class__"))) && (decide (PySem.W.specialIn K (.builtin "object.__class__") "__get__" = some (some (.builtin "getset_descriptor.__get__"))) &&
  (decide (PySem.W.takesIn K (.builtin "object.__class__") = some true) && (decide (PySem.W.mroIn K C (.type "object") = some true) && ((PySem.W.clsIn K C).isSome && decide (PySem.W.exmOne K (.ref C) (.ref C) = some true))))))
theorem xhdB_ok {K : PySem.W.Frag} {C : Addr} (h : xhdB K C = true) : XHd K C := by
  obtain ⟨h1, h⟩ := Bool.and_eq_true_iff.mp h
  obtain ⟨h2, h⟩ := Bool.and_eq_true_iff.mp h
  obtain ⟨h3, h⟩ := Bool.and_eq_true_iff.mp h
  obtain ⟨h4, h⟩ := Bool.and_eq_true_iff.mp h
  obtain ⟨h5, h⟩ := Bool.and_eq_true_iff.mp h
  obtain ⟨h6, h7⟩ := Bool.and_eq_true_iff.mp h
  have x := xfB_ok h1
  exact ⟨x, ⟨x.ga, x.gg, x.exC, x.hdC, of_decide_eq_true h2, of_decide_eq_true h3, of_decide_eq_true h4, of_decide_eq_true h5⟩, h6, of_decide_eq_true h7⟩
section
variable {G : Gx} {x : Str} {C fI : Addr} {B nw it : String} {bm : List Value} {nm q : Str} {N : Addr} {bs : List Value} {sn : List Str} {sub : List Value} {ab : Bool} {col : Option Bool} {dd : Option Addr} {k0 k1 k2 k3 k5 : Option Value}
variable {qn : Str} {oc : Value} {od : Option Addr} {doc pm : Value} {an : Option Addr} {cda cc : Addr} {ct : Value} {osl : Array (Option Value)}
theorem xcl1 {a : Str} {pa1 pa2 p0 p1 p2 p3 p4 p5 q0 q1 q2 q3 : Pos} (xb : PX.XB B nw it bm) (NM : PX.Nm1 a) (XT : PX.XTop G.prog G.K G.mg) (gC : G.mg x = some (.ref C))
    (xL : G.K.lookup C = some (excClassObj nm q C N bs bm true sn sub ab col dd k0 k1 k2 k3 k5 nw)) (sa : PySem.W.findIn G.K (.ref C) "__setattr__" = some (some (.builtin "object.__setattr__"))) (na : PySem.W.findIn G.K (.ref C) a = some none)
    (iC : PySem.W.findIn G.K (.ref C) "__init__" = some (some (.ref fI))) (tC : PySem.W.typeIn G.K (.ref fI) = some (.type "function"))
    (l : G.K.lookup fI = some ⟨oc, od, .func (ksFn "__init__" qn (PX.iA [PX.aA "self" pa1, PX.aA a pa2]) [PX.sUp [.Name a p5] p0 p1 p2 p3 p4, PX.sFld a q0 q1 q2 q3] (PX.iS [a]) .none .none doc pm an (.ref cda) ct cc), osl⟩)
    (cI : PySem.W.codeIn G.K (.ref cda) qn = true) (fi : fileB G.prog G.K cda = true) (ce : cellB G.K cc C = true)
    (kC : PySem.W.keepIn G.K (.ref C) = true) (exC : PySem.W.subIn G.K (.ref C) (.type "BaseException") = some true) (tyC : PySem.W.typeIn G.K (.ref C) = some (.type "type")) (hup : PX.UpOk [a] [.Name a p5] p0 p1 p2 p3) : XCl G x [a] C := by
  have T : PX.XTxt G.prog G.K C fI B nw it bm [a] [PX.aA "self" pa1, PX.aA a pa2] [PX.sUp [.Name a p5] p0 p1 p2 p3 p4, PX.sFld a q0 q1 q2 q3] :=
    ⟨⟨_, _, _, _, _, _, _, _, _, _, _, _, _, _, xL⟩, sa, fun n hn => by rw [List.mem_singleton.mp hn]; exact na, iC, tC, ⟨_, _, _, _, _, _, _, _, _, _, l, cI, fileB_ok fi, cellB_ok ce⟩⟩
  refine ⟨gC, kC, exC, tyC, fI, B, nw, it, bm, _, _, xb, T, fun us hu => ?_⟩
  match us, hu with
  | [v], _ => exact fun A R s x0 t0 X hnx hlim hg hb hx hroom hq => PX.x_init1 xb XT NM T hup X hnx hlim hg hb hx hroom hq
theorem fldM_swap {a b : Str} {v u : Value} (h : (a == b) = false) : PX.fldM [(b, u), (a, v)] = PX.fldM [(a, v), (b, u)] := by
  funext y
  have hne : a ≠ b := fun z => by rw [z] at h; simp at h
  unfold PX.fldM PX.fldM PX.fldM
  by_cases e1 : y = b
  · rw [if_pos e1, if_neg (fun z => hne (z.symm.trans e1)), if_pos e1]
  · rw [if_neg e1]
    by_cases e2 : y = a
    · rw [if_pos e2, if_pos e2]
    · rw [if_neg e2, if_neg e2, if_neg e1]
theorem xcl2 {a b : Str} {pa1 pa2 pa3 p0 p1 p2 p3 p4 p5 p6 q0 q1 q2 q3 r0 r1 r2 r3 : Pos} (xb : PX.XB B nw it bm) (NM : PX.Nm2 a b) (XT : PX.XTop G.prog G.K G.mg) (gC : G.mg x = some (.ref C))
    (xL : G.K.lookup C = some (excClassObj nm q C N bs bm true sn sub ab col dd k0 k1 k2 k3 k5 nw)) (sa : PySem.W.findIn G.K (.ref C) "__setattr__" = some (some (.builtin "object.__setattr__"))) (na : PySem.W.findIn G.K (.ref C) a = some none) (nb : PySem.W.findIn G.K (.ref C) b = some none)
    (iC : PySem.W.findIn G.K (.ref C) "__init__" = some (some (.ref fI))) (tC : PySem.W.typeIn G.K (.ref fI) = some (.type "function"))
    (l : G.K.lookup fI = some ⟨oc, od, .func (ksFn "__init__" qn (PX.iA [PX.aA "self" pa1, PX.aA a pa2, PX.aA b pa3]) [PX.sUp [.Name a p5, .Name b p6] p0 p1 p2 p3 p4, PX.sFld a q0 q1 q2 q3, PX.sFld b r0 r1 r2 r3] (PX.iS [a, b]) .none .none doc pm an (.ref cda) ct cc), osl⟩)
    (cI : PySem.W.codeIn G.K (.ref cda) qn = true) (fi : fileB G.prog G.K cda = true) (ce : cellB G.K cc C = true)
    (kC : PySem.W.keepIn G.K (.ref C) = true) (exC : PySem.W.subIn G.K (.ref C) (.type "BaseException") = some true) (tyC : PySem.W.typeIn G.K (.ref C) = some (.type "type")) (hup : PX.UpOk [a, b] [.Name a p5, .Name b p6] p0 p1 p2 p3) : XCl G x [a, b] C := by
  have T : PX.XTxt G.prog G.K C fI B nw it bm [a, b] [PX.aA "self" pa1, PX.aA a pa2, PX.aA b pa3] [PX.sUp [.Name a p5, .Name b p6] p0 p1 p2 p3 p4, PX.sFld a q0 q1 q2 q3, PX.sFld b r0 r1 r2 r3] :=
    ⟨⟨_, _, _, _, _, _, _, _, _, _, _, _, _, _, xL⟩, sa, fun n hn => by
      rcases List.mem_cons.mp hn with rfl | hn
      · exact na
      · rw [List.mem_singleton.mp hn]; exact nb, iC, tC, ⟨_, _, _, _, _, _, _, _, _, _, l, cI, fileB_ok fi, cellB_ok ce⟩⟩
  refine ⟨gC, kC, exC, tyC, fI, B, nw, it, bm, _, _, xb, T, fun us hu => ?_⟩
  match us, hu with
  | [v, u], _ => exact fun A R s x0 t0 X hnx hlim hg hb hx hroom hq => PX.x_init2 xb XT NM T hup X hnx hlim hg hb hx hroom fun h' tk dx e => hq h' tk dx ⟨e.keep, e.obj, e.dbig, e.dne, by
      have := e.ns
      rw [fldM_swap NM.ab] at this
      exact this⟩
end
/-- the table of the code object that stands at c -/
theorem tab_of {K : PySem.W.Frag} {c P : Addr} (h : PySem.W.codeHdIn K c P = true) : PySem.W.codeHdIn K c P = true := h
end PL

namespace PL
open PySem PySem.Spec PyProof.Rows L2 AB
open TL (tl)
/-! evaluation: the equations by which what a def computes is read; the rest of a computation is a named function, so that it is not looked at before its first part is there -/
section
variable {α β γ : Type}
@[simp] theorem bind_ok (a : α) (ε : Ev) (k : α → Ev → Re β) : (Re.ok a ε).bind k = k a ε := rfl
@[simp] theorem bind_no (k : α → Ev → Re β) : (Re.no : Re α).bind k = .no := rfl
@[simp] theorem bind_exc (x : Xc) (ε : Ev) (k : α → Ev → Re β) : (Re.exc x ε : Re α).bind k = .exc x ε := rfl
@[simp] theorem bind_ite (c : Prop) [Decidable c] (a b : Re α) (k : α → Ev → Re β) : (if c then a else b).bind k = if c then a.bind k else b.bind k := by split <;> rfl
@[simp] theorem old_sh (d : D) : (Fv.sh d).old = .sh d := rfl
@[simp] theorem old_fr (d : D) : (Fv.fr d).old = .sh d := rfl
@[simp] theorem old_at (i : Nat) : (Fv.at i).old = .at i := rfl
@[simp] theorem rd_sh (ε : Ev) (d : D) : rd ε (.sh d) = some d := rfl
@[simp] theorem rd_fr (ε : Ev) (d : D) : rd ε (.fr d) = some d := rfl
@[simp] theorem rd_at (ε : Ev) (i : Nat) : rd ε (.at i) = ε.at i := rfl
@[simp] theorem at_nil (i : Nat) : Ev.at [] i = none := rfl
@[simp] theorem at_0sh (d : D) (ε : Ev) : Ev.at (.sh d :: ε) 0 = some d := rfl
@[simp] theorem at_0ow (d : D) (ε : Ev) : Ev.at (.ow d :: ε) 0 = some d := rfl
@[simp] theorem at_0io (d : D) (ε : Ev) : Ev.at (.io d :: ε) 0 = some d := rfl
@[simp] theorem at_0no (ε : Ev) : Ev.at (.no :: ε) 0 = none := rfl
@[simp] theorem at_s (s : Sl) (ε : Ev) (i : Nat) : Ev.at (s :: ε) (i + 1) = Ev.at ε i := rfl
def consO : Option D → Option (List D) → Option (List D)
  | some d, some ds => some (d :: ds)
  | _, _ => none
@[simp] theorem consO_some (d : D) (ds : List D) : consO (some d) (some ds) = some (d :: ds) := rfl
@[simp] theorem rds_nil (ε : Ev) : rds ε [] = some [] := rfl
@[simp] theorem rds_cons (ε : Ev) (f : Fv) (fs : List Fv) : rds ε (f :: fs) = consO (rd ε f) (rds ε fs) := by
  conv => lhs; unfold rds
  cases rd ε f with
  | none => rfl
  | some d => cases rds ε fs <;> rfl
/-- a value is taken out of a slot -/
def resJ (ε : Ev) (j : Nat) : Option (D × Ev) := match ε[j]? with
  | some (.sh d) => some (d, ε)
  | some (.ow d) => some (d, ε.set j (.sh d))
  | _ => none
def consR (s : Sl) : Option (D × Ev) → Option (D × Ev)
  | some (d, ε) => some (d, s :: ε)
  | none => none
@[simp] theorem consR_some (s : Sl) (d : D) (ε : Ev) : consR s (some (d, ε)) = some (d, s :: ε) := rfl
@[simp] theorem resJ_sh (d : D) (ε : Ev) : resJ (.sh d :: ε) 0 = some (d, .sh d :: ε) := rfl
@[simp] theorem resJ_ow (d : D) (ε : Ev) : resJ (.ow d :: ε) 0 = some (d, .sh d :: ε) := rfl
@[simp] theorem resJ_s (s : Sl) (ε : Ev) (j : Nat) : resJ (s :: ε) (j + 1) = consR s (resJ ε j) := by
  unfold resJ
  rw [List.getElem?_cons_succ]
  cases ε[j]? with
  | none => rfl
  | some t => cases t <;> rfl
def consS (d : D) : Option (List D × Ev) → Option (List D × Ev)
  | some (ds, ε) => some (d :: ds, ε)
  | none => none
@[simp] theorem consS_some (d : D) (ds : List D) (ε : Ev) : consS d (some (ds, ε)) = some (d :: ds, ε) := rfl
@[simp] theorem shr_nil (ε : Ev) : shr [] ε = some ([], ε) := rfl
@[simp] theorem shr_sh (d : D) (fs : List Fv) (ε : Ev) : shr (.sh d :: fs) ε = consS d (shr fs ε) := by
  conv => lhs; unfold shr
  cases shr fs ε <;> rfl
def shrK (fs : List Fv) : Option (D × Ev) → Option (List D × Ev)
  | some (d, ε) => consS d (shr fs ε)
  | none => none
@[simp] theorem shrK_some (fs : List Fv) (d : D) (ε : Ev) : shrK fs (some (d, ε)) = consS d (shr fs ε) := rfl
@[simp] theorem shr_at (j : Nat) (fs : List Fv) (ε : Ev) : shr (.at j :: fs) ε = shrK fs (resJ ε j) := by
  conv => lhs; unfold shr
  unfold resJ
  cases ε[j]? with
  | none => rfl
  | some t =>
    cases t with
    | no => rfl
    | io d => rfl
    | sh d => dsimp only [shrK]; cases shr fs ε <;> rfl
    | ow d => dsimp only [shrK]; cases shr fs (ε.set j (.sh d)) <;> rfl
/-- an owned content -/
def getM (ε : Ev) (j : Nat) : Option D := match ε[j]? with
  | some (.ow d) => some d
  | some (.io d) => some d
  | _ => none
def setM (ε : Ev) (j : Nat) (d : D) : Ev := match ε[j]? with
  | some s => ε.set j (s.with d)
  | none => ε
@[simp] theorem getM_ow (d : D) (ε : Ev) : getM (.ow d :: ε) 0 = some d := rfl
@[simp] theorem getM_io (d : D) (ε : Ev) : getM (.io d :: ε) 0 = some d := rfl
@[simp] theorem getM_s (s : Sl) (ε : Ev) (j : Nat) : getM (s :: ε) (j + 1) = getM ε j := rfl
@[simp] theorem setM_io (e d : D) (ε : Ev) : setM (.io e :: ε) 0 d = .io d :: ε := rfl
@[simp] theorem setM_ow (e d : D) (ε : Ev) : setM (.ow e :: ε) 0 d = .ow d :: ε := rfl
@[simp] theorem setM_s (s : Sl) (d : D) (ε : Ev) (j : Nat) : setM (s :: ε) (j + 1) d = s :: setM ε j d := by
  unfold setM
  rw [List.getElem?_cons_succ]
  cases ε[j]? <;> rfl
def mutK3 (j : Nat) (ε : Ev) : Option (D × D) → Re Fv
  | some (d', r) => .ok (.sh r) (setM ε j d')
  | none => .no
def mutK2 (f : D → List D → Option (D × D)) (j : Nat) (ds : List D) (ε : Ev) : Option D → Re Fv
  | some d => mutK3 j ε (f d ds)
  | none => .no
def mutK1 (f : D → List D → Option (D × D)) (j : Nat) : Option (List D × Ev) → Re Fv
  | some (ds, ε) => mutK2 f j ds ε (getM ε j)
  | none => .no
@[simp] theorem mutK3_some (j : Nat) (ε : Ev) (d r : D) : mutK3 j ε (some (d, r)) = .ok (.sh r) (setM ε j d) := rfl
@[simp] theorem mutK2_some (f : D → List D → Option (D × D)) (j : Nat) (ds : List D) (ε : Ev) (d : D) : mutK2 f j ds ε (some d) = mutK3 j ε (f d ds) := rfl
@[simp] theorem mutK1_some (f : D → List D → Option (D × D)) (j : Nat) (ds : List D) (ε : Ev) : mutK1 f j (some (ds, ε)) = mutK2 f j ds ε (getM ε j) := rfl
@[simp] theorem mutF_ev (f : D → List D → Option (D × D)) (j : Nat) (fs : List Fv) (ε : Ev) : mutF f j fs ε = mutK1 f j (shr fs ε) := by
  unfold mutF
  cases shr fs ε with
  | none => rfl
  | some r =>
    obtain ⟨ds, ε1⟩ := r
    dsimp only [mutK1]
    unfold getM
    cases q : ε1[j]? with
    | none => rfl
    | some t =>
      cases t with
      | no => rfl
      | sh d => rfl
      | ow d => dsimp only [mutK2]; cases f d ds <;> simp [mutK3, setM, q, Sl.with]
      | io d => dsimp only [mutK2]; cases f d ds <;> simp [mutK3, setM, q, Sl.with]
def consE (s : Sl) : Option Ev → Option Ev
  | some ε => some (s :: ε)
  | none => none
@[simp] theorem consE_some (s : Sl) (ε : Ev) : consE s (some ε) = some (s :: ε) := rfl
@[simp] theorem setS_nil (i : Nat) (fv : Fv) : setS [] i fv = none := rfl
@[simp] theorem setS_no_sh (d : D) (ε : Ev) : setS (.no :: ε) 0 (.sh d) = some (.sh d :: ε) := rfl
@[simp] theorem setS_sh_sh (e d : D) (ε : Ev) : setS (.sh e :: ε) 0 (.sh d) = some (.sh d :: ε) := rfl
@[simp] theorem setS_ow_sh (e d : D) (ε : Ev) : setS (.ow e :: ε) 0 (.sh d) = some (.sh d :: ε) := rfl
@[simp] theorem setS_no_fr (d : D) (ε : Ev) : setS (.no :: ε) 0 (.fr d) = some (.ow d :: ε) := rfl
@[simp] theorem setS_sh_fr (e d : D) (ε : Ev) : setS (.sh e :: ε) 0 (.fr d) = some (.ow d :: ε) := rfl
@[simp] theorem setS_ow_fr (e d : D) (ε : Ev) : setS (.ow e :: ε) 0 (.fr d) = some (.ow d :: ε) := rfl
@[simp] theorem setS_s_sh (s : Sl) (d : D) (ε : Ev) (i : Nat) : setS (s :: ε) (i + 1) (.sh d) = consE s (setS ε i (.sh d)) := by
  unfold setS setV
  rw [List.getElem?_cons_succ]
  cases ε[i]? with
  | none => rfl
  | some t => cases t <;> rfl
@[simp] theorem setS_s_fr (s : Sl) (d : D) (ε : Ev) (i : Nat) : setS (s :: ε) (i + 1) (.fr d) = consE s (setS ε i (.fr d)) := by
  unfold setS setV
  rw [List.getElem?_cons_succ]
  cases ε[i]? with
  | none => rfl
  | some t => cases t <;> rfl
def setAt (i : Nat) : Option (D × Ev) → Option Ev
  | some (d, ε) => setS ε i (.sh d)
  | none => none
@[simp] theorem setAt_some (i : Nat) (d : D) (ε : Ev) : setAt i (some (d, ε)) = setS ε i (.sh d) := rfl
@[simp] theorem setS_at (ε : Ev) (i j : Nat) : setS ε i (.at j) = setAt i (resJ ε j) := by
  unfold resJ setS setV
  cases q : ε[j]? with
  | none => cases ε[i]? with
    | none => rfl
    | some s => cases s <;> simp [q, setAt]
  | some t =>
    cases t with
    | no => cases ε[i]? with
      | none => rfl
      | some s => cases s <;> simp [q, setAt]
    | io d => cases ε[i]? with
      | none => rfl
      | some s => cases s <;> simp [q, setAt]
    | sh d => simp only [setAt, setS, setV, q]
    | ow d =>
      simp only [setAt, setS, setV]
      by_cases c : j = i
      · subst c
        rw [q, List.getElem?_set_self (List.getElem?_eq_some_iff.mp q).1]
      · rw [List.getElem?_set_ne c, q]
/-! expressions -/
def dVK (i : Nat) (ε : Ev) : Option D → Re Fv
  | some _ => .ok (.at i) ε
  | none => .no
@[simp] theorem dVK_some (i : Nat) (ε : Ev) (d : D) : dVK i ε (some d) = .ok (.at i) ε := rfl
@[simp] theorem dV_ev (i : Nat) (ε : Ev) : dV i ε = dVK i ε (ε.at i) := by unfold dV; cases ε.at i <;> rfl
@[simp] theorem dC_ev (d : D) (ε : Ev) : dC d ε = .ok (.sh d) ε := rfl
def finV (ε : Ev) : Option Fv → Re Fv
  | some (.sh d) => .ok (.sh d) ε
  | some (.fr d) => .ok (.fr d) ε
  | _ => .no
@[simp] theorem finV_sh (d : D) (ε : Ev) : finV ε (some (.sh d)) = .ok (.sh d) ε := rfl
@[simp] theorem finV_fr (d : D) (ε : Ev) : finV ε (some (.fr d)) = .ok (.fr d) ε := rfl
def o2K (f : D → D → Option Fv) (ε : Ev) : Option D → Option D → Re Fv
  | some d, some e => finV ε (f d e)
  | _, _ => .no
@[simp] theorem o2K_some (f : D → D → Option Fv) (ε : Ev) (d e : D) : o2K f ε (some d) (some e) = finV ε (f d e) := rfl
@[simp] theorem o2_ev (ε : Ev) (f : D → D → Option Fv) (x y : Fv) : o2 ε f x y = o2K f ε (rd ε x) (rd ε y) := by
  unfold o2
  cases rd ε x with
  | none => rfl
  | some d => cases rd ε y with
    | none => rfl
    | some e =>
      dsimp only [o2K]
      cases f d e with
      | none => rfl
      | some fv => cases fv <;> rfl
def kD2b (f : D → D → Option Fv) (x : Fv) (y : Fv) (ε : Ev) : Re Fv := o2 ε f x.old y.old
@[simp] theorem kD2b_ev (f : D → D → Option Fv) (x : Fv) (y : Fv) (ε : Ev) : kD2b f x y ε = o2 ε f x.old y.old := rfl
def kD2a (f : D → D → Option Fv) (db : Dn Fv) (x : Fv) (ε : Ev) : Re Fv := (db ε).bind (kD2b f x)
@[simp] theorem kD2a_ev (f : D → D → Option Fv) (db : Dn Fv) (x : Fv) (ε : Ev) : kD2a f db x ε = (db ε).bind (kD2b f x) := rfl
@[simp] theorem d2_ev (f : D → D → Option Fv) (da db : Dn Fv) (ε : Ev) : d2 f da db ε = (da ε).bind (kD2a f db) := rfl
def o1K (f : D → Option Fv) (ε : Ev) : Option D → Re Fv
  | some d => finV ε (f d)
  | none => .no
@[simp] theorem o1K_some (f : D → Option Fv) (ε : Ev) (d : D) : o1K f ε (some d) = finV ε (f d) := rfl
@[simp] theorem o1_ev (ε : Ev) (f : D → Option Fv) (x : Fv) : o1 ε f x = o1K f ε (rd ε x) := by
  unfold o1
  cases rd ε x <;> rfl
def kD1 (f : D → Option Fv) (x : Fv) (ε : Ev) : Re Fv := o1 ε f x.old
@[simp] theorem kD1_ev (f : D → Option Fv) (x : Fv) (ε : Ev) : kD1 f x ε = o1 ε f x.old := rfl
@[simp] theorem d1_ev (f : D → Option Fv) (da : Dn Fv) (ε : Ev) : d1 f da ε = (da ε).bind (kD1 f) := rfl
def oNK (f : List D → Option Fv) (ε : Ev) : Option (List D) → Re Fv
  | some ds => finV ε (f ds)
  | none => .no
@[simp] theorem oNK_some (f : List D → Option Fv) (ε : Ev) (ds : List D) : oNK f ε (some ds) = finV ε (f ds) := rfl
@[simp] theorem oN_ev (ε : Ev) (f : List D → Option Fv) (fs : List Fv) : oN ε f fs = oNK f ε (rds ε fs) := by
  unfold oN
  cases rds ε fs <;> rfl
def kDN (f : List D → Option Fv) (fs : List Fv) (ε : Ev) : Re Fv := oN ε f fs
@[simp] theorem kDN_ev (f : List D → Option Fv) (fs : List Fv) (ε : Ev) : kDN f fs ε = oN ε f fs := rfl
@[simp] theorem dN_ev (f : List D → Option Fv) (da : Dn (List Fv)) (ε : Ev) : dN f da ε = (da ε).bind (kDN f) := rfl
@[simp] theorem aNil_ev (ε : Ev) : aNil ε = .ok [] ε := rfl
def kACb (x : Fv) (xs : List Fv) (ε : Ev) : Re (List Fv) := .ok (x.old :: xs) ε
@[simp] theorem kACb_ev (x : Fv) (xs : List Fv) (ε : Ev) : kACb x xs ε = .ok (x.old :: xs) ε := rfl
def kACa (db : Dn (List Fv)) (x : Fv) (ε : Ev) : Re (List Fv) := (db ε).bind (kACb x)
@[simp] theorem kACa_ev (db : Dn (List Fv)) (x : Fv) (ε : Ev) : kACa db x ε = (db ε).bind (kACb x) := rfl
@[simp] theorem aCons_ev (da : Dn Fv) (db : Dn (List Fv)) (ε : Ev) : aCons da db ε = (da ε).bind (kACa db) := rfl
def mkLK : Option (List D × Ev) → Re Fv
  | some (ds, ε) => if ds.length ≤ 16000000 then .ok (.fr (.lst ds)) ε else .no
  | none => .no
def mkTK : Option (List D × Ev) → Re Fv
  | some (ds, ε) => if ds.length ≤ 16000000 then .ok (.sh (.tup ds)) ε else .no
  | none => .no
@[simp] theorem mkLK_some (ds : List D) (ε : Ev) : mkLK (some (ds, ε)) = if ds.length ≤ 16000000 then .ok (.fr (.lst ds)) ε else .no := rfl
@[simp] theorem mkTK_some (ds : List D) (ε : Ev) : mkTK (some (ds, ε)) = if ds.length ≤ 16000000 then .ok (.sh (.tup ds)) ε else .no := rfl
def kLst  (fs : List Fv) (ε : Ev) : Re Fv := mkLK (shr fs ε)
@[simp] theorem kLst_ev  (fs : List Fv) (ε : Ev) : kLst fs ε = mkLK (shr fs ε) := rfl
def kTupl  (fs : List Fv) (ε : Ev) : Re Fv := mkTK (shr fs ε)
@[simp] theorem kTupl_ev  (fs : List Fv) (ε : Ev) : kTupl fs ε = mkTK (shr fs ε) := rfl
@[simp] theorem dLst_ev (da : Dn (List Fv)) (ε : Ev) : dLst da ε = (da ε).bind kLst := by
  rfl
@[simp] theorem dTup_ev (da : Dn (List Fv)) (ε : Ev) : dTup da ε = (da ε).bind kTupl := by
  rfl
def trK2 (ε : Ev) : Option Bool → Re Bool
  | some b => .ok b ε
  | none => .no
def trK (ε : Ev) : Option D → Re Bool
  | some d => trK2 ε (tru d)
  | none => .no
@[simp] theorem trK2_some (ε : Ev) (b : Bool) : trK2 ε (some b) = .ok b ε := rfl
@[simp] theorem trK_some (ε : Ev) (d : D) : trK ε (some d) = trK2 ε (tru d) := rfl
@[simp] theorem trF_ev (fv : Fv) (ε : Ev) : trF fv ε = trK ε (rd ε fv) := by
  unfold trF
  cases rd ε fv with
  | none => rfl
  | some d => dsimp only [trK]; cases tru d <;> rfl
def kTv  (fv : Fv) (ε : Ev) : Re Bool := trF fv.old ε
@[simp] theorem kTv_ev  (fv : Fv) (ε : Ev) : kTv fv ε = trF fv.old ε := rfl
@[simp] theorem tDV_ev (de : Dn Fv) (ε : Ev) : tDV de ε = (de ε).bind kTv := rfl
def asB (fv : Fv) (ε : Ev) : Re Bool := match fv with
  | .sh (.bl b) => .ok b ε
  | _ => .no
@[simp] theorem asB_bl (b : Bool) (ε : Ev) : asB (.sh (.bl b)) ε = .ok b ε := rfl
@[simp] theorem bT_ev (d : Dn Fv) (ε : Ev) : bT d ε = (d ε).bind asB := rfl
def kNt  (b : Bool) (ε : Ev) : Re Bool := .ok (!b) ε
@[simp] theorem kNt_ev  (b : Bool) (ε : Ev) : kNt b ε = .ok (!b) ε := rfl
@[simp] theorem tDN_ev (d : Dn Bool) (ε : Ev) : tDN d ε = (d ε).bind kNt := rfl
def kTA (b : Dn Bool) (c : Bool) (ε : Ev) : Re Bool := if c = true then b ε else .ok false ε
@[simp] theorem kTA_ev (b : Dn Bool) (c : Bool) (ε : Ev) : kTA b c ε = if c = true then b ε else .ok false ε := rfl
@[simp] theorem tDA_ev (a b : Dn Bool) (ε : Ev) : tDA a b ε = (a ε).bind (kTA b) := rfl
def kTO (b : Dn Bool) (c : Bool) (ε : Ev) : Re Bool := if c = true then .ok true ε else b ε
@[simp] theorem kTO_ev (b : Dn Bool) (c : Bool) (ε : Ev) : kTO b c ε = if c = true then .ok true ε else b ε := rfl
@[simp] theorem tDO_ev (a b : Dn Bool) (ε : Ev) : tDO a b ε = (a ε).bind (kTO b) := rfl
def kEA2 (b : Dn Fv) (x : Fv) (c : Bool) (ε : Ev) : Re Fv := if c = true then b ε else .ok x ε
@[simp] theorem kEA2_ev (b : Dn Fv) (x : Fv) (c : Bool) (ε : Ev) : kEA2 b x c ε = if c = true then b ε else .ok x ε := rfl
def kEA (b : Dn Fv) (x : Fv) (ε : Ev) : Re Fv := (trF x.old ε).bind (kEA2 b x)
@[simp] theorem kEA_ev (b : Dn Fv) (x : Fv) (ε : Ev) : kEA b x ε = (trF x.old ε).bind (kEA2 b x) := rfl
@[simp] theorem eDA_ev (a b : Dn Fv) (ε : Ev) : eDA a b ε = (a ε).bind (kEA b) := rfl
def kEO2 (b : Dn Fv) (x : Fv) (c : Bool) (ε : Ev) : Re Fv := if c = true then .ok x ε else b ε
@[simp] theorem kEO2_ev (b : Dn Fv) (x : Fv) (c : Bool) (ε : Ev) : kEO2 b x c ε = if c = true then .ok x ε else b ε := rfl
def kEO (b : Dn Fv) (x : Fv) (ε : Ev) : Re Fv := (trF x.old ε).bind (kEO2 b x)
@[simp] theorem kEO_ev (b : Dn Fv) (x : Fv) (ε : Ev) : kEO b x ε = (trF x.old ε).bind (kEO2 b x) := rfl
@[simp] theorem eDO_ev (a b : Dn Fv) (ε : Ev) : eDO a b ε = (a ε).bind (kEO b) := rfl
def kEN2  (c : Bool) (ε : Ev) : Re Fv := .ok (.sh (.bl (!c))) ε
@[simp] theorem kEN2_ev  (c : Bool) (ε : Ev) : kEN2 c ε = .ok (.sh (.bl (!c))) ε := rfl
def kEN  (x : Fv) (ε : Ev) : Re Fv := (trF x.old ε).bind kEN2
@[simp] theorem kEN_ev  (x : Fv) (ε : Ev) : kEN x ε = (trF x.old ε).bind kEN2 := rfl
@[simp] theorem eDNt_ev (a : Dn Fv) (ε : Ev) : eDNt a ε = (a ε).bind kEN := rfl
def kEI (a : Dn Fv) (b : Dn Fv) (t : Bool) (ε : Ev) : Re Fv := if t = true then a ε else b ε
@[simp] theorem kEI_ev (a : Dn Fv) (b : Dn Fv) (t : Bool) (ε : Ev) : kEI a b t ε = if t = true then a ε else b ε := rfl
@[simp] theorem eDIf_ev (c : Dn Bool) (a b : Dn Fv) (ε : Ev) : eDIf c a b ε = (c ε).bind (kEI a b) := rfl
def kCh4 (g : D → D → Option Fv) (y : Fv) (w : Fv) (ε : Ev) : Re Fv := o2 ε g y.old w.old
@[simp] theorem kCh4_ev (g : D → D → Option Fv) (y : Fv) (w : Fv) (ε : Ev) : kCh4 g y w ε = o2 ε g y.old w.old := rfl
def kCh3 (g : D → D → Option Fv) (dc : Dn Fv) (y : Fv) (z : Fv) (ε : Ev) : Re Fv := match z with
  | .sh (.bl true) => (dc ε).bind (kCh4 g y)
  | .sh (.bl false) => .ok (.sh (.bl false)) ε
  | _ => .no
@[simp] theorem kCh3_bl (g : D → D → Option Fv) (dc : Dn Fv) (y : Fv) (b : Bool) (ε : Ev) : kCh3 g dc y (.sh (.bl b)) ε = if b = true then (dc ε).bind (kCh4 g y) else .ok (.sh (.bl false)) ε := by cases b <;> rfl
def kCh2 (f : D → D → Option Fv) (g : D → D → Option Fv) (dc : Dn Fv) (x : Fv) (y : Fv) (ε : Ev) : Re Fv := (o2 ε f x.old y.old).bind (kCh3 g dc y)
@[simp] theorem kCh2_ev (f : D → D → Option Fv) (g : D → D → Option Fv) (dc : Dn Fv) (x : Fv) (y : Fv) (ε : Ev) : kCh2 f g dc x y ε = (o2 ε f x.old y.old).bind (kCh3 g dc y) := rfl
def kCh1 (f : D → D → Option Fv) (g : D → D → Option Fv) (db : Dn Fv) (dc : Dn Fv) (x : Fv) (ε : Ev) : Re Fv := (db ε).bind (kCh2 f g dc x)
@[simp] theorem kCh1_ev (f : D → D → Option Fv) (g : D → D → Option Fv) (db : Dn Fv) (dc : Dn Fv) (x : Fv) (ε : Ev) : kCh1 f g db dc x ε = (db ε).bind (kCh2 f g dc x) := rfl
@[simp] theorem dChain_ev (f g : D → D → Option Fv) (da db dc : Dn Fv) (ε : Ev) : dChain f g da db dc ε = (da ε).bind (kCh1 f g db dc) := rfl
@[simp] theorem partF_none (ε : Ev) : partF none ε = .ok none ε := rfl
def asI (ε : Ev) : Option D → Re (Option Int)
  | some (.int i) => .ok (some i) ε
  | _ => .no
@[simp] theorem asI_int (i : Int) (ε : Ev) : asI ε (some (.int i)) = .ok (some i) ε := rfl
def kPt  (fv : Fv) (ε : Ev) : Re (Option Int) := asI ε (rd ε fv)
@[simp] theorem kPt_ev  (fv : Fv) (ε : Ev) : kPt fv ε = asI ε (rd ε fv) := rfl
@[simp] theorem partF_some (d : Dn Fv) (ε : Ev) : partF (some d) ε = (d ε).bind kPt := rfl
def slO (l : Option Int) (u : Option Int) (d : D) : Option Fv := slD d l u
theorem slO_ev (l : Option Int) (u : Option Int) (d : D) : slO l u d = slD d l u := rfl
def kSl3 (x : Fv) (l : Option Int) (u : Option Int) (ε : Ev) : Re Fv := o1 ε (slO l u) x.old
@[simp] theorem kSl3_ev (x : Fv) (l : Option Int) (u : Option Int) (ε : Ev) : kSl3 x l u ε = o1 ε (slO l u) x.old := rfl
def kSl2 (hi : Option (Dn Fv)) (x : Fv) (l : Option Int) (ε : Ev) : Re Fv := (partF hi ε).bind (kSl3 x l)
@[simp] theorem kSl2_ev (hi : Option (Dn Fv)) (x : Fv) (l : Option Int) (ε : Ev) : kSl2 hi x l ε = (partF hi ε).bind (kSl3 x l) := rfl
def kSl1 (lo : Option (Dn Fv)) (hi : Option (Dn Fv)) (x : Fv) (ε : Ev) : Re Fv := (partF lo ε).bind (kSl2 hi x)
@[simp] theorem kSl1_ev (lo : Option (Dn Fv)) (hi : Option (Dn Fv)) (x : Fv) (ε : Ev) : kSl1 lo hi x ε = (partF lo ε).bind (kSl2 hi x) := rfl
@[simp] theorem dSl_ev (de : Dn Fv) (lo hi : Option (Dn Fv)) (ε : Ev) : dSl de lo hi ε = (de ε).bind (kSl1 lo hi) := rfl
theorem slO_lst (ds : List D) (l u : Option Int) : slO l u (.lst ds) = some (.fr (.lst (cutL ds l u))) := rfl
theorem slO_flz (ds : List D) (l u : Option Int) : slO l u (.flz ds) = some (.fr (.lst (cutL ds l u))) := rfl
theorem slO_tup (ds : List D) (l u : Option Int) : slO l u (.tup ds) = some (.sh (.tup (cutL ds l u))) := rfl
theorem slO_str (s : List Nat) (l u : Option Int) : slO l u (.str s) = if s.length ≤ 16000000 then some (.sh (.str (cutL s l u))) else none := rfl
def asS (f : List Nat → List D → Option Fv) (da : Dn (List Fv)) (ε : Ev) : Option D → Re Fv
  | some (.str l) => (da ε).bind (kDN (f l))
  | _ => .no
@[simp] theorem asS_str (f : List Nat → List D → Option Fv) (da : Dn (List Fv)) (ε : Ev) (l : List Nat) : asS f da ε (some (.str l)) = (da ε).bind (kDN (f l)) := rfl
def kMs (f : List Nat → List D → Option Fv) (da : Dn (List Fv)) (x : Fv) (ε : Ev) : Re Fv := asS f da ε (rd ε x.old)
@[simp] theorem kMs_ev (f : List Nat → List D → Option Fv) (da : Dn (List Fv)) (x : Fv) (ε : Ev) : kMs f da x ε = asS f da ε (rd ε x.old) := rfl
@[simp] theorem dMs_ev (f : List Nat → List D → Option Fv) (do_ : Dn Fv) (da : Dn (List Fv)) (ε : Ev) : dMs f do_ da ε = (do_ ε).bind (kMs f da) := rfl
def recvK (isT : D → Bool) (j : Nat) : Option D → Option Nat
  | some d => if isT d = true then some j else none
  | none => none
@[simp] theorem recvK_some (isT : D → Bool) (j : Nat) (d : D) : recvK isT j (some d) = if isT d = true then some j else none := rfl
@[simp] theorem recv_at (isT : D → Bool) (j : Nat) (ε : Ev) : recv isT (.at j) ε = recvK isT j (ε.at j) := by
  unfold recv
  dsimp only
  cases ε.at j <;> rfl
def kMut2 (f : D → List D → Option (D × D)) (da : Dn (List Fv)) (ε : Ev) : Option Nat → Re Fv
  | some j => (da ε).bind (mutF f j)
  | none => .no
@[simp] theorem kMut2_some (f : D → List D → Option (D × D)) (da : Dn (List Fv)) (ε : Ev) (j : Nat) : kMut2 f da ε (some j) = (da ε).bind (mutF f j) := rfl
def kMut (isT : D → Bool) (f : D → List D → Option (D × D)) (da : Dn (List Fv)) (x : Fv) (ε : Ev) : Re Fv := kMut2 f da ε (recv isT x ε)
@[simp] theorem kMut_ev (isT : D → Bool) (f : D → List D → Option (D × D)) (da : Dn (List Fv)) (x : Fv) (ε : Ev) : kMut isT f da x ε = kMut2 f da ε (recv isT x ε) := rfl
@[simp] theorem dMut_ev (isT : D → Bool) (f : D → List D → Option (D × D)) (do_ : Dn Fv) (da : Dn (List Fv)) (ε : Ev) : dMut isT f do_ da ε = (do_ ε).bind (kMut isT f da) := by
  rfl
@[simp] theorem isLst_lst (ds : List D) : isLst (.lst ds) = true := rfl
/-! calls -/
abbrev Pa := List D × List Nat × Ev
def consP (d : D) : Option Pa → Option Pa
  | some (ds, js, ε) => some (d :: ds, js, ε)
  | none => none
@[simp] theorem consP_some (d : D) (ds : List D) (js : List Nat) (ε : Ev) : consP d (some (ds, js, ε)) = some (d :: ds, js, ε) := rfl
def passK (m : List Bool) (fs : List Fv) : Option (D × Ev) → Option Pa
  | some (d, ε) => consP d (passA m fs ε)
  | none => none
@[simp] theorem passK_some (m : List Bool) (fs : List Fv) (d : D) (ε : Ev) : passK m fs (some (d, ε)) = consP d (passA m fs ε) := rfl
def passI2 (j : Nat) (ds : List D) (js : List Nat) (ε : Ev) : Option D → Option Pa
  | some d => if j ∈ js then none else some (d :: ds, j :: js, ε)
  | none => none
@[simp] theorem passI2_some (j : Nat) (ds : List D) (js : List Nat) (ε : Ev) (d : D) : passI2 j ds js ε (some d) = if j ∈ js then none else some (d :: ds, j :: js, ε) := rfl
def passI (j : Nat) : Option Pa → Option Pa
  | some (ds, js, ε) => passI2 j ds js ε (getM ε j)
  | none => none
@[simp] theorem passI_some (j : Nat) (ds : List D) (js : List Nat) (ε : Ev) : passI j (some (ds, js, ε)) = passI2 j ds js ε (getM ε j) := rfl
@[simp] theorem passA_nil (ε : Ev) : passA [] [] ε = some ([], [], ε) := rfl
@[simp] theorem passA_sh (m : List Bool) (d : D) (fs : List Fv) (ε : Ev) : passA (false :: m) (.sh d :: fs) ε = consP d (passA m fs ε) := by
  conv => lhs; unfold passA
  cases passA m fs ε <;> rfl
@[simp] theorem passA_at (m : List Bool) (j : Nat) (fs : List Fv) (ε : Ev) : passA (false :: m) (.at j :: fs) ε = passK m fs (resJ ε j) := by
  conv => lhs; unfold passA
  unfold resJ
  cases ε[j]? with
  | none => rfl
  | some t =>
    cases t with
    | no => rfl
    | io d => rfl
    | sh d => dsimp only [passK]; cases passA m fs ε <;> rfl
    | ow d => dsimp only [passK]; cases passA m fs (ε.set j (.sh d)) <;> rfl
@[simp] theorem passA_io (m : List Bool) (j : Nat) (fs : List Fv) (ε : Ev) : passA (true :: m) (.at j :: fs) ε = passI j (passA m fs ε) := by
  conv => lhs; unfold passA
  cases passA m fs ε with
  | none => rfl
  | some r =>
    obtain ⟨ds, js, ε1⟩ := r
    simp only [Option.bind_some, passI]
    unfold getM
    cases ε1[j]? with
    | none => rfl
    | some t => cases t <;> rfl
def endR (js : List Nat) (ε : Ev) : Rf → Re Fv
  | .ok r outs => .ok r (putIo ε js outs)
  | .exc x outs => .exc x (putIo ε js outs)
  | .no => .no
@[simp] theorem endR_ok (r : Fv) (outs : List D) (js : List Nat) (ε : Ev) : endR js ε (.ok r outs) = .ok r (putIo ε js outs) := rfl
@[simp] theorem endR_exc (x : Xc) (outs : List D) (js : List Nat) (ε : Ev) : endR js ε (.exc x outs) = .exc x (putIo ε js outs) := rfl
def callK (f : List D → Rf) : Option Pa → Re Fv
  | some (ds, js, ε) => endR js ε (f ds)
  | none => .no
@[simp] theorem callK_some (f : List D → Rf) (ds : List D) (js : List Nat) (ε : Ev) : callK f (some (ds, js, ε)) = endR js ε (f ds) := rfl
@[simp] theorem callF_ev (mask : List Bool) (f : List D → Rf) (fs : List Fv) (ε : Ev) : callF mask f fs ε = callK f (passA mask fs ε) := by
  unfold callF
  cases passA mask fs ε with
  | none => rfl
  | some r => obtain ⟨ds, js, ε1⟩ := r; dsimp only [callK]; cases f ds <;> rfl
@[simp] theorem dCall_ev (mask : List Bool) (f : List D → Rf) (da : Dn (List Fv)) (ε : Ev) : dCall mask f da ε = (da ε).bind (callF mask f) := rfl
def kCK2 (n : Nat) (m : Nat) (idx : List Nat) (mask : List Bool) (f : List D → Rf) (fs : List Fv) (gs : List Fv) (ε : Ev) : Re Fv := callF mask f (kperm n m idx fs gs) ε
@[simp] theorem kCK2_ev (n : Nat) (m : Nat) (idx : List Nat) (mask : List Bool) (f : List D → Rf) (fs : List Fv) (gs : List Fv) (ε : Ev) : kCK2 n m idx mask f fs gs ε = callF mask f (kperm n m idx fs gs) ε := rfl
def kCK1 (n : Nat) (m : Nat) (idx : List Nat) (mask : List Bool) (f : List D → Rf) (dk : Dn (List Fv)) (fs : List Fv) (ε : Ev) : Re Fv := (dk ε).bind (kCK2 n m idx mask f fs)
@[simp] theorem kCK1_ev (n : Nat) (m : Nat) (idx : List Nat) (mask : List Bool) (f : List D → Rf) (dk : Dn (List Fv)) (fs : List Fv) (ε : Ev) : kCK1 n m idx mask f dk fs ε = (dk ε).bind (kCK2 n m idx mask f fs) := rfl
@[simp] theorem dCallK_ev (n m : Nat) (idx : List Nat) (mask : List Bool) (den : List D → Rf) (da dk : Dn (List Fv)) (ε : Ev) : dCallK n m idx mask den da dk ε = (da ε).bind (kCK1 n m idx mask den dk) := rfl
@[simp] theorem putIo_n (ε : Ev) : putIo ε [] [] = ε := rfl
@[simp] theorem putIo_c (ε : Ev) (j : Nat) (js : List Nat) (d : D) (ds : List D) : putIo ε (j :: js) (d :: ds) = putIo (setM ε j d) js ds := rfl
/-! statements -/
@[simp] theorem thenF_nx (k : Dn Fl) (ε : Ev) : thenF k .nx ε = k ε := rfl
@[simp] theorem thenF_rt (k : Dn Fl) (v : Fv) (ε : Ev) : thenF k (.rt v) ε = .ok (.rt v) ε := rfl
@[simp] theorem thenF_bk (k : Dn Fl) (ε : Ev) : thenF k .bk ε = .ok .bk ε := rfl
@[simp] theorem thenF_ct (k : Dn Fl) (ε : Ev) : thenF k .ct ε = .ok .ct ε := rfl
@[simp] theorem bDC_ev (a b : Dn Fl) (ε : Ev) : bDC a b ε = (a ε).bind (thenF b) := rfl
@[simp] theorem bDN_ev (ε : Ev) : bDN ε = .ok .nx ε := rfl
def kIf (a : Dn Fl) (b : Dn Fl) (t : Bool) (ε : Ev) : Re Fl := if t = true then a ε else b ε
@[simp] theorem kIf_ev (a : Dn Fl) (b : Dn Fl) (t : Bool) (ε : Ev) : kIf a b t ε = if t = true then a ε else b ε := rfl
@[simp] theorem sDIf_ev (c : Dn Bool) (a b : Dn Fl) (ε : Ev) : sDIf c a b ε = (c ε).bind (kIf a b) := rfl
def nxO : Option Ev → Re Fl
  | some ε => .ok .nx ε
  | none => .no
@[simp] theorem nxO_some (ε : Ev) : nxO (some ε) = .ok .nx ε := rfl
def kSet (i : Nat) (fv : Fv) (ε : Ev) : Re Fl := nxO (setS ε i fv)
@[simp] theorem kSet_ev (i : Nat) (fv : Fv) (ε : Ev) : kSet i fv ε = nxO (setS ε i fv) := rfl
@[simp] theorem sDSet_ev (i : Nat) (de : Dn Fv) (ε : Ev) : sDSet i de ε = (de ε).bind (kSet i) := by
  rfl
def kX  (fv : Fv) (ε : Ev) : Re Fl := .ok .nx ε
@[simp] theorem kX_ev  (fv : Fv) (ε : Ev) : kX fv ε = .ok .nx ε := rfl
@[simp] theorem sDX_ev (de : Dn Fv) (ε : Ev) : sDX de ε = (de ε).bind kX := rfl
def leaveJ (ε : Ev) (j : Nat) : Option (Fl × Ev) := match ε[j]? with
  | some (.sh d) => some (.rt (.sh d), ε)
  | some (.ow d) => some (.rt (.fr d), ε.set j .no)
  | _ => none
def consL (s : Sl) : Option (Fl × Ev) → Option (Fl × Ev)
  | some (f, ε) => some (f, s :: ε)
  | none => none
@[simp] theorem consL_some (s : Sl) (f : Fl) (ε : Ev) : consL s (some (f, ε)) = some (f, s :: ε) := rfl
@[simp] theorem leaveJ_sh (d : D) (ε : Ev) : leaveJ (.sh d :: ε) 0 = some (.rt (.sh d), .sh d :: ε) := rfl
@[simp] theorem leaveJ_ow (d : D) (ε : Ev) : leaveJ (.ow d :: ε) 0 = some (.rt (.fr d), .no :: ε) := rfl
@[simp] theorem leaveJ_s (s : Sl) (ε : Ev) (j : Nat) : leaveJ (s :: ε) (j + 1) = consL s (leaveJ ε j) := by
  unfold leaveJ
  rw [List.getElem?_cons_succ]
  cases ε[j]? with
  | none => rfl
  | some t => cases t <;> rfl
def flO : Option (Fl × Ev) → Re Fl
  | some (f, ε) => .ok f ε
  | none => .no
@[simp] theorem flO_some (f : Fl) (ε : Ev) : flO (some (f, ε)) = .ok f ε := rfl
@[simp] theorem retF_at (j : Nat) (ε : Ev) : retF ε (.at j) = flO (leaveJ ε j) := by
  unfold retF leaveJ
  dsimp only
  cases ε[j]? with
  | none => rfl
  | some t => cases t <;> rfl
@[simp] theorem retF_sh (d : D) (ε : Ev) : retF ε (.sh d) = .ok (.rt (.sh d)) ε := rfl
@[simp] theorem retF_fr (d : D) (ε : Ev) : retF ε (.fr d) = .ok (.rt (.fr d)) ε := rfl
def kRet  (fv : Fv) (ε : Ev) : Re Fl := retF ε fv
@[simp] theorem kRet_ev  (fv : Fv) (ε : Ev) : kRet fv ε = retF ε fv := rfl
@[simp] theorem sDR_ev (de : Dn Fv) (ε : Ev) : sDR de ε = (de ε).bind kRet := rfl
@[simp] theorem sDRN_ev (ε : Ev) : sDRN ε = .ok (.rt (.sh .non)) ε := rfl
def shO : Option (D × Ev) → Re Fv
  | some (d, ε) => .ok (.sh d) ε
  | none => .no
@[simp] theorem shO_some (d : D) (ε : Ev) : shO (some (d, ε)) = .ok (.sh d) ε := rfl
@[simp] theorem resF_at (j : Nat) (ε : Ev) : resF (.at j) ε = shO (resJ ε j) := by
  unfold resF resJ
  dsimp only
  cases ε[j]? with
  | none => rfl
  | some t => cases t <;> rfl
@[simp] theorem resF_sh (d : D) (ε : Ev) : resF (.sh d) ε = .ok (.sh d) ε := rfl
@[simp] theorem resF_fr (d : D) (ε : Ev) : resF (.fr d) ε = .ok (.fr d) ε := rfl
@[simp] theorem afN_ev (ε : Ev) : afN ε = .ok [] ε := rfl
def kAF3 (x : Fv) (xs : List Fv) (ε : Ev) : Re (List Fv) := .ok (x :: xs) ε
@[simp] theorem kAF3_ev (x : Fv) (xs : List Fv) (ε : Ev) : kAF3 x xs ε = .ok (x :: xs) ε := rfl
def kAF2 (db : Dn (List Fv)) (x : Fv) (ε : Ev) : Re (List Fv) := (db ε).bind (kAF3 x)
@[simp] theorem kAF2_ev (db : Dn (List Fv)) (x : Fv) (ε : Ev) : kAF2 db x ε = (db ε).bind (kAF3 x) := rfl
def kAF1 (db : Dn (List Fv)) (x : Fv) (ε : Ev) : Re (List Fv) := (resF x ε).bind (kAF2 db)
@[simp] theorem kAF1_ev (db : Dn (List Fv)) (x : Fv) (ε : Ev) : kAF1 db x ε = (resF x ε).bind (kAF2 db) := rfl
@[simp] theorem afC_ev (da : Dn Fv) (db : Dn (List Fv)) (ε : Ev) : afC da db ε = (da ε).bind (kAF1 db) := rfl
def setLK (is : List Nat) (fs : List Fv) : Option Ev → Option Ev
  | some ε => setL ε is fs
  | none => none
@[simp] theorem setLK_some (is : List Nat) (fs : List Fv) (ε : Ev) : setLK is fs (some ε) = setL ε is fs := rfl
@[simp] theorem setL_n (ε : Ev) : setL ε [] [] = some ε := rfl
@[simp] theorem setL_c (ε : Ev) (i : Nat) (is : List Nat) (f : Fv) (fs : List Fv) : setL ε (i :: is) (f :: fs) = setLK is fs (setS ε i f) := by
  conv => lhs; unfold setL
  cases setS ε i f <;> rfl
def kPar (is : List Nat) (fs : List Fv) (ε : Ev) : Re Fl := nxO (setL ε is fs)
@[simp] theorem kPar_ev (is : List Nat) (fs : List Fv) (ε : Ev) : kPar is fs ε = nxO (setL ε is fs) := rfl
@[simp] theorem sDPar_ev (is : List Nat) (da : Dn (List Fv)) (ε : Ev) : sDPar is da ε = (da ε).bind (kPar is) := by
  rfl
@[simp] theorem tgN_ev (i : Nat) (d : D) (ε : Ev) : tgN i d ε = setS ε i (.sh d) := rfl
@[simp] theorem tgsN_ev (ε : Ev) : tgsN [] ε = some ε := rfl
def tgK (gs : List D → Ev → Option Ev) (ds : List D) : Option Ev → Option Ev
  | some ε => gs ds ε
  | none => none
@[simp] theorem tgK_some (gs : List D → Ev → Option Ev) (ds : List D) (ε : Ev) : tgK gs ds (some ε) = gs ds ε := rfl
@[simp] theorem tgsC_ev (g : Tg) (gs : List D → Ev → Option Ev) (d : D) (ds : List D) (ε : Ev) : tgsC g gs (d :: ds) ε = tgK gs ds (g d ε) := by
  unfold tgsC
  dsimp only
  cases g d ε <;> rfl
@[simp] theorem tgT_ev (n : Nat) (gs : List D → Ev → Option Ev) (ds : List D) (ε : Ev) : tgT n gs (.tup ds) ε = if ds.length = n then gs ds ε else none := rfl
def asgF (g : Tg) (fv : Fv) (ε : Ev) : Re Fl := match fv with
  | .sh d => nxO (g d ε)
  | .fr d => nxO (g d ε)
  | .at j => match ε[j]? with
    | some (.sh d) => nxO (g d ε)
    | _ => .no
@[simp] theorem asgF_sh (g : Tg) (d : D) (ε : Ev) : asgF g (.sh d) ε = nxO (g d ε) := rfl
@[simp] theorem asgF_fr (g : Tg) (d : D) (ε : Ev) : asgF g (.fr d) ε = nxO (g d ε) := rfl
def asgJ (g : Tg) (ε : Ev) : Option Sl → Re Fl
  | some (.sh d) => nxO (g d ε)
  | _ => .no
@[simp] theorem asgJ_sh (g : Tg) (ε : Ev) (d : D) : asgJ g ε (some (.sh d)) = nxO (g d ε) := rfl
@[simp] theorem asgF_at (g : Tg) (j : Nat) (ε : Ev) : asgF g (.at j) ε = asgJ g ε ε[j]? := by
  unfold asgF asgJ
  rfl
@[simp] theorem sDAsg_ev (de : Dn Fv) (g : Tg) (ε : Ev) : sDAsg de g ε = (de ε).bind (asgF g) := by
  rfl
def kPut3  (x : Fv) (ε : Ev) : Re Fl := .ok .nx ε
@[simp] theorem kPut3_ev  (x : Fv) (ε : Ev) : kPut3 x ε = .ok .nx ε := rfl
def kPut2 (v : Fv) (j : Nat) (y : Fv) (ε : Ev) : Re Fl := (mutF setD j [v.old, y.old] ε).bind kPut3
@[simp] theorem kPut2_ev (v : Fv) (j : Nat) (y : Fv) (ε : Ev) : kPut2 v j y ε = (mutF setD j [v.old, y.old] ε).bind kPut3 := rfl
def kPut1 (dk : Dn Fv) (v : Fv) (x : Fv) (ε : Ev) : Re Fl := match x with
  | .at j => (dk ε).bind (kPut2 v j)
  | _ => .no
@[simp] theorem kPut1_at (dk : Dn Fv) (v : Fv) (j : Nat) (ε : Ev) : kPut1 dk v (.at j) ε = (dk ε).bind (kPut2 v j) := rfl
def kPut0 (do_ : Dn Fv) (dk : Dn Fv) (v : Fv) (ε : Ev) : Re Fl := (do_ ε).bind (kPut1 dk v)
@[simp] theorem kPut0_ev (do_ : Dn Fv) (dk : Dn Fv) (v : Fv) (ε : Ev) : kPut0 do_ dk v ε = (do_ ε).bind (kPut1 dk v) := rfl
@[simp] theorem sDDput_ev (do_ dk dv : Dn Fv) (ε : Ev) : sDDput do_ dk dv ε = (dv ε).bind (kPut0 do_ dk) := rfl
def kAug3 (i : Nat) (z : Fv) (ε : Ev) : Re Fl := nxO (setS ε i z.old)
@[simp] theorem kAug3_ev (i : Nat) (z : Fv) (ε : Ev) : kAug3 i z ε = nxO (setS ε i z.old) := rfl
def kAug2 (i : Nat) (f : D → D → Option Fv) (d : D) (ε : Ev) : Option D → Re Fl
  | some e => (finV ε (f d e)).bind (kAug3 i)
  | none => .no
@[simp] theorem kAug2_some (i : Nat) (f : D → D → Option Fv) (d : D) (ε : Ev) (e : D) : kAug2 i f d ε (some e) = (finV ε (f d e)).bind (kAug3 i) := rfl
def kAug1 (i : Nat) (f : D → D → Option Fv) (d : D) (fv : Fv) (ε : Ev) : Re Fl := kAug2 i f d ε (rd ε fv.old)
@[simp] theorem kAug1_ev (i : Nat) (f : D → D → Option Fv) (d : D) (fv : Fv) (ε : Ev) : kAug1 i f d fv ε = kAug2 i f d ε (rd ε fv.old) := rfl
def kAug0 (i : Nat) (f : D → D → Option Fv) (de : Dn Fv) (ε : Ev) : Option Sl → Re Fl
  | some (.sh d) => (de ε).bind (kAug1 i f d)
  | _ => .no
@[simp] theorem kAug0_sh (i : Nat) (f : D → D → Option Fv) (de : Dn Fv) (ε : Ev) (d : D) : kAug0 i f de ε (some (.sh d)) = (de ε).bind (kAug1 i f d) := rfl
theorem sDAug_ev (i : Nat) (f : D → D → Option Fv) (hf : ∀ d e z, f d e ≠ some (.fr z)) (de : Dn Fv) (ε : Ev) : sDAug i f de ε = kAug0 i f de ε ε[i]? := by
  unfold sDAug kAug0
  cases ε[i]? with
  | none => rfl
  | some s =>
    cases s with
    | sh d =>
      dsimp only
      congr 1
      funext fv ε1
      unfold kAug1 kAug2
      cases rd ε1 fv.old with
      | none => rfl
      | some e =>
        dsimp only
        cases q : f d e with
        | none => rfl
        | some z =>
          cases z with
          | sh z => dsimp only [finV, kAug3, bind_ok, Fv.old]; cases setS ε1 i (.sh z) <;> rfl
          | fr z => exact absurd q (hf d e z)
          | «at» z => rfl
    | _ => rfl
@[simp] theorem augAdd_ev (i : Nat) (de : Dn Fv) (ε : Ev) : sDAug i augD de ε = kAug0 i augD de ε ε[i]? := sDAug_ev i _ (fun d e z h => by
  unfold augD at h
  split at h
  · cases h
  · split at h <;> cases h
  · cases h) de ε
@[simp] theorem augSub_ev (i : Nat) (de : Dn Fv) (ε : Ev) : sDAug i augSubD de ε = kAug0 i augSubD de ε ε[i]? := sDAug_ev i _ (fun d e z h => by
  unfold augSubD at h
  split at h <;> cases h) de ε
def kFor (g : Tg) (b : Dn Fl) (ds : List D) (ε : Ev) : Re Fl := forD g b ds ε
@[simp] theorem kFor_ev (g : Tg) (b : Dn Fl) (ds : List D) (ε : Ev) : kFor g b ds ε = forD g b ds ε := rfl
@[simp] theorem sDF_ev (di : Dn (List D)) (g : Tg) (b : Dn Fl) (ε : Ev) : sDF di g b ε = (di ε).bind (kFor g b) := rfl
@[simp] theorem forD_nil (g : Tg) (b : Dn Fl) (ε : Ev) : forD g b [] ε = .ok .nx ε := rfl
@[simp] theorem loopF_nx (k : Dn Fl) (ε : Ev) : loopF k .nx ε = k ε := rfl
@[simp] theorem loopF_ct (k : Dn Fl) (ε : Ev) : loopF k .ct ε = k ε := rfl
@[simp] theorem loopF_bk (k : Dn Fl) (ε : Ev) : loopF k .bk ε = .ok .nx ε := rfl
@[simp] theorem loopF_rt (k : Dn Fl) (v : Fv) (ε : Ev) : loopF k (.rt v) ε = .ok (.rt v) ε := rfl
def forK (g : Tg) (b : Dn Fl) (ds : List D) : Option Ev → Re Fl
  | some ε => (b ε).bind (loopF (forD g b ds))
  | none => .no
@[simp] theorem forK_some (g : Tg) (b : Dn Fl) (ds : List D) (ε : Ev) : forK g b ds (some ε) = (b ε).bind (loopF (forD g b ds)) := rfl
theorem forD_cons (g : Tg) (b : Dn Fl) (d : D) (ds : List D) (ε : Ev) : forD g b (d :: ds) ε = forK g b ds (g d ε) := by
  conv => lhs; unfold forD
  cases g d ε <;> rfl
def itF : Option (List D × Ev) → Re (List D)
  | some ([.lst ds], ε') => .ok ds ε'
  | some ([.tup ds], ε') => .ok ds ε'
  | some ([.str l], ε') => .ok (chrsD l) ε'
  | _ => .no
@[simp] theorem itF_lst (ds : List D) (ε : Ev) : itF (some ([.lst ds], ε)) = .ok ds ε := rfl
@[simp] theorem itF_tup (ds : List D) (ε : Ev) : itF (some ([.tup ds], ε)) = .ok ds ε := rfl
@[simp] theorem itF_str (l : List Nat) (ε : Ev) : itF (some ([.str l], ε)) = .ok (chrsD l) ε := rfl
def kIt  (fv : Fv) (ε : Ev) : Re (List D) := itF (shr [fv.old] ε)
@[simp] theorem kIt_ev  (fv : Fv) (ε : Ev) : kIt fv ε = itF (shr [fv.old] ε) := rfl
@[simp] theorem dI_ev (de : Dn Fv) (ε : Ev) : dI de ε = (de ε).bind kIt := rfl
def rgF1 (ε : Ev) : Option (List D) → Re (List D)
  | some [.int j] => if -(2 ^ 62) ≤ j ∧ j < 2 ^ 62 then .ok (rngD 0 j.toNat) ε else .no
  | _ => .no
@[simp] theorem rgF1_int (j : Int) (ε : Ev) : rgF1 ε (some [.int j]) = if -(2 ^ 62) ≤ j ∧ j < 2 ^ 62 then .ok (rngD 0 j.toNat) ε else .no := rfl
@[simp] theorem rng1_ev (fs : List Fv) (ε : Ev) : rng1 fs ε = rgF1 ε (rds ε fs) := rfl
def rgF2 (ε : Ev) : Option (List D) → Re (List D)
  | some [.int i, .int j] => if -(2 ^ 62) ≤ i ∧ i < 2 ^ 62 ∧ -(2 ^ 62) ≤ j ∧ j < 2 ^ 62 then .ok (rngD i (j - i).toNat) ε else .no
  | _ => .no
@[simp] theorem rgF2_int (i j : Int) (ε : Ev) : rgF2 ε (some [.int i, .int j]) = if -(2 ^ 62) ≤ i ∧ i < 2 ^ 62 ∧ -(2 ^ 62) ≤ j ∧ j < 2 ^ 62 then .ok (rngD i (j - i).toNat) ε else .no := rfl
@[simp] theorem rng2_ev (fs : List Fv) (ε : Ev) : rng2 fs ε = rgF2 ε (rds ε fs) := rfl
def enF : Option (List D × Ev) → Re (List D)
  | some ([.lst ds], ε') => .ok (enumD ds) ε'
  | some ([.str l], ε') => .ok (enumD (chrsD l)) ε'
  | _ => .no
@[simp] theorem enF_lst (ds : List D) (ε : Ev) : enF (some ([.lst ds], ε)) = .ok (enumD ds) ε := rfl
@[simp] theorem enF_str (l : List Nat) (ε : Ev) : enF (some ([.str l], ε)) = .ok (enumD (chrsD l)) ε := rfl
@[simp] theorem enumF_ev (fs : List Fv) (ε : Ev) : enumF fs ε = enF (shr fs ε) := rfl
def lrF (ε : Ev) : Option D → Re Fv
  | some (.int n) => if -(2 ^ 62) ≤ n ∧ n ≤ 16000000 then .ok (.fr (.lst (rngD 0 n.toNat))) ε else .no
  | _ => .no
@[simp] theorem lrF_int (n : Int) (ε : Ev) : lrF ε (some (.int n)) = if -(2 ^ 62) ≤ n ∧ n ≤ 16000000 then .ok (.fr (.lst (rngD 0 n.toNat))) ε else .no := rfl
@[simp] theorem lrng1_ev (fv : Fv) (ε : Ev) : lrng1 fv ε = lrF ε (rd ε fv) := rfl
/-! a def -/
@[simp] theorem startE_n : startE [] [] = [] := rfl
@[simp] theorem startE_t (m : List Bool) (d : D) (ds : List D) : startE (true :: m) (d :: ds) = .io d :: startE m ds := rfl
@[simp] theorem startE_f (m : List Bool) (d : D) (ds : List D) : startE (false :: m) (d :: ds) = .sh d :: startE m ds := rfl
def consOut (d : D) : Option (List D) → Option (List D)
  | some r => some (d :: r)
  | none => none
@[simp] theorem consOut_some (d : D) (r : List D) : consOut d (some r) = some (d :: r) := rfl
@[simp] theorem outsE_n (ε : Ev) : outsE [] ε = some [] := rfl
@[simp] theorem outsE_t (m : List Bool) (d : D) (ε : Ev) : outsE (true :: m) (.io d :: ε) = consOut d (outsE m ε) := by
  conv => lhs; unfold outsE
  cases outsE m ε <;> rfl
@[simp] theorem outsE_f (m : List Bool) (s : Sl) (ε : Ev) : outsE (false :: m) (s :: ε) = outsE m ε := rfl
def excO (x : Xc) : Option (List D) → Rf
  | some outs => .exc x outs
  | none => .no
def endO (r : Fv) : Option (List D) → Rf
  | some outs => .ok r outs
  | none => .no
@[simp] theorem endO_some (outs : List D) (r : Fv) : endO r (some outs) = .ok r outs := rfl
@[simp] theorem excO_some (outs : List D) (x : Xc) : excO x (some outs) = .exc x outs := rfl
def fnE (mask : List Bool) : Re Fl → Rf
  | .ok fl ε => endF mask fl ε
  | .exc x ε => excO x (outsE mask ε)
  | .no => .no
@[simp] theorem fnE_exc (mask : List Bool) (x : Xc) (ε : Ev) : fnE mask (.exc x ε) = excO x (outsE mask ε) := rfl
@[simp] theorem fnE_nx (mask : List Bool) (ε : Ev) : fnE mask (.ok .nx ε) = endO (.sh .non) (outsE mask ε) := by
  unfold fnE endF endO
  dsimp only
  all_goals (cases outsE mask ε <;> rfl)
@[simp] theorem fnE_sh (mask : List Bool) (d : D) (ε : Ev) : fnE mask (.ok (.rt (.sh d)) ε) = endO (.sh d) (outsE mask ε) := by
  unfold fnE endF endO
  dsimp only
  all_goals (cases outsE mask ε <;> rfl)
@[simp] theorem fnE_fr (mask : List Bool) (d : D) (ε : Ev) : fnE mask (.ok (.rt (.fr d)) ε) = endO (.fr d) (outsE mask ε) := by
  unfold fnE endF endO
  dsimp only
  all_goals (cases outsE mask ε <;> rfl)
theorem body_ev (mask : List Bool) (n : Nat) (den : Dn Fl) (ds : List D) : bodyF mask n den ds = fnE mask (den (startE mask ds ++ List.replicate (n - mask.length) .no)) := by
  unfold bodyF fnE excO
  rfl
end
end PL

/-! PXE: evaluation of raise, catch, zip -/
namespace PL
open PySem PySem.Spec PyProof.Rows L2 AB
open TL (tl)
@[simp] theorem zpF_lst (xs ys : List D) (ε : Ev) : zpF (some ([.lst xs, .lst ys], ε)) = .ok (zipD xs ys) ε := rfl
@[simp] theorem zpF_tup (xs ys : List D) (ε : Ev) : zpF (some ([.tup xs, .tup ys], ε)) = .ok (zipD xs ys) ε := rfl
@[simp] theorem zipF_ev (fs : List Fv) (ε : Ev) : zipF fs ε = zpF (shr fs ε) := rfl
@[simp] theorem enF3_lst (ds : List D) (ε : Ev) : enF3 (some ([.lst ds], ε)) = .ok (enumD ds) ε := rfl
@[simp] theorem enF3_tup (ds : List D) (ε : Ev) : enF3 (some ([.tup ds], ε)) = .ok (enumD ds) ε := rfl
@[simp] theorem enF3_str (l : List Nat) (ε : Ev) : enF3 (some ([.str l], ε)) = .ok (enumD (chrsD l)) ε := rfl
@[simp] theorem enumF3_ev (fs : List Fv) (ε : Ev) : enumF3 fs ε = enF3 (shr fs ε) := rfl
def kCD (mask : List Bool) (f : List D → Rf) (v : Int) (fs : List Fv) (ε : Ev) : Re Fv := callF mask f (fs ++ [.sh (.int v)]) ε
@[simp] theorem kCD_ev (mask : List Bool) (f : List D → Rf) (v : Int) (fs : List Fv) (ε : Ev) : kCD mask f v fs ε = callF mask f (fs ++ [.sh (.int v)]) ε := rfl
@[simp] theorem dCallD_ev (mask : List Bool) (f : List D → Rf) (v : Int) (da : Dn (List Fv)) (ε : Ev) : dCallD mask f v da ε = (da ε).bind (kCD mask f v) := rfl
def cr3 (ε : Ev) : Rf → Re Fv
  | .ok (.sh d) [] => if flatD d = true then .ok (.sh d) ε else .no
  | .exc x [] => if x.fs.all (fun p => flatD p.2) = true then .exc x ε else .no
  | _ => .no
@[simp] theorem cr3_ok (d : D) (ε : Ev) : cr3 ε (.ok (.sh d) []) = if flatD d = true then .ok (.sh d) ε else .no := rfl
@[simp] theorem cr3_exc (x : Xc) (ε : Ev) : cr3 ε (.exc x []) = if x.fs.all (fun p => flatD p.2) = true then .exc x ε else .no := rfl
@[simp] theorem callRk_some (m : Nat) (f : List D → Rf) (ε : Ev) (ds : List D) : callRk m f ε (some ds) = if ds.length = m ∧ ds.all noIns = true then cr3 ε (f ds) else .no := by
  show (if _ then _ else _) = _
  split
  · unfold cr3
    cases f ds with
    | no => rfl
    | exc x o => cases o <;> rfl
    | ok r o => cases r <;> cases o <;> rfl
  · rfl
@[simp] theorem callRF_ev (m : Nat) (f : List D → Rf) (fs : List Fv) (ε : Ev) : callRF m f fs ε = callRk m f ε (rds ε fs) := rfl
@[simp] theorem dCallR_ev (m : Nat) (f : List D → Rf) (da : Dn (List Fv)) (ε : Ev) : dCallR m f da ε = (da ε).bind (callRF m f) := rfl
@[simp] theorem flatD_non : flatD .non = true := rfl
@[simp] theorem flatD_bl (b : Bool) : flatD (.bl b) = true := rfl
@[simp] theorem flatD_int (i : Int) : flatD (.int i) = true := rfl
@[simp] theorem flatD_str (l : List Nat) : flatD (.str l) = true := rfl
@[simp] theorem noIns_lst (l : List D) : noIns (.lst l) = true := rfl
@[simp] theorem noIns_tup (l : List D) : noIns (.tup l) = true := rfl
@[simp] theorem noIns_str (l : List Nat) : noIns (.str l) = true := rfl
@[simp] theorem noIns_int (i : Int) : noIns (.int i) = true := rfl
@[simp] theorem noIns_bl (b : Bool) : noIns (.bl b) = true := rfl
@[simp] theorem noIns_non : noIns .non = true := rfl
@[simp] theorem noIns_dct (l : List (Key × D)) : noIns (.dct l) = true := rfl
def rsF (x : Str) (fs : List Str) : Option (List D × Ev) → Re Fl
  | some (ds, ε') => if ds.length = fs.length then .exc ⟨x, fs.zip ds⟩ ε' else .no
  | none => .no
@[simp] theorem rsF_some (x : Str) (fs : List Str) (ds : List D) (ε : Ev) : rsF x fs (some (ds, ε)) = if ds.length = fs.length then .exc ⟨x, fs.zip ds⟩ ε else .no := rfl
@[simp] theorem raiseF_ev (x : Str) (fs : List Str) (vs : List Fv) (ε : Ev) : raiseF x fs vs ε = rsF x fs (shr vs ε) := by
  unfold raiseF rsF
  cases shr vs ε with
  | none => rfl
  | some r => rfl
@[simp] theorem sDRaise_ev (x : Str) (fs : List Str) (da : Dn (List Fv)) (ε : Ev) : sDRaise x fs da ε = (da ε).bind (raiseF x fs) := rfl
def ctO (wrap : D → D) : Option (List D × Ev) → Re Fv
  | some ([d], ε2) => .ok (.sh (wrap d)) ε2
  | _ => .no
@[simp] theorem ctO_some (wrap : D → D) (d : D) (ε : Ev) : ctO wrap (some ([d], ε)) = .ok (.sh (wrap d)) ε := rfl
def ctE (ε : Ev) : Option D → Re Fv
  | some d => .ok (.sh d) ε
  | none => .no
@[simp] theorem ctE_some (d : D) (ε : Ev) : ctE ε (some d) = .ok (.sh d) ε := rfl
@[simp] theorem catR_ok (hd : Xc → Option D) (wrap : D → D) (fv : Fv) (ε : Ev) : catR hd wrap (.ok fv ε) = ctO wrap (shr [fv.old] ε) := by
  show catO wrap fv ε = _
  unfold catO ctO
  rfl
@[simp] theorem catR_exc (hd : Xc → Option D) (wrap : D → D) (x : Xc) (ε : Ev) : catR hd wrap (.exc x ε) = ctE ε (hd x) := by
  show catE hd x ε = _
  unfold catE ctE
  rfl
@[simp] theorem dCatch_ev (hd : Xc → Option D) (wrap : D → D) (den : Dn Fv) (ε : Ev) : dCatch hd wrap den ε = catR hd wrap (den ε) := rfl
end PL

namespace Den
open PySem PySem.Spec PyProof.Rows L2 AB PL
open TL (tl)
-- is_integer 0:value
def B_is_integer_0 : Dn Fl := (sDR (eDA (dN isiD (aCons (dV 0) (aCons (dC (.ty "int")) aNil))) (eDNt (dN isiD (aCons (dV 0) (aCons (dC (.ty "bool")) aNil))))))
@[simp] theorem B_is_integer_0_ev (ε : Ev) : B_is_integer_0 ε = (sDR (eDA (dN isiD (aCons (dV 0) (aCons (dC (.ty "int")) aNil))) (eDNt (dN isiD (aCons (dV 0) (aCons (dC (.ty "bool")) aNil)))))) ε := rfl
def F_is_integer : List D → Rf := bodyF [false] 1 B_is_integer_0
theorem F_is_integer_ev (ds : List D) : F_is_integer ds = fnE [false] (B_is_integer_0 (startE [false] ds ++ List.replicate 0 .no)) := body_ev _ _ _ _
-- is_within 0:value 1:least 2:greatest
def B_is_within_0 : Dn Fl := (sDR (eDA (dCall [false] F_is_integer (aCons (dV 0) aNil)) (dChain leD leD (dV 1) (dV 0) (dV 2))))
@[simp] theorem B_is_within_0_ev (ε : Ev) : B_is_within_0 ε = (sDR (eDA (dCall [false] F_is_integer (aCons (dV 0) aNil)) (dChain leD leD (dV 1) (dV 0) (dV 2)))) ε := rfl
def F_is_within : List D → Rf := bodyF [false, false, false] 3 B_is_within_0
theorem F_is_within_ev (ds : List D) : F_is_within ds = fnE [false, false, false] (B_is_within_0 (startE [false, false, false] ds ++ List.replicate 0 .no)) := body_ev _ _ _ _
-- is_text 0:value 1:letter
def B_is_text_0 : Dn Fl := (sDR (eDA (dN isiD (aCons (dV 0) (aCons (dC (.ty "str")) aNil))) (dN allD (aCons (dLc (dI (dV 0)) [1] (tgN 1) (fun ε => .ok true ε) (d2 (inO false) (dV 1) (dC (.str (tl lettersS))))) aNil))))
@[simp] theorem B_is_text_0_ev (ε : Ev) : B_is_text_0 ε = (sDR (eDA (dN isiD (aCons (dV 0) (aCons (dC (.ty "str")) aNil))) (dN allD (aCons (dLc (dI (dV 0)) [1] (tgN 1) (fun ε => .ok true ε) (d2 (inO false) (dV 1) (dC (.str (tl lettersS))))) aNil)))) ε := rfl
def F_is_text : List D → Rf := bodyF [false] 2 B_is_text_0
theorem F_is_text_ev (ds : List D) : F_is_text ds = fnE [false] (B_is_text_0 (startE [false] ds ++ List.replicate 1 .no)) := body_ev _ _ _ _
-- places 0:text 1:word 2:found 3:place
def B_places_0 : Dn Fl := (sDR (dV 2))
@[simp] theorem B_places_0_ev (ε : Ev) : B_places_0 ε = (sDR (dV 2)) ε := rfl
def B_places_1 : Dn Fl := (sDSet 3 (dMs findD (dV 0) (aCons (dV 1) (aCons (d2 addD (dV 3) (dC (.int 1))) aNil))))
@[simp] theorem B_places_1_ev (ε : Ev) : B_places_1 ε = (sDSet 3 (dMs findD (dV 0) (aCons (dV 1) (aCons (d2 addD (dV 3) (dC (.int 1))) aNil)))) ε := rfl
def B_places_2 : Dn Fl := (bDC (sDX (dMut isLst appD (dV 2) (aCons (dV 3) aNil))) B_places_1)
@[simp] theorem B_places_2_ev (ε : Ev) : B_places_2 ε = ((sDX (dMut isLst appD (dV 2) (aCons (dV 3) aNil))) ε).bind (thenF B_places_1) := rfl
def B_places_3 : Dn Fl := (bDC (sDW (bT (d2 geD (dV 3) (dC (.int 0))))
  B_places_2) B_places_0)
@[simp] theorem B_places_3_ev (ε : Ev) : B_places_3 ε = ((sDW (bT (d2 geD (dV 3) (dC (.int 0))))
  B_places_2) ε).bind (thenF B_places_0) := rfl
def B_places_4 : Dn Fl := (bDC (sDPar [2, 3] (afC (dLst aNil) (afC (dMs findD (dV 0) (aCons (dV 1) aNil)) afN))) B_places_3)
@[simp] theorem B_places_4_ev (ε : Ev) : B_places_4 ε = ((sDPar [2, 3] (afC (dLst aNil) (afC (dMs findD (dV 0) (aCons (dV 1) aNil)) afN))) ε).bind (thenF B_places_3) := rfl
def F_places : List D → Rf := bodyF [false, false] 4 B_places_4
theorem F_places_ev (ds : List D) : F_places ds = fnE [false, false] (B_places_4 (startE [false, false] ds ++ List.replicate 2 .no)) := body_ev _ _ _ _
-- stands_once 0:text 1:begin 2:end
def B_stands_once_0 : Dn Fl := (sDR (d2 eqO (dN lenD (aCons (dCall [false, false] F_places (aCons (dV 0) (aCons (dSl (dV 0) (some (dV 1)) (some (dV 2))) aNil))) aNil)) (dC (.int 1))))
@[simp] theorem B_stands_once_0_ev (ε : Ev) : B_stands_once_0 ε = (sDR (d2 eqO (dN lenD (aCons (dCall [false, false] F_places (aCons (dV 0) (aCons (dSl (dV 0) (some (dV 1)) (some (dV 2))) aNil))) aNil)) (dC (.int 1)))) ε := rfl
def F_stands_once : List D → Rf := bodyF [false, false, false] 3 B_stands_once_0
theorem F_stands_once_ev (ds : List D) : F_stands_once ds = fnE [false, false, false] (B_stands_once_0 (startE [false, false, false] ds ++ List.replicate 0 .no)) := body_ev _ _ _ _
-- is_swap 0:text 1:value 2:behind
def B_is_swap_0 : Dn Fl := (sDR (dCall [false, false, false] F_stands_once (aCons (dV 0) (aCons (d2 ixD (dV 1) (dC (.int 0))) (aCons (d2 ixD (dV 1) (dC (.int 1))) aNil)))))
@[simp] theorem B_is_swap_0_ev (ε : Ev) : B_is_swap_0 ε = (sDR (dCall [false, false, false] F_stands_once (aCons (dV 0) (aCons (d2 ixD (dV 1) (dC (.int 0))) (aCons (d2 ixD (dV 1) (dC (.int 1))) aNil))))) ε := rfl
def B_is_swap_1 : Dn Fl := (bDC (sDIf (tDO (tDN (tDV (dCall [false, false, false] F_is_within (aCons (d2 ixD (dV 1) (dC (.int 1))) (aCons (d2 addD (d2 ixD (dV 1) (dC (.int 0))) (dC (.int 1))) (aCons (dN lenD (aCons (dV 0) aNil)) aNil)))))) (tDN (tDV (dCall [false] F_is_text (aCons (d2 ixD (dV 1) (dC (.int 2))) aNil)))))
  (sDR (dC (.bl false)))
  bDN) B_is_swap_0)
@[simp] theorem B_is_swap_1_ev (ε : Ev) : B_is_swap_1 ε = ((sDIf (tDO (tDN (tDV (dCall [false, false, false] F_is_within (aCons (d2 ixD (dV 1) (dC (.int 1))) (aCons (d2 addD (d2 ixD (dV 1) (dC (.int 0))) (dC (.int 1))) (aCons (dN lenD (aCons (dV 0) aNil)) aNil)))))) (tDN (tDV (dCall [false] F_is_text (aCons (d2 ixD (dV 1) (dC (.int 2))) aNil)))))
  (sDR (dC (.bl false)))
  bDN) ε).bind (thenF B_is_swap_0) := rfl
def B_is_swap_2 : Dn Fl := (bDC (sDIf (tDO (tDN (tDV (dN isiD (aCons (dV 1) (aCons (dC (.ty "tuple")) aNil))))) (tDO (bT (d2 neO (dN lenD (aCons (dV 1) aNil)) (dC (.int 3)))) (tDN (tDV (dCall [false, false, false] F_is_within (aCons (d2 ixD (dV 1) (dC (.int 0))) (aCons (dV 2) (aCons (dN lenD (aCons (dV 0) aNil)) aNil))))))))
  (sDR (dC (.bl false)))
  bDN) B_is_swap_1)
@[simp] theorem B_is_swap_2_ev (ε : Ev) : B_is_swap_2 ε = ((sDIf (tDO (tDN (tDV (dN isiD (aCons (dV 1) (aCons (dC (.ty "tuple")) aNil))))) (tDO (bT (d2 neO (dN lenD (aCons (dV 1) aNil)) (dC (.int 3)))) (tDN (tDV (dCall [false, false, false] F_is_within (aCons (d2 ixD (dV 1) (dC (.int 0))) (aCons (dV 2) (aCons (dN lenD (aCons (dV 0) aNil)) aNil))))))))
  (sDR (dC (.bl false)))
  bDN) ε).bind (thenF B_is_swap_1) := rfl
def F_is_swap : List D → Rf := bodyF [false, false, false] 3 B_is_swap_2
theorem F_is_swap_ev (ds : List D) : F_is_swap ds = fnE [false, false, false] (B_is_swap_2 (startE [false, false, false] ds ++ List.replicate 0 .no)) := body_ev _ _ _ _
-- first_fault 0:text 1:value 2:behind 3:index 4:part
def B_first_fault_0 : Dn Fl := (sDR (dC .non))
@[simp] theorem B_first_fault_0_ev (ε : Ev) : B_first_fault_0 ε = (sDR (dC .non)) ε := rfl
def B_first_fault_1 : Dn Fl := (sDSet 2 (d2 ixD (dV 4) (dC (.int 1))))
@[simp] theorem B_first_fault_1_ev (ε : Ev) : B_first_fault_1 ε = (sDSet 2 (d2 ixD (dV 4) (dC (.int 1)))) ε := rfl
def B_first_fault_2 : Dn Fl := (bDC (sDIf (tDN (tDV (dCall [false, false, false] F_is_swap (aCons (dV 0) (aCons (dV 4) (aCons (dV 2) aNil))))))
  (sDR (dV 3))
  bDN) B_first_fault_1)
@[simp] theorem B_first_fault_2_ev (ε : Ev) : B_first_fault_2 ε = ((sDIf (tDN (tDV (dCall [false, false, false] F_is_swap (aCons (dV 0) (aCons (dV 4) (aCons (dV 2) aNil))))))
  (sDR (dV 3))
  bDN) ε).bind (thenF B_first_fault_1) := rfl
def B_first_fault_3 : Dn Fl := (bDC (sDF (fun ε => ((aCons (dV 1) aNil) ε).bind enumF3) (tgT 2 (tgsC (tgN 3) (tgsC (tgN 4) tgsN)))
  B_first_fault_2) B_first_fault_0)
@[simp] theorem B_first_fault_3_ev (ε : Ev) : B_first_fault_3 ε = ((sDF (fun ε => ((aCons (dV 1) aNil) ε).bind enumF3) (tgT 2 (tgsC (tgN 3) (tgsC (tgN 4) tgsN)))
  B_first_fault_2) ε).bind (thenF B_first_fault_0) := rfl
def B_first_fault_4 : Dn Fl := (bDC (sDSet 2 (dC (.int 0))) B_first_fault_3)
@[simp] theorem B_first_fault_4_ev (ε : Ev) : B_first_fault_4 ε = ((sDSet 2 (dC (.int 0))) ε).bind (thenF B_first_fault_3) := rfl
def B_first_fault_5 : Dn Fl := (bDC (sDIf (tDN (tDV (dN isiD (aCons (dV 1) (aCons (dC (.ty "tuple")) aNil)))))
  (sDR (dC (.int 0)))
  bDN) B_first_fault_4)
@[simp] theorem B_first_fault_5_ev (ε : Ev) : B_first_fault_5 ε = ((sDIf (tDN (tDV (dN isiD (aCons (dV 1) (aCons (dC (.ty "tuple")) aNil)))))
  (sDR (dC (.int 0)))
  bDN) ε).bind (thenF B_first_fault_4) := rfl
def F_first_fault : List D → Rf := bodyF [false, false] 5 B_first_fault_5
theorem F_first_fault_ev (ds : List D) : F_first_fault ds = fnE [false, false] (B_first_fault_5 (startE [false, false] ds ++ List.replicate 3 .no)) := body_ev _ _ _ _
-- put_in 0:text 1:exchange 2:found 3:behind 4:begin 5:end 6:new
def B_put_in_0 : Dn Fl := (sDR (d2 addD (dV 2) (dSl (dV 0) (some (dV 3)) none)))
@[simp] theorem B_put_in_0_ev (ε : Ev) : B_put_in_0 ε = (sDR (d2 addD (dV 2) (dSl (dV 0) (some (dV 3)) none))) ε := rfl
def B_put_in_1 : Dn Fl := (sDSet 3 (dV 5))
@[simp] theorem B_put_in_1_ev (ε : Ev) : B_put_in_1 ε = (sDSet 3 (dV 5)) ε := rfl
def B_put_in_2 : Dn Fl := (bDC (sDSet 2 (d2 addD (d2 addD (dV 2) (dSl (dV 0) (some (dV 3)) (some (dV 4)))) (dV 6))) B_put_in_1)
@[simp] theorem B_put_in_2_ev (ε : Ev) : B_put_in_2 ε = ((sDSet 2 (d2 addD (d2 addD (dV 2) (dSl (dV 0) (some (dV 3)) (some (dV 4)))) (dV 6))) ε).bind (thenF B_put_in_1) := rfl
def B_put_in_3 : Dn Fl := (bDC (sDF (dI (dV 1)) (tgT 3 (tgsC (tgN 4) (tgsC (tgN 5) (tgsC (tgN 6) tgsN))))
  B_put_in_2) B_put_in_0)
@[simp] theorem B_put_in_3_ev (ε : Ev) : B_put_in_3 ε = ((sDF (dI (dV 1)) (tgT 3 (tgsC (tgN 4) (tgsC (tgN 5) (tgsC (tgN 6) tgsN))))
  B_put_in_2) ε).bind (thenF B_put_in_0) := rfl
def B_put_in_4 : Dn Fl := (bDC (sDPar [2, 3] (afC (dC (.str (tl ("" : Str)))) (afC (dC (.int 0)) afN))) B_put_in_3)
@[simp] theorem B_put_in_4_ev (ε : Ev) : B_put_in_4 ε = ((sDPar [2, 3] (afC (dC (.str (tl ("" : Str)))) (afC (dC (.int 0)) afN))) ε).bind (thenF B_put_in_3) := rfl
def F_put_in : List D → Rf := bodyF [false, false] 7 B_put_in_4
theorem F_put_in_ev (ds : List D) : F_put_in ds = fnE [false, false] (B_put_in_4 (startE [false, false] ds ++ List.replicate 5 .no)) := body_ev _ _ _ _
-- exchanged 0:text 1:exchange 2:fault
def B_exchanged_0 : Dn Fl := (sDR (dCall [false, false] F_put_in (aCons (dV 0) (aCons (dV 1) aNil))))
@[simp] theorem B_exchanged_0_ev (ε : Ev) : B_exchanged_0 ε = (sDR (dCall [false, false] F_put_in (aCons (dV 0) (aCons (dV 1) aNil)))) ε := rfl
def B_exchanged_1 : Dn Fl := (bDC (sDIf (bT (d2 isntD (dV 2) (dC .non)))
  (sDRaise "NoExchange" ["index"] (aCons (dV 2) aNil))
  bDN) B_exchanged_0)
@[simp] theorem B_exchanged_1_ev (ε : Ev) : B_exchanged_1 ε = ((sDIf (bT (d2 isntD (dV 2) (dC .non)))
  (sDRaise "NoExchange" ["index"] (aCons (dV 2) aNil))
  bDN) ε).bind (thenF B_exchanged_0) := rfl
def B_exchanged_2 : Dn Fl := (bDC (sDSet 2 (dCall [false, false] F_first_fault (aCons (dV 0) (aCons (dV 1) aNil)))) B_exchanged_1)
@[simp] theorem B_exchanged_2_ev (ε : Ev) : B_exchanged_2 ε = ((sDSet 2 (dCall [false, false] F_first_fault (aCons (dV 0) (aCons (dV 1) aNil)))) ε).bind (thenF B_exchanged_1) := rfl
def F_exchanged : List D → Rf := bodyF [false, false] 3 B_exchanged_2
theorem F_exchanged_ev (ds : List D) : F_exchanged ds = fnE [false, false] (B_exchanged_2 (startE [false, false] ds ++ List.replicate 1 .no)) := body_ev _ _ _ _
-- is_exchange 0:text 1:other 2:value
def B_is_exchange_0 : Dn Fl := (sDR (eDA (d2 isD (dCall [false, false] F_first_fault (aCons (dV 0) (aCons (dV 2) aNil))) (dC .non)) (d2 eqO (dCall [false, false] F_put_in (aCons (dV 0) (aCons (dV 2) aNil))) (dV 1))))
@[simp] theorem B_is_exchange_0_ev (ε : Ev) : B_is_exchange_0 ε = (sDR (eDA (d2 isD (dCall [false, false] F_first_fault (aCons (dV 0) (aCons (dV 2) aNil))) (dC .non)) (d2 eqO (dCall [false, false] F_put_in (aCons (dV 0) (aCons (dV 2) aNil))) (dV 1)))) ε := rfl
def F_is_exchange : List D → Rf := bodyF [false, false, false] 3 B_is_exchange_0
theorem F_is_exchange_ev (ds : List D) : F_is_exchange ds = fnE [false, false, false] (B_is_exchange_0 (startE [false, false, false] ds ++ List.replicate 0 .no)) := body_ev _ _ _ _
-- cost_of 0:exchange 1:each 2:begin 3:end 4:new
def B_cost_of_0 : Dn Fl := (sDR (dN sumD (aCons (dLc (dI (dV 0)) [2, 3, 4] (tgT 3 (tgsC (tgN 2) (tgsC (tgN 3) (tgsC (tgN 4) tgsN)))) (fun ε => .ok true ε) (d2 addD (d2 addD (d2 subD (dV 3) (dV 2)) (dN lenD (aCons (dV 4) aNil))) (dV 1))) aNil)))
@[simp] theorem B_cost_of_0_ev (ε : Ev) : B_cost_of_0 ε = (sDR (dN sumD (aCons (dLc (dI (dV 0)) [2, 3, 4] (tgT 3 (tgsC (tgN 2) (tgsC (tgN 3) (tgsC (tgN 4) tgsN)))) (fun ε => .ok true ε) (d2 addD (d2 addD (d2 subD (dV 3) (dV 2)) (dN lenD (aCons (dV 4) aNil))) (dV 1))) aNil))) ε := rfl
def F_cost_of : List D → Rf := bodyF [false, false] 5 B_cost_of_0
theorem F_cost_of_ev (ds : List D) : F_cost_of ds = fnE [false, false] (B_cost_of_0 (startE [false, false] ds ++ List.replicate 3 .no)) := body_ev _ _ _ _
-- _law_pen 0:_law_script
def B_L_pen_0 : Dn Fl := (sDR (dDisp [((dC (.str (tl ("cells" : Str)))), (dN listD (aCons (dSl (dV 0) none (some (dC (.int 63)))) aNil))), ((dC (.str (tl ("turn" : Str)))), (dC (.int 0))), ((dC (.str (tl ("left" : Str)))), (dC (.int 0)))]))
@[simp] theorem B_L_pen_0_ev (ε : Ev) : B_L_pen_0 ε = (sDR (dDisp [((dC (.str (tl ("cells" : Str)))), (dN listD (aCons (dSl (dV 0) none (some (dC (.int 63)))) aNil))), ((dC (.str (tl ("turn" : Str)))), (dC (.int 0))), ((dC (.str (tl ("left" : Str)))), (dC (.int 0)))])) ε := rfl
def F_L_pen : List D → Rf := bodyF [false] 1 B_L_pen_0
theorem F_L_pen_ev (ds : List D) : F_L_pen ds = fnE [false] (B_L_pen_0 (startE [false] ds ++ List.replicate 0 .no)) := body_ev _ _ _ _
-- _law_draw 0:_law_pen_here 1:_law_many 2:_law_digit 3:_law_turn 4:_law_cell 5:_law_primes 6:_law_prime 7:_law_drawn
def B_L_draw_0 : Dn Fl := (sDR (d2 modD (dN intD (aCons (d2 fdivD (d2 modD (dN intD (aCons (d2 addD (d2 addD (d2 mulD (dV 7) (dV 7)) (d2 mulD (dC (.int 16807)) (dV 7))) (dV 3)) aNil)) (dC (.int 2147483549))) (dC (.int 64))) aNil)) (dV 1)))
@[simp] theorem B_L_draw_0_ev (ε : Ev) : B_L_draw_0 ε = (sDR (d2 modD (dN intD (aCons (d2 fdivD (d2 modD (dN intD (aCons (d2 addD (d2 addD (d2 mulD (dV 7) (dV 7)) (d2 mulD (dC (.int 16807)) (dV 7))) (dV 3)) aNil)) (dC (.int 2147483549))) (dC (.int 64))) aNil)) (dV 1))) ε := rfl
def B_L_draw_1 : Dn Fl := (bDC (sDSet 7 (d2 modD (dN intD (aCons (d2 mulD (dV 7) (d2 addD (dV 7) (dC (.int 69621)))) aNil)) (d2 ixD (dV 5) (d2 modD (dN intD (aCons (d2 addD (dV 3) (dC (.int 2))) aNil)) (dC (.int 5)))))) B_L_draw_0)
@[simp] theorem B_L_draw_1_ev (ε : Ev) : B_L_draw_1 ε = ((sDSet 7 (d2 modD (dN intD (aCons (d2 mulD (dV 7) (d2 addD (dV 7) (dC (.int 69621)))) aNil)) (d2 ixD (dV 5) (d2 modD (dN intD (aCons (d2 addD (dV 3) (dC (.int 2))) aNil)) (dC (.int 5)))))) ε).bind (thenF B_L_draw_0) := rfl
def B_L_draw_2 : Dn Fl := (bDC (sDSet 7 (d2 modD (dN intD (aCons (d2 addD (d2 addD (d2 mulD (d2 modD (dN intD (aCons (dV 4) aNil)) (dV 6)) (dC (.int 39373))) (d2 mulD (dV 3) (d2 addD (d2 mulD (dC (.int 30011)) (dV 3)) (dC (.int 8117))))) (dC (.int 23))) aNil)) (dV 6))) B_L_draw_1)
@[simp] theorem B_L_draw_2_ev (ε : Ev) : B_L_draw_2 ε = ((sDSet 7 (d2 modD (dN intD (aCons (d2 addD (d2 addD (d2 mulD (d2 modD (dN intD (aCons (dV 4) aNil)) (dV 6)) (dC (.int 39373))) (d2 mulD (dV 3) (d2 addD (d2 mulD (dC (.int 30011)) (dV 3)) (dC (.int 8117))))) (dC (.int 23))) aNil)) (dV 6))) ε).bind (thenF B_L_draw_1) := rfl
def B_L_draw_3 : Dn Fl := (bDC (sDSet 6 (d2 ixD (dV 5) (d2 modD (dN intD (aCons (dV 3) aNil)) (dC (.int 5))))) B_L_draw_2)
@[simp] theorem B_L_draw_3_ev (ε : Ev) : B_L_draw_3 ε = ((sDSet 6 (d2 ixD (dV 5) (d2 modD (dN intD (aCons (dV 3) aNil)) (dC (.int 5))))) ε).bind (thenF B_L_draw_2) := rfl
def B_L_draw_4 : Dn Fl := (bDC (sDSet 5 (dLst (aCons (dC (.int 2147483629)) (aCons (dC (.int 2147483647)) (aCons (dC (.int 2147483587)) (aCons (dC (.int 2147483563)) (aCons (dC (.int 2147483579)) aNil))))))) B_L_draw_3)
@[simp] theorem B_L_draw_4_ev (ε : Ev) : B_L_draw_4 ε = ((sDSet 5 (dLst (aCons (dC (.int 2147483629)) (aCons (dC (.int 2147483647)) (aCons (dC (.int 2147483587)) (aCons (dC (.int 2147483563)) (aCons (dC (.int 2147483579)) aNil))))))) ε).bind (thenF B_L_draw_3) := rfl
def B_L_draw_5 : Dn Fl := (sDR (d2 modD (d2 subD (dN absD (aCons (dV 4) aNil)) (d2 powD (dC (.int 10)) (dC (.int 18)))) (dV 1)))
@[simp] theorem B_L_draw_5_ev (ε : Ev) : B_L_draw_5 ε = (sDR (d2 modD (d2 subD (dN absD (aCons (dV 4) aNil)) (d2 powD (dC (.int 10)) (dC (.int 18)))) (dV 1))) ε := rfl
def B_L_draw_6 : Dn Fl := (bDC (sDDput (dV 0) (dC (.str (tl ("left" : Str)))) (d2 fdivD (d2 subD (dN absD (aCons (dV 4) aNil)) (d2 powD (dC (.int 10)) (dC (.int 18)))) (dV 1))) B_L_draw_5)
@[simp] theorem B_L_draw_6_ev (ε : Ev) : B_L_draw_6 ε = ((sDDput (dV 0) (dC (.str (tl ("left" : Str)))) (d2 fdivD (d2 subD (dN absD (aCons (dV 4) aNil)) (d2 powD (dC (.int 10)) (dC (.int 18)))) (dV 1))) ε).bind (thenF B_L_draw_5) := rfl
def B_L_draw_7 : Dn Fl := (bDC (sDIf (tDA (bT (d2 ltD (dV 3) (dN lenD (aCons (d2 ixD (dV 0) (dC (.str (tl ("cells" : Str))))) aNil)))) (bT (d2 geD (dN absD (aCons (dV 4) aNil)) (d2 powD (dC (.int 10)) (dC (.int 18))))))
  B_L_draw_6
  bDN) B_L_draw_4)
@[simp] theorem B_L_draw_7_ev (ε : Ev) : B_L_draw_7 ε = ((sDIf (tDA (bT (d2 ltD (dV 3) (dN lenD (aCons (d2 ixD (dV 0) (dC (.str (tl ("cells" : Str))))) aNil)))) (bT (d2 geD (dN absD (aCons (dV 4) aNil)) (d2 powD (dC (.int 10)) (dC (.int 18))))))
  B_L_draw_6
  bDN) ε).bind (thenF B_L_draw_4) := rfl
def B_L_draw_8 : Dn Fl := (bDC (sDIf (bT (d2 neE (d2 ixD (dV 0) (dC (.str (tl ("cells" : Str))))) (dLst aNil)))
  (sDSet 4 (d2 ixD (d2 ixD (dV 0) (dC (.str (tl ("cells" : Str))))) (d2 modD (dN intD (aCons (dV 3) aNil)) (dN lenD (aCons (d2 ixD (dV 0) (dC (.str (tl ("cells" : Str))))) aNil)))))
  bDN) B_L_draw_7)
@[simp] theorem B_L_draw_8_ev (ε : Ev) : B_L_draw_8 ε = ((sDIf (bT (d2 neE (d2 ixD (dV 0) (dC (.str (tl ("cells" : Str))))) (dLst aNil)))
  (sDSet 4 (d2 ixD (d2 ixD (dV 0) (dC (.str (tl ("cells" : Str))))) (d2 modD (dN intD (aCons (dV 3) aNil)) (dN lenD (aCons (d2 ixD (dV 0) (dC (.str (tl ("cells" : Str))))) aNil)))))
  bDN) ε).bind (thenF B_L_draw_7) := rfl
def B_L_draw_9 : Dn Fl := (bDC (sDSet 4 (d2 addD (d2 mulD (dC (.int 43)) (dV 3)) (dC (.int 19)))) B_L_draw_8)
@[simp] theorem B_L_draw_9_ev (ε : Ev) : B_L_draw_9 ε = ((sDSet 4 (d2 addD (d2 mulD (dC (.int 43)) (dV 3)) (dC (.int 19)))) ε).bind (thenF B_L_draw_8) := rfl
def B_L_draw_10 : Dn Fl := (bDC (sDDput (dV 0) (dC (.str (tl ("turn" : Str)))) (d2 addD (dV 3) (dC (.int 1)))) B_L_draw_9)
@[simp] theorem B_L_draw_10_ev (ε : Ev) : B_L_draw_10 ε = ((sDDput (dV 0) (dC (.str (tl ("turn" : Str)))) (d2 addD (dV 3) (dC (.int 1)))) ε).bind (thenF B_L_draw_9) := rfl
def B_L_draw_11 : Dn Fl := (bDC (sDSet 3 (d2 ixD (dV 0) (dC (.str (tl ("turn" : Str)))))) B_L_draw_10)
@[simp] theorem B_L_draw_11_ev (ε : Ev) : B_L_draw_11 ε = ((sDSet 3 (d2 ixD (dV 0) (dC (.str (tl ("turn" : Str)))))) ε).bind (thenF B_L_draw_10) := rfl
def B_L_draw_12 : Dn Fl := (sDR (dV 2))
@[simp] theorem B_L_draw_12_ev (ε : Ev) : B_L_draw_12 ε = (sDR (dV 2)) ε := rfl
def B_L_draw_13 : Dn Fl := (bDC (sDDput (dV 0) (dC (.str (tl ("left" : Str)))) (d2 fdivD (d2 ixD (dV 0) (dC (.str (tl ("left" : Str))))) (dV 1))) B_L_draw_12)
@[simp] theorem B_L_draw_13_ev (ε : Ev) : B_L_draw_13 ε = ((sDDput (dV 0) (dC (.str (tl ("left" : Str)))) (d2 fdivD (d2 ixD (dV 0) (dC (.str (tl ("left" : Str))))) (dV 1))) ε).bind (thenF B_L_draw_12) := rfl
def B_L_draw_14 : Dn Fl := (bDC (sDSet 2 (d2 modD (dN intD (aCons (d2 ixD (dV 0) (dC (.str (tl ("left" : Str))))) aNil)) (dV 1))) B_L_draw_13)
@[simp] theorem B_L_draw_14_ev (ε : Ev) : B_L_draw_14 ε = ((sDSet 2 (d2 modD (dN intD (aCons (d2 ixD (dV 0) (dC (.str (tl ("left" : Str))))) aNil)) (dV 1))) ε).bind (thenF B_L_draw_13) := rfl
def B_L_draw_15 : Dn Fl := (bDC (sDIf (bT (d2 gtD (d2 ixD (dV 0) (dC (.str (tl ("left" : Str))))) (dC (.int 0))))
  B_L_draw_14
  bDN) B_L_draw_11)
@[simp] theorem B_L_draw_15_ev (ε : Ev) : B_L_draw_15 ε = ((sDIf (bT (d2 gtD (d2 ixD (dV 0) (dC (.str (tl ("left" : Str))))) (dC (.int 0))))
  B_L_draw_14
  bDN) ε).bind (thenF B_L_draw_11) := rfl
def F_L_draw : List D → Rf := bodyF [true, false] 8 B_L_draw_15
theorem F_L_draw_ev (ds : List D) : F_L_draw ds = fnE [true, false] (B_L_draw_15 (startE [true, false] ds ++ List.replicate 6 .no)) := body_ev _ _ _ _
-- _law_pick 0:_law_pen_here 1:_law_options
def B_L_pick_0 : Dn Fl := (sDR (d2 ixD (dV 1) (dCall [true, false] F_L_draw (aCons (dV 0) (aCons (dN lenD (aCons (dV 1) aNil)) aNil)))))
@[simp] theorem B_L_pick_0_ev (ε : Ev) : B_L_pick_0 ε = (sDR (d2 ixD (dV 1) (dCall [true, false] F_L_draw (aCons (dV 0) (aCons (dN lenD (aCons (dV 1) aNil)) aNil))))) ε := rfl
def F_L_pick : List D → Rf := bodyF [true, false] 2 B_L_pick_0
theorem F_L_pick_ev (ds : List D) : F_L_pick ds = fnE [true, false] (B_L_pick_0 (startE [true, false] ds ++ List.replicate 0 .no)) := body_ev _ _ _ _
-- _law_signs 
def B_L_signs_0 : Dn Fl := (sDR (dC (.str (tl lettersS))))
@[simp] theorem B_L_signs_0_ev (ε : Ev) : B_L_signs_0 ε = (sDR (dC (.str (tl lettersS)))) ε := rfl
def F_L_signs : List D → Rf := bodyF [] 0 B_L_signs_0
theorem F_L_signs_ev (ds : List D) : F_L_signs ds = fnE [] (B_L_signs_0 (startE [] ds ++ List.replicate 0 .no)) := body_ev _ _ _ _
-- _law_is_text 0:_law_thing 1:_law_sign
def B_L_is_text_0 : Dn Fl := (sDR (eDA (dN isiD (aCons (dV 0) (aCons (dC (.ty "str")) aNil))) (d2 eqE (dLc (dI (dV 0)) [1] (tgN 1) (bT (d2 (inO true) (dV 1) (dCall [] F_L_signs aNil))) (dV 1)) (dLst aNil))))
@[simp] theorem B_L_is_text_0_ev (ε : Ev) : B_L_is_text_0 ε = (sDR (eDA (dN isiD (aCons (dV 0) (aCons (dC (.ty "str")) aNil))) (d2 eqE (dLc (dI (dV 0)) [1] (tgN 1) (bT (d2 (inO true) (dV 1) (dCall [] F_L_signs aNil))) (dV 1)) (dLst aNil)))) ε := rfl
def F_L_is_text : List D → Rf := bodyF [false] 2 B_L_is_text_0
theorem F_L_is_text_ev (ds : List D) : F_L_is_text ds = fnE [false] (B_L_is_text_0 (startE [false] ds ++ List.replicate 1 .no)) := body_ev _ _ _ _
-- _law_is_number 0:_law_thing 1:_law_least 2:_law_greatest
def B_L_is_number_0 : Dn Fl := (sDR (eDA (dN isiD (aCons (dV 0) (aCons (dC (.ty "int")) aNil))) (eDA (eDNt (dN isiD (aCons (dV 0) (aCons (dC (.ty "bool")) aNil)))) (dChain leD leD (dV 1) (dV 0) (dV 2)))))
@[simp] theorem B_L_is_number_0_ev (ε : Ev) : B_L_is_number_0 ε = (sDR (eDA (dN isiD (aCons (dV 0) (aCons (dC (.ty "int")) aNil))) (eDA (eDNt (dN isiD (aCons (dV 0) (aCons (dC (.ty "bool")) aNil)))) (dChain leD leD (dV 1) (dV 0) (dV 2))))) ε := rfl
def F_L_is_number : List D → Rf := bodyF [false, false, false] 3 B_L_is_number_0
theorem F_L_is_number_ev (ds : List D) : F_L_is_number ds = fnE [false, false, false] (B_L_is_number_0 (startE [false, false, false] ds ++ List.replicate 0 .no)) := body_ev _ _ _ _
-- _law_few 0:_law_pen_here 1:_law_some 2:_law_rare 3:_law_k
def B_L_few_0 : Dn Fl := (sDR (dCall [true, false] F_L_pick (aCons (dV 0) (aCons (dLst (aCons (dC (.str (tl ("ab" : Str)))) (aCons (dC (.str (tl ("ab" : Str)))) (aCons (dC (.str (tl ("abc" : Str)))) (aCons (dC (.str (tl ("abc" : Str)))) (aCons (dC (.str (tl ("a b" : Str)))) (aCons (dC (.str (tl ("a\x0a" : Str)))) (aCons (dC (.str (tl ("\"\\" : Str)))) (aCons (dC (.str (tl ("x~" : Str)))) (aCons (dC (.str (tl ("01" : Str)))) (aCons (dV 2) aNil))))))))))) aNil))))
@[simp] theorem B_L_few_0_ev (ε : Ev) : B_L_few_0 ε = (sDR (dCall [true, false] F_L_pick (aCons (dV 0) (aCons (dLst (aCons (dC (.str (tl ("ab" : Str)))) (aCons (dC (.str (tl ("ab" : Str)))) (aCons (dC (.str (tl ("abc" : Str)))) (aCons (dC (.str (tl ("abc" : Str)))) (aCons (dC (.str (tl ("a b" : Str)))) (aCons (dC (.str (tl ("a\x0a" : Str)))) (aCons (dC (.str (tl ("\"\\" : Str)))) (aCons (dC (.str (tl ("x~" : Str)))) (aCons (dC (.str (tl ("01" : Str)))) (aCons (dV 2) aNil))))))))))) aNil)))) ε := rfl
def B_L_few_1 : Dn Fl := (bDC (sDSet 2 (dMs joinE (dC (.str (tl ("" : Str)))) (aCons (dLc (fun ε => ((aCons (dC (.int 3)) aNil) ε).bind rng1) [3] (tgN 3) (bT (d2 (inO true) (d2 ixD (dV 1) (dV 3)) (dSl (dV 1) none (some (dV 3))))) (d2 ixD (dV 1) (dV 3))) aNil))) B_L_few_0)
@[simp] theorem B_L_few_1_ev (ε : Ev) : B_L_few_1 ε = ((sDSet 2 (dMs joinE (dC (.str (tl ("" : Str)))) (aCons (dLc (fun ε => ((aCons (dC (.int 3)) aNil) ε).bind rng1) [3] (tgN 3) (bT (d2 (inO true) (d2 ixD (dV 1) (dV 3)) (dSl (dV 1) none (some (dV 3))))) (d2 ixD (dV 1) (dV 3))) aNil))) ε).bind (thenF B_L_few_0) := rfl
def B_L_few_2 : Dn Fl := (bDC (sDSet 1 (dLst (aCons (dCall [true, false] F_L_pick (aCons (dV 0) (aCons (dC (.str (tl (Txt.replace lettersS "q" "")))) aNil))) (aCons (dCall [true, false] F_L_pick (aCons (dV 0) (aCons (dC (.str (tl ("yz" : Str)))) aNil))) (aCons (dCall [true, false] F_L_pick (aCons (dV 0) (aCons (dC (.str (tl ("(\x0a" : Str)))) aNil))) aNil))))) B_L_few_1)
@[simp] theorem B_L_few_2_ev (ε : Ev) : B_L_few_2 ε = ((sDSet 1 (dLst (aCons (dCall [true, false] F_L_pick (aCons (dV 0) (aCons (dC (.str (tl (Txt.replace lettersS "q" "")))) aNil))) (aCons (dCall [true, false] F_L_pick (aCons (dV 0) (aCons (dC (.str (tl ("yz" : Str)))) aNil))) (aCons (dCall [true, false] F_L_pick (aCons (dV 0) (aCons (dC (.str (tl ("(\x0a" : Str)))) aNil))) aNil))))) ε).bind (thenF B_L_few_1) := rfl
def F_L_few : List D → Rf := bodyF [true] 4 B_L_few_2
theorem F_L_few_ev (ds : List D) : F_L_few ds = fnE [true] (B_L_few_2 (startE [true] ds ++ List.replicate 3 .no)) := body_ev _ _ _ _
-- _law_word 0:_law_pen_here 1:_law_signs_here 2:_law_least 3:_law_most_letters 4:_law_many 5:_law_k
def B_L_word_0 : Dn Fl := (sDR (dMs joinE (dC (.str (tl ("" : Str)))) (aCons (dLc (fun ε => ((aCons (dV 4) aNil) ε).bind rng1) [5] (tgN 5) (fun ε => .ok true ε) (dCall [true, false] F_L_pick (aCons (dV 0) (aCons (dV 1) aNil)))) aNil)))
@[simp] theorem B_L_word_0_ev (ε : Ev) : B_L_word_0 ε = (sDR (dMs joinE (dC (.str (tl ("" : Str)))) (aCons (dLc (fun ε => ((aCons (dV 4) aNil) ε).bind rng1) [5] (tgN 5) (fun ε => .ok true ε) (dCall [true, false] F_L_pick (aCons (dV 0) (aCons (dV 1) aNil)))) aNil))) ε := rfl
def B_L_word_1 : Dn Fl := (bDC (sDSet 4 (d2 addD (dV 2) (dCall [true, false] F_L_draw (aCons (dV 0) (aCons (d2 addD (d2 subD (dV 3) (dV 2)) (dC (.int 1))) aNil))))) B_L_word_0)
@[simp] theorem B_L_word_1_ev (ε : Ev) : B_L_word_1 ε = ((sDSet 4 (d2 addD (dV 2) (dCall [true, false] F_L_draw (aCons (dV 0) (aCons (d2 addD (d2 subD (dV 3) (dV 2)) (dC (.int 1))) aNil))))) ε).bind (thenF B_L_word_0) := rfl
def F_L_word : List D → Rf := bodyF [true, false, false, false] 6 B_L_word_1
theorem F_L_word_ev (ds : List D) : F_L_word ds = fnE [true, false, false, false] (B_L_word_1 (startE [true, false, false, false] ds ++ List.replicate 2 .no)) := body_ev _ _ _ _
-- _law_places 0:_law_text_here 1:_law_was 2:_law_size 3:_law_k
def B_L_places_0 : Dn Fl := (sDR (dLc (fun ε => ((aCons (d2 addD (d2 subD (dN lenD (aCons (dV 0) aNil)) (dV 2)) (dC (.int 1))) aNil) ε).bind rng1) [3] (tgN 3) (bT (d2 eqO (dSl (dV 0) (some (dV 3)) (some (d2 addD (dV 3) (dV 2)))) (dV 1))) (dV 3)))
@[simp] theorem B_L_places_0_ev (ε : Ev) : B_L_places_0 ε = (sDR (dLc (fun ε => ((aCons (d2 addD (d2 subD (dN lenD (aCons (dV 0) aNil)) (dV 2)) (dC (.int 1))) aNil) ε).bind rng1) [3] (tgN 3) (bT (d2 eqO (dSl (dV 0) (some (dV 3)) (some (d2 addD (dV 3) (dV 2)))) (dV 1))) (dV 3))) ε := rfl
def B_L_places_1 : Dn Fl := (bDC (sDSet 2 (dN lenD (aCons (dV 1) aNil))) B_L_places_0)
@[simp] theorem B_L_places_1_ev (ε : Ev) : B_L_places_1 ε = ((sDSet 2 (dN lenD (aCons (dV 1) aNil))) ε).bind (thenF B_L_places_0) := rfl
def F_L_places : List D → Rf := bodyF [false, false] 4 B_L_places_1
theorem F_L_places_ev (ds : List D) : F_L_places ds = fnE [false, false] (B_L_places_1 (startE [false, false] ds ++ List.replicate 2 .no)) := body_ev _ _ _ _
-- _law_any_value 0:_law_pen_here 1:_law_some
def B_L_any_value_0 : Dn Fl := (sDR (dCall [true, false] F_L_pick (aCons (dV 0) (aCons (d2 addD (dV 1) (dLst (aCons (dTup (aCons (dC (.str (tl ("a" : Str)))) (aCons (d2 mulD (dC (.str (tl ("b" : Str)))) (dC (.int 41))) aNil))) (aCons (d2 mulD (dC (.str (tl ("a" : Str)))) (dC (.int 41))) (aCons (d2 mulD (dC (.str (tl ("b" : Str)))) (dC (.int 50))) (aCons (dTup (aCons (dC (.int 0)) (aCons (dC (.int 1)) aNil))) (aCons (dLst aNil) (aCons (dTup (aCons (dC (.str (tl ("a" : Str)))) (aCons (dC .non) aNil))) aNil)))))))) aNil))))
@[simp] theorem B_L_any_value_0_ev (ε : Ev) : B_L_any_value_0 ε = (sDR (dCall [true, false] F_L_pick (aCons (dV 0) (aCons (d2 addD (dV 1) (dLst (aCons (dTup (aCons (dC (.str (tl ("a" : Str)))) (aCons (d2 mulD (dC (.str (tl ("b" : Str)))) (dC (.int 41))) aNil))) (aCons (d2 mulD (dC (.str (tl ("a" : Str)))) (dC (.int 41))) (aCons (d2 mulD (dC (.str (tl ("b" : Str)))) (dC (.int 50))) (aCons (dTup (aCons (dC (.int 0)) (aCons (dC (.int 1)) aNil))) (aCons (dLst aNil) (aCons (dTup (aCons (dC (.str (tl ("a" : Str)))) (aCons (dC .non) aNil))) aNil)))))))) aNil)))) ε := rfl
def B_L_any_value_1 : Dn Fl := (bDC (sDSet 1 (d2 addD (dV 1) (dLst (aCons (dLst (aCons (dC (.int 1)) aNil)) (aCons (dTup (aCons (dC (.str (tl ("a" : Str)))) (aCons (dC (.int 1)) aNil))) (aCons (dTup (aCons (dC (.str (tl ("" : Str)))) (aCons (dC (.str (tl ("a" : Str)))) aNil))) (aCons (dTup (aCons (dC (.str (tl ("a" : Str)))) (aCons (dC (.str (tl ("\t" : Str)))) aNil))) (aCons (dTup (aCons (dC (.str (tl ("a" : Str)))) (aCons (dC (.str (tl ("b" : Str)))) (aCons (dC (.str (tl ("c" : Str)))) aNil)))) (aCons (dDisp [((dC (.str (tl ("a" : Str)))), (dC (.str (tl ("b" : Str)))))]) (aCons (dC (.str (tl ("once" : Str)))) (aCons (dTup (aCons (d2 mulD (dC (.str (tl ("a" : Str)))) (dC (.int 41))) (aCons (dC (.str (tl ("" : Str)))) aNil))) aNil))))))))))) B_L_any_value_0)
@[simp] theorem B_L_any_value_1_ev (ε : Ev) : B_L_any_value_1 ε = ((sDSet 1 (d2 addD (dV 1) (dLst (aCons (dLst (aCons (dC (.int 1)) aNil)) (aCons (dTup (aCons (dC (.str (tl ("a" : Str)))) (aCons (dC (.int 1)) aNil))) (aCons (dTup (aCons (dC (.str (tl ("" : Str)))) (aCons (dC (.str (tl ("a" : Str)))) aNil))) (aCons (dTup (aCons (dC (.str (tl ("a" : Str)))) (aCons (dC (.str (tl ("\t" : Str)))) aNil))) (aCons (dTup (aCons (dC (.str (tl ("a" : Str)))) (aCons (dC (.str (tl ("b" : Str)))) (aCons (dC (.str (tl ("c" : Str)))) aNil)))) (aCons (dDisp [((dC (.str (tl ("a" : Str)))), (dC (.str (tl ("b" : Str)))))]) (aCons (dC (.str (tl ("once" : Str)))) (aCons (dTup (aCons (d2 mulD (dC (.str (tl ("a" : Str)))) (dC (.int 41))) (aCons (dC (.str (tl ("" : Str)))) aNil))) aNil))))))))))) ε).bind (thenF B_L_any_value_0) := rfl
def B_L_any_value_2 : Dn Fl := (bDC (sDSet 1 (dLst (aCons (dC .non) (aCons (dC (.bl true)) (aCons (dC (.bl false)) (aCons (dC (.int 0)) (aCons (dC (.int 1)) (aCons (d1 negD (dC (.int 1))) (aCons (d2 powD (dC (.int 10)) (dC (.int 59))) (aCons (dC (.str (tl ("" : Str)))) (aCons (dC (.str (tl ("a" : Str)))) (aCons (dC (.str (tl ("\t" : Str)))) (aCons (dC (.str (tl ("a\t" : Str)))) (aCons (dC (.str (tl ("ab" : Str)))) (aCons (dTup aNil) (aCons (dTup (aCons (dC (.str (tl ("a" : Str)))) aNil)) (aCons (dTup (aCons (dC (.str (tl ("a" : Str)))) (aCons (dC (.str (tl ("b" : Str)))) aNil))) (aCons (dLst (aCons (dC (.str (tl ("a" : Str)))) (aCons (dC (.str (tl ("b" : Str)))) aNil))) (aCons (fun ε => .ok (.fr (.dct [])) ε) aNil))))))))))))))))))) B_L_any_value_1)
@[simp] theorem B_L_any_value_2_ev (ε : Ev) : B_L_any_value_2 ε = ((sDSet 1 (dLst (aCons (dC .non) (aCons (dC (.bl true)) (aCons (dC (.bl false)) (aCons (dC (.int 0)) (aCons (dC (.int 1)) (aCons (d1 negD (dC (.int 1))) (aCons (d2 powD (dC (.int 10)) (dC (.int 59))) (aCons (dC (.str (tl ("" : Str)))) (aCons (dC (.str (tl ("a" : Str)))) (aCons (dC (.str (tl ("\t" : Str)))) (aCons (dC (.str (tl ("a\t" : Str)))) (aCons (dC (.str (tl ("ab" : Str)))) (aCons (dTup aNil) (aCons (dTup (aCons (dC (.str (tl ("a" : Str)))) aNil)) (aCons (dTup (aCons (dC (.str (tl ("a" : Str)))) (aCons (dC (.str (tl ("b" : Str)))) aNil))) (aCons (dLst (aCons (dC (.str (tl ("a" : Str)))) (aCons (dC (.str (tl ("b" : Str)))) aNil))) (aCons (fun ε => .ok (.fr (.dct [])) ε) aNil))))))))))))))))))) ε).bind (thenF B_L_any_value_1) := rfl
def F_L_any_value : List D → Rf := bodyF [true] 2 B_L_any_value_2
theorem F_L_any_value_ev (ds : List D) : F_L_any_value ds = fnE [true] (B_L_any_value_2 (startE [true] ds ++ List.replicate 1 .no)) := body_ev _ _ _ _
-- _law_ntext 0:_law_pen_here 1:_law_signs_here 2:_law_most_letters 3:_law_some 4:_law_found 5:_law_k
def B_L_ntext_0 : Dn Fl := (sDR (dSl (dV 4) none (some (dV 2))))
@[simp] theorem B_L_ntext_0_ev (ε : Ev) : B_L_ntext_0 ε = (sDR (dSl (dV 4) none (some (dV 2)))) ε := rfl
def B_L_ntext_1 : Dn Fl := (sDSet 4 (d2 addD (dV 4) (dCall [true, false] F_L_pick (aCons (dV 0) (aCons (d2 addD (dV 3) (dLst (aCons (dCall [true, false] F_L_pick (aCons (dV 0) (aCons (dV 1) aNil))) aNil))) aNil)))))
@[simp] theorem B_L_ntext_1_ev (ε : Ev) : B_L_ntext_1 ε = (sDSet 4 (d2 addD (dV 4) (dCall [true, false] F_L_pick (aCons (dV 0) (aCons (d2 addD (dV 3) (dLst (aCons (dCall [true, false] F_L_pick (aCons (dV 0) (aCons (dV 1) aNil))) aNil))) aNil))))) ε := rfl
def B_L_ntext_2 : Dn Fl := (bDC (sDF (fun ε => ((aCons (dCall [true, false] F_L_draw (aCons (dV 0) (aCons (dC (.int 9)) aNil))) aNil) ε).bind rng1) (tgN 5)
  B_L_ntext_1) B_L_ntext_0)
@[simp] theorem B_L_ntext_2_ev (ε : Ev) : B_L_ntext_2 ε = ((sDF (fun ε => ((aCons (dCall [true, false] F_L_draw (aCons (dV 0) (aCons (dC (.int 9)) aNil))) aNil) ε).bind rng1) (tgN 5)
  B_L_ntext_1) ε).bind (thenF B_L_ntext_0) := rfl
def B_L_ntext_3 : Dn Fl := (bDC (sDPar [3, 4] (afC (dLst (aCons (dCall [true, false, false, false] F_L_word (aCons (dV 0) (aCons (dV 1) (aCons (dC (.int 1)) (aCons (dC (.int 4)) aNil))))) (aCons (dCall [true, false, false, false] F_L_word (aCons (dV 0) (aCons (dV 1) (aCons (dC (.int 1)) (aCons (dC (.int 3)) aNil))))) aNil))) (afC (dC (.str (tl ("" : Str)))) afN))) B_L_ntext_2)
@[simp] theorem B_L_ntext_3_ev (ε : Ev) : B_L_ntext_3 ε = ((sDPar [3, 4] (afC (dLst (aCons (dCall [true, false, false, false] F_L_word (aCons (dV 0) (aCons (dV 1) (aCons (dC (.int 1)) (aCons (dC (.int 4)) aNil))))) (aCons (dCall [true, false, false, false] F_L_word (aCons (dV 0) (aCons (dV 1) (aCons (dC (.int 1)) (aCons (dC (.int 3)) aNil))))) aNil))) (afC (dC (.str (tl ("" : Str)))) afN))) ε).bind (thenF B_L_ntext_2) := rfl
def F_L_ntext : List D → Rf := bodyF [true, false, false] 6 B_L_ntext_3
theorem F_L_ntext_ev (ds : List D) : F_L_ntext ds = fnE [true, false, false] (B_L_ntext_3 (startE [true, false, false] ds ++ List.replicate 3 .no)) := body_ev _ _ _ _
-- _law_nonce 0:_law_text_here 1:_law_a 2:_law_b
def B_L_nonce_0 : Dn Fl := (sDR (eDA (d2 ltD (dV 1) (dV 2)) (d2 eqO (dN lenD (aCons (dCall [false, false] F_L_places (aCons (dV 0) (aCons (dSl (dV 0) (some (dV 1)) (some (dV 2))) aNil))) aNil)) (dC (.int 1)))))
@[simp] theorem B_L_nonce_0_ev (ε : Ev) : B_L_nonce_0 ε = (sDR (eDA (d2 ltD (dV 1) (dV 2)) (d2 eqO (dN lenD (aCons (dCall [false, false] F_L_places (aCons (dV 0) (aCons (dSl (dV 0) (some (dV 1)) (some (dV 2))) aNil))) aNil)) (dC (.int 1))))) ε := rfl
def F_L_nonce : List D → Rf := bodyF [false, false, false] 3 B_L_nonce_0
theorem F_L_nonce_ev (ds : List D) : F_L_nonce ds = fnE [false, false, false] (B_L_nonce_0 (startE [false, false, false] ds ++ List.replicate 0 .no)) := body_ev _ _ _ _
-- _law_naround 0:_law_text_here 1:_law_a 2:_law_b 3:_law_found 4:_law_k 5:_law_tip
def B_L_naround_0 : Dn Fl := (sDR (dV 3))
@[simp] theorem B_L_naround_0_ev (ε : Ev) : B_L_naround_0 ε = (sDR (dV 3)) ε := rfl
def B_L_naround_1 : Dn Fl := (sDX (dMut isLst extD (dV 3) (aCons (dLc (fun ε => ((aCons (dN maxD (aCons (dV 2) (aCons (d2 addD (dV 4) (dC (.int 1))) aNil))) (aCons (d2 addD (dN lenD (aCons (dV 0) aNil)) (dC (.int 1))) aNil)) ε).bind rng2) [5] (tgN 5) (fun ε => .ok true ε) (dTup (aCons (dV 4) (aCons (dV 5) aNil)))) aNil)))
@[simp] theorem B_L_naround_1_ev (ε : Ev) : B_L_naround_1 ε = (sDX (dMut isLst extD (dV 3) (aCons (dLc (fun ε => ((aCons (dN maxD (aCons (dV 2) (aCons (d2 addD (dV 4) (dC (.int 1))) aNil))) (aCons (d2 addD (dN lenD (aCons (dV 0) aNil)) (dC (.int 1))) aNil)) ε).bind rng2) [5] (tgN 5) (fun ε => .ok true ε) (dTup (aCons (dV 4) (aCons (dV 5) aNil)))) aNil))) ε := rfl
def B_L_naround_2 : Dn Fl := (bDC (sDF (fun ε => ((aCons (d2 addD (dV 1) (dC (.int 1))) aNil) ε).bind rng1) (tgN 4)
  B_L_naround_1) B_L_naround_0)
@[simp] theorem B_L_naround_2_ev (ε : Ev) : B_L_naround_2 ε = ((sDF (fun ε => ((aCons (d2 addD (dV 1) (dC (.int 1))) aNil) ε).bind rng1) (tgN 4)
  B_L_naround_1) ε).bind (thenF B_L_naround_0) := rfl
def B_L_naround_3 : Dn Fl := (bDC (sDSet 3 (dLst aNil)) B_L_naround_2)
@[simp] theorem B_L_naround_3_ev (ε : Ev) : B_L_naround_3 ε = ((sDSet 3 (dLst aNil)) ε).bind (thenF B_L_naround_2) := rfl
def F_L_naround : List D → Rf := bodyF [false, false, false] 6 B_L_naround_3
theorem F_L_naround_ev (ds : List D) : F_L_naround ds = fnE [false, false, false] (B_L_naround_3 (startE [false, false, false] ds ++ List.replicate 3 .no)) := body_ev _ _ _ _
-- _law_nspot 0:_law_pen_here 1:_law_text_here 2:_law_size 3:_law_a
def B_L_nspot_0 : Dn Fl := (sDR (dTup (aCons (dV 3) (aCons (dCall [true, false] F_L_pick (aCons (dV 0) (aCons (dLst (aCons (dV 3) (aCons (dV 2) (aCons (d2 addD (dV 3) (dCall [true, false] F_L_draw (aCons (dV 0) (aCons (d2 addD (d2 subD (dV 2) (dV 3)) (dC (.int 1))) aNil)))) (aCons (dN minD (aCons (dV 2) (aCons (d2 addD (dV 3) (dC (.int 1))) aNil))) aNil))))) aNil))) aNil))))
@[simp] theorem B_L_nspot_0_ev (ε : Ev) : B_L_nspot_0 ε = (sDR (dTup (aCons (dV 3) (aCons (dCall [true, false] F_L_pick (aCons (dV 0) (aCons (dLst (aCons (dV 3) (aCons (dV 2) (aCons (d2 addD (dV 3) (dCall [true, false] F_L_draw (aCons (dV 0) (aCons (d2 addD (d2 subD (dV 2) (dV 3)) (dC (.int 1))) aNil)))) (aCons (dN minD (aCons (dV 2) (aCons (d2 addD (dV 3) (dC (.int 1))) aNil))) aNil))))) aNil))) aNil)))) ε := rfl
def B_L_nspot_1 : Dn Fl := (bDC (sDSet 3 (dCall [true, false] F_L_pick (aCons (dV 0) (aCons (dLst (aCons (dC (.int 0)) (aCons (dV 2) (aCons (dCall [true, false] F_L_draw (aCons (dV 0) (aCons (d2 addD (dV 2) (dC (.int 1))) aNil))) (aCons (dCall [true, false] F_L_draw (aCons (dV 0) (aCons (d2 addD (dV 2) (dC (.int 1))) aNil))) aNil))))) aNil)))) B_L_nspot_0)
@[simp] theorem B_L_nspot_1_ev (ε : Ev) : B_L_nspot_1 ε = ((sDSet 3 (dCall [true, false] F_L_pick (aCons (dV 0) (aCons (dLst (aCons (dC (.int 0)) (aCons (dV 2) (aCons (dCall [true, false] F_L_draw (aCons (dV 0) (aCons (d2 addD (dV 2) (dC (.int 1))) aNil))) (aCons (dCall [true, false] F_L_draw (aCons (dV 0) (aCons (d2 addD (dV 2) (dC (.int 1))) aNil))) aNil))))) aNil)))) ε).bind (thenF B_L_nspot_0) := rfl
def B_L_nspot_2 : Dn Fl := (bDC (sDSet 2 (dN lenD (aCons (dV 1) aNil))) B_L_nspot_1)
@[simp] theorem B_L_nspot_2_ev (ε : Ev) : B_L_nspot_2 ε = ((sDSet 2 (dN lenD (aCons (dV 1) aNil))) ε).bind (thenF B_L_nspot_1) := rfl
def F_L_nspot : List D → Rf := bodyF [true, false] 4 B_L_nspot_2
theorem F_L_nspot_ev (ds : List D) : F_L_nspot ds = fnE [true, false] (B_L_nspot_2 (startE [true, false] ds ++ List.replicate 2 .no)) := body_ev _ _ _ _
-- _law_nput 0:_law_text_here 1:_law_rows 2:_law_found 3:_law_behind 4:_law_a 5:_law_b 6:_law_fresh
def B_L_nput_0 : Dn Fl := (sDR (d2 addD (dV 2) (dSl (dV 0) (some (dV 3)) none)))
@[simp] theorem B_L_nput_0_ev (ε : Ev) : B_L_nput_0 ε = (sDR (d2 addD (dV 2) (dSl (dV 0) (some (dV 3)) none))) ε := rfl
def B_L_nput_1 : Dn Fl := (sDSet 3 (dV 5))
@[simp] theorem B_L_nput_1_ev (ε : Ev) : B_L_nput_1 ε = (sDSet 3 (dV 5)) ε := rfl
def B_L_nput_2 : Dn Fl := (bDC (sDSet 2 (d2 addD (d2 addD (dV 2) (dSl (dV 0) (some (dV 3)) (some (dV 4)))) (dV 6))) B_L_nput_1)
@[simp] theorem B_L_nput_2_ev (ε : Ev) : B_L_nput_2 ε = ((sDSet 2 (d2 addD (d2 addD (dV 2) (dSl (dV 0) (some (dV 3)) (some (dV 4)))) (dV 6))) ε).bind (thenF B_L_nput_1) := rfl
def B_L_nput_3 : Dn Fl := (bDC (sDF (dI (dV 1)) (tgT 3 (tgsC (tgN 4) (tgsC (tgN 5) (tgsC (tgN 6) tgsN))))
  B_L_nput_2) B_L_nput_0)
@[simp] theorem B_L_nput_3_ev (ε : Ev) : B_L_nput_3 ε = ((sDF (dI (dV 1)) (tgT 3 (tgsC (tgN 4) (tgsC (tgN 5) (tgsC (tgN 6) tgsN))))
  B_L_nput_2) ε).bind (thenF B_L_nput_0) := rfl
def B_L_nput_4 : Dn Fl := (bDC (sDPar [2, 3] (afC (dC (.str (tl ("" : Str)))) (afC (dC (.int 0)) afN))) B_L_nput_3)
@[simp] theorem B_L_nput_4_ev (ε : Ev) : B_L_nput_4 ε = ((sDPar [2, 3] (afC (dC (.str (tl ("" : Str)))) (afC (dC (.int 0)) afN))) ε).bind (thenF B_L_nput_3) := rfl
def F_L_nput : List D → Rf := bodyF [false, false] 7 B_L_nput_4
theorem F_L_nput_ev (ds : List D) : F_L_nput ds = fnE [false, false] (B_L_nput_4 (startE [false, false] ds ++ List.replicate 5 .no)) := body_ev _ _ _ _
-- _law_nfault 0:_law_text_here 1:_law_thing 2:_law_behind 3:_law_k 4:_law_row
def B_L_nfault_0 : Dn Fl := (sDR (dC .non))
@[simp] theorem B_L_nfault_0_ev (ε : Ev) : B_L_nfault_0 ε = (sDR (dC .non)) ε := rfl
def B_L_nfault_1 : Dn Fl := (sDSet 2 (d2 ixD (dV 4) (dC (.int 1))))
@[simp] theorem B_L_nfault_1_ev (ε : Ev) : B_L_nfault_1 ε = (sDSet 2 (d2 ixD (dV 4) (dC (.int 1)))) ε := rfl
def B_L_nfault_2 : Dn Fl := (bDC (sDIf (tDN (tDV (dCall [false, false, false] F_L_nonce (aCons (dV 0) (aCons (d2 ixD (dV 4) (dC (.int 0))) (aCons (d2 ixD (dV 4) (dC (.int 1))) aNil))))))
  (sDR (dV 3))
  bDN) B_L_nfault_1)
@[simp] theorem B_L_nfault_2_ev (ε : Ev) : B_L_nfault_2 ε = ((sDIf (tDN (tDV (dCall [false, false, false] F_L_nonce (aCons (dV 0) (aCons (d2 ixD (dV 4) (dC (.int 0))) (aCons (d2 ixD (dV 4) (dC (.int 1))) aNil))))))
  (sDR (dV 3))
  bDN) ε).bind (thenF B_L_nfault_1) := rfl
def B_L_nfault_3 : Dn Fl := (bDC (sDIf (tDO (tDN (tDV (dCall [false, false, false] F_L_is_number (aCons (d2 ixD (dV 4) (dC (.int 1))) (aCons (d2 addD (d2 ixD (dV 4) (dC (.int 0))) (dC (.int 1))) (aCons (dN lenD (aCons (dV 0) aNil)) aNil)))))) (tDN (tDV (dCall [false] F_L_is_text (aCons (d2 ixD (dV 4) (dC (.int 2))) aNil)))))
  (sDR (dV 3))
  bDN) B_L_nfault_2)
@[simp] theorem B_L_nfault_3_ev (ε : Ev) : B_L_nfault_3 ε = ((sDIf (tDO (tDN (tDV (dCall [false, false, false] F_L_is_number (aCons (d2 ixD (dV 4) (dC (.int 1))) (aCons (d2 addD (d2 ixD (dV 4) (dC (.int 0))) (dC (.int 1))) (aCons (dN lenD (aCons (dV 0) aNil)) aNil)))))) (tDN (tDV (dCall [false] F_L_is_text (aCons (d2 ixD (dV 4) (dC (.int 2))) aNil)))))
  (sDR (dV 3))
  bDN) ε).bind (thenF B_L_nfault_2) := rfl
def B_L_nfault_4 : Dn Fl := (bDC (sDIf (tDO (tDN (tDV (dN isiD (aCons (dV 4) (aCons (dC (.ty "tuple")) aNil))))) (tDO (bT (d2 neO (dN lenD (aCons (dV 4) aNil)) (dC (.int 3)))) (tDN (tDV (dCall [false, false, false] F_L_is_number (aCons (d2 ixD (dV 4) (dC (.int 0))) (aCons (dV 2) (aCons (dN lenD (aCons (dV 0) aNil)) aNil))))))))
  (sDR (dV 3))
  bDN) B_L_nfault_3)
@[simp] theorem B_L_nfault_4_ev (ε : Ev) : B_L_nfault_4 ε = ((sDIf (tDO (tDN (tDV (dN isiD (aCons (dV 4) (aCons (dC (.ty "tuple")) aNil))))) (tDO (bT (d2 neO (dN lenD (aCons (dV 4) aNil)) (dC (.int 3)))) (tDN (tDV (dCall [false, false, false] F_L_is_number (aCons (d2 ixD (dV 4) (dC (.int 0))) (aCons (dV 2) (aCons (dN lenD (aCons (dV 0) aNil)) aNil))))))))
  (sDR (dV 3))
  bDN) ε).bind (thenF B_L_nfault_3) := rfl
def B_L_nfault_5 : Dn Fl := (bDC (sDSet 4 (d2 ixD (dV 1) (dV 3))) B_L_nfault_4)
@[simp] theorem B_L_nfault_5_ev (ε : Ev) : B_L_nfault_5 ε = ((sDSet 4 (d2 ixD (dV 1) (dV 3))) ε).bind (thenF B_L_nfault_4) := rfl
def B_L_nfault_6 : Dn Fl := (bDC (sDF (fun ε => ((aCons (dN lenD (aCons (dV 1) aNil)) aNil) ε).bind rng1) (tgN 3)
  B_L_nfault_5) B_L_nfault_0)
@[simp] theorem B_L_nfault_6_ev (ε : Ev) : B_L_nfault_6 ε = ((sDF (fun ε => ((aCons (dN lenD (aCons (dV 1) aNil)) aNil) ε).bind rng1) (tgN 3)
  B_L_nfault_5) ε).bind (thenF B_L_nfault_0) := rfl
def B_L_nfault_7 : Dn Fl := (bDC (sDSet 2 (dC (.int 0))) B_L_nfault_6)
@[simp] theorem B_L_nfault_7_ev (ε : Ev) : B_L_nfault_7 ε = ((sDSet 2 (dC (.int 0))) ε).bind (thenF B_L_nfault_6) := rfl
def B_L_nfault_8 : Dn Fl := (bDC (sDIf (tDN (tDV (dN isiD (aCons (dV 1) (aCons (dC (.ty "tuple")) aNil)))))
  (sDR (dC (.int 0)))
  bDN) B_L_nfault_7)
@[simp] theorem B_L_nfault_8_ev (ε : Ev) : B_L_nfault_8 ε = ((sDIf (tDN (tDV (dN isiD (aCons (dV 1) (aCons (dC (.ty "tuple")) aNil)))))
  (sDR (dC (.int 0)))
  bDN) ε).bind (thenF B_L_nfault_7) := rfl
def F_L_nfault : List D → Rf := bodyF [false, false] 5 B_L_nfault_8
theorem F_L_nfault_ev (ds : List D) : F_L_nfault ds = fnE [false, false] (B_L_nfault_8 (startE [false, false] ds ++ List.replicate 3 .no)) := body_ev _ _ _ _
-- _law_ndrawn 0:_law_pen_here 1:_law_text_here 2:_law_signs_here 3:_law_rows 4:_law_behind 5:_law_k 6:_law_spans 7:_law_a 8:_law_b 9:_law_same 10:_law_some 11:_law_span
def B_L_ndrawn_0 : Dn Fl := (sDR (d1 tupleD (dV 3)))
@[simp] theorem B_L_ndrawn_0_ev (ε : Ev) : B_L_ndrawn_0 ε = (sDR (d1 tupleD (dV 3))) ε := rfl
def B_L_ndrawn_1 : Dn Fl := (sDSet 4 (dV 8))
@[simp] theorem B_L_ndrawn_1_ev (ε : Ev) : B_L_ndrawn_1 ε = (sDSet 4 (dV 8)) ε := rfl
def B_L_ndrawn_2 : Dn Fl := (bDC (sDX (dMut isLst appD (dV 3) (aCons (dTup (aCons (dV 7) (aCons (dV 8) (aCons (dCall [true, false] F_L_pick (aCons (dV 0) (aCons (dV 10) aNil))) aNil)))) aNil))) B_L_ndrawn_1)
@[simp] theorem B_L_ndrawn_2_ev (ε : Ev) : B_L_ndrawn_2 ε = ((sDX (dMut isLst appD (dV 3) (aCons (dTup (aCons (dV 7) (aCons (dV 8) (aCons (dCall [true, false] F_L_pick (aCons (dV 0) (aCons (dV 10) aNil))) aNil)))) aNil))) ε).bind (thenF B_L_ndrawn_1) := rfl
def B_L_ndrawn_3 : Dn Fl := (bDC (sDSet 10 (dLst (aCons (dCall [true, false, false, false] F_L_word (aCons (dV 0) (aCons (dV 2) (aCons (dC (.int 0)) (aCons (dC (.int 3)) aNil))))) (aCons (dV 9) (aCons (d2 addD (dSl (dV 9) none (some (dC (.int 1)))) (dSl (dV 9) (some (dC (.int 2))) none)) (aCons (d2 addD (dSl (dV 9) (some (dC (.int 1))) none) (dC (.str (tl ("q" : Str))))) aNil)))))) B_L_ndrawn_2)
@[simp] theorem B_L_ndrawn_3_ev (ε : Ev) : B_L_ndrawn_3 ε = ((sDSet 10 (dLst (aCons (dCall [true, false, false, false] F_L_word (aCons (dV 0) (aCons (dV 2) (aCons (dC (.int 0)) (aCons (dC (.int 3)) aNil))))) (aCons (dV 9) (aCons (d2 addD (dSl (dV 9) none (some (dC (.int 1)))) (dSl (dV 9) (some (dC (.int 2))) none)) (aCons (d2 addD (dSl (dV 9) (some (dC (.int 1))) none) (dC (.str (tl ("q" : Str))))) aNil)))))) ε).bind (thenF B_L_ndrawn_2) := rfl
def B_L_ndrawn_4 : Dn Fl := (bDC (sDSet 9 (dSl (dV 1) (some (dV 7)) (some (dV 8)))) B_L_ndrawn_3)
@[simp] theorem B_L_ndrawn_4_ev (ε : Ev) : B_L_ndrawn_4 ε = ((sDSet 9 (dSl (dV 1) (some (dV 7)) (some (dV 8)))) ε).bind (thenF B_L_ndrawn_3) := rfl
def B_L_ndrawn_5 : Dn Fl := (bDC (sDAsg (dCall [true, false] F_L_pick (aCons (dV 0) (aCons (dSl (dV 6) none (some (d2 addD (dC (.int 1)) (dCall [true, false] F_L_draw (aCons (dV 0) (aCons (dN lenD (aCons (dV 6) aNil)) aNil)))))) aNil))) (tgT 2 (tgsC (tgN 7) (tgsC (tgN 8) tgsN)))) B_L_ndrawn_4)
@[simp] theorem B_L_ndrawn_5_ev (ε : Ev) : B_L_ndrawn_5 ε = ((sDAsg (dCall [true, false] F_L_pick (aCons (dV 0) (aCons (dSl (dV 6) none (some (d2 addD (dC (.int 1)) (dCall [true, false] F_L_draw (aCons (dV 0) (aCons (dN lenD (aCons (dV 6) aNil)) aNil)))))) aNil))) (tgT 2 (tgsC (tgN 7) (tgsC (tgN 8) tgsN)))) ε).bind (thenF B_L_ndrawn_4) := rfl
def B_L_ndrawn_6 : Dn Fl := (sDIf (bT (d2 neE (dV 6) (dLst aNil)))
  B_L_ndrawn_5
  bDN)
@[simp] theorem B_L_ndrawn_6_ev (ε : Ev) : B_L_ndrawn_6 ε = (sDIf (bT (d2 neE (dV 6) (dLst aNil)))
  B_L_ndrawn_5
  bDN) ε := rfl
def B_L_ndrawn_7 : Dn Fl := (bDC (sDSet 6 (dLc (dI (dV 6)) [11] (tgN 11) (tDV (dCall [false, false, false] F_L_nonce (aCons (dV 1) (aCons (d2 ixD (dV 11) (dC (.int 0))) (aCons (d2 ixD (dV 11) (dC (.int 1))) aNil))))) (dV 11))) B_L_ndrawn_6)
@[simp] theorem B_L_ndrawn_7_ev (ε : Ev) : B_L_ndrawn_7 ε = ((sDSet 6 (dLc (dI (dV 6)) [11] (tgN 11) (tDV (dCall [false, false, false] F_L_nonce (aCons (dV 1) (aCons (d2 ixD (dV 11) (dC (.int 0))) (aCons (d2 ixD (dV 11) (dC (.int 1))) aNil))))) (dV 11))) ε).bind (thenF B_L_ndrawn_6) := rfl
def B_L_ndrawn_8 : Dn Fl := (bDC (sDSet 6 (dLc (dI (dCall [false, false, false] F_L_naround (aCons (dV 1) (aCons (dN lenD (aCons (dV 1) aNil)) (aCons (dC (.int 0)) aNil))))) [11] (tgN 11) (bT (d2 geD (d2 ixD (dV 11) (dC (.int 0))) (dV 4))) (dV 11))) B_L_ndrawn_7)
@[simp] theorem B_L_ndrawn_8_ev (ε : Ev) : B_L_ndrawn_8 ε = ((sDSet 6 (dLc (dI (dCall [false, false, false] F_L_naround (aCons (dV 1) (aCons (dN lenD (aCons (dV 1) aNil)) (aCons (dC (.int 0)) aNil))))) [11] (tgN 11) (bT (d2 geD (d2 ixD (dV 11) (dC (.int 0))) (dV 4))) (dV 11))) ε).bind (thenF B_L_ndrawn_7) := rfl
def B_L_ndrawn_9 : Dn Fl := (bDC (sDF (fun ε => ((aCons (dCall [true, false] F_L_draw (aCons (dV 0) (aCons (dC (.int 5)) aNil))) aNil) ε).bind rng1) (tgN 5)
  B_L_ndrawn_8) B_L_ndrawn_0)
@[simp] theorem B_L_ndrawn_9_ev (ε : Ev) : B_L_ndrawn_9 ε = ((sDF (fun ε => ((aCons (dCall [true, false] F_L_draw (aCons (dV 0) (aCons (dC (.int 5)) aNil))) aNil) ε).bind rng1) (tgN 5)
  B_L_ndrawn_8) ε).bind (thenF B_L_ndrawn_0) := rfl
def B_L_ndrawn_10 : Dn Fl := (bDC (sDPar [3, 4] (afC (dLst aNil) (afC (dC (.int 0)) afN))) B_L_ndrawn_9)
@[simp] theorem B_L_ndrawn_10_ev (ε : Ev) : B_L_ndrawn_10 ε = ((sDPar [3, 4] (afC (dLst aNil) (afC (dC (.int 0)) afN))) ε).bind (thenF B_L_ndrawn_9) := rfl
def F_L_ndrawn : List D → Rf := bodyF [true, false, false] 12 B_L_ndrawn_10
theorem F_L_ndrawn_ev (ds : List D) : F_L_ndrawn ds = fnE [true, false, false] (B_L_ndrawn_10 (startE [true, false, false] ds ++ List.replicate 9 .no)) := body_ev _ _ _ _
-- _law_ncost 0:_law_rows 1:_law_extra 2:_law_a 3:_law_b 4:_law_fresh
def B_L_ncost_0 : Dn Fl := (sDR (dN sumD (aCons (dLc (dI (dV 0)) [2, 3, 4] (tgT 3 (tgsC (tgN 2) (tgsC (tgN 3) (tgsC (tgN 4) tgsN)))) (fun ε => .ok true ε) (d2 addD (d2 addD (d2 subD (dV 3) (dV 2)) (dN lenD (aCons (dV 4) aNil))) (dV 1))) aNil)))
@[simp] theorem B_L_ncost_0_ev (ε : Ev) : B_L_ncost_0 ε = (sDR (dN sumD (aCons (dLc (dI (dV 0)) [2, 3, 4] (tgT 3 (tgsC (tgN 2) (tgsC (tgN 3) (tgsC (tgN 4) tgsN)))) (fun ε => .ok true ε) (d2 addD (d2 addD (d2 subD (dV 3) (dV 2)) (dN lenD (aCons (dV 4) aNil))) (dV 1))) aNil))) ε := rfl
def F_L_ncost : List D → Rf := bodyF [false, false] 5 B_L_ncost_0
theorem F_L_ncost_ev (ds : List D) : F_L_ncost ds = fnE [false, false] (B_L_ncost_0 (startE [false, false] ds ++ List.replicate 3 .no)) := body_ev _ _ _ _
def hd_L_nexchanged (fs : List (Str × D)) : Option D := (fs.lookup ("index" : Str)).bind fun d_index => some (.tup [(.str (tl ("no" : Str))), d_index, (.bl true)])
-- _law_ncrooked 0:_law_pen_here 1:_law_here 2:_law_rows 3:_law_way 4:_law_size 5:_law_k 6:_law_a 7:_law_b 8:_law_x 9:_law_y 10:_law_fresh 11:_law_some 12:_law_odd
def B_L_ncrooked_0 : Dn Fl := (sDR (dCall [true, false] F_L_pick (aCons (dV 0) (aCons (dLst (aCons (dV 2) (aCons (dV 2) (aCons (dCall [true] F_L_any_value (aCons (dV 0) aNil)) (aCons (dTup (aCons (dCall [true] F_L_any_value (aCons (dV 0) aNil)) aNil)) (aCons (d2 addD (dV 2) (dTup (aCons (dCall [true] F_L_any_value (aCons (dV 0) aNil)) aNil))) aNil)))))) aNil))))
@[simp] theorem B_L_ncrooked_0_ev (ε : Ev) : B_L_ncrooked_0 ε = (sDR (dCall [true, false] F_L_pick (aCons (dV 0) (aCons (dLst (aCons (dV 2) (aCons (dV 2) (aCons (dCall [true] F_L_any_value (aCons (dV 0) aNil)) (aCons (dTup (aCons (dCall [true] F_L_any_value (aCons (dV 0) aNil)) aNil)) (aCons (d2 addD (dV 2) (dTup (aCons (dCall [true] F_L_any_value (aCons (dV 0) aNil)) aNil))) aNil)))))) aNil)))) ε := rfl
def B_L_ncrooked_1 : Dn Fl := (sDR (d2 addD (d2 addD (dSl (dV 2) none (some (dV 5))) (dTup (aCons (dV 12) aNil))) (dSl (dV 2) (some (d2 addD (dV 5) (dC (.int 1)))) none)))
@[simp] theorem B_L_ncrooked_1_ev (ε : Ev) : B_L_ncrooked_1 ε = (sDR (d2 addD (d2 addD (dSl (dV 2) none (some (dV 5))) (dTup (aCons (dV 12) aNil))) (dSl (dV 2) (some (d2 addD (dV 5) (dC (.int 1)))) none))) ε := rfl
def B_L_ncrooked_2 : Dn Fl := (bDC (sDSet 12 (dCall [true, false] F_L_pick (aCons (dV 0) (aCons (dV 11) aNil)))) B_L_ncrooked_1)
@[simp] theorem B_L_ncrooked_2_ev (ε : Ev) : B_L_ncrooked_2 ε = ((sDSet 12 (dCall [true, false] F_L_pick (aCons (dV 0) (aCons (dV 11) aNil)))) ε).bind (thenF B_L_ncrooked_1) := rfl
def B_L_ncrooked_3 : Dn Fl := (bDC (sDSet 11 (d2 addD (dV 11) (dLst (aCons (dTup (aCons (dV 8) (aCons (d2 addD (dV 4) (dC (.int 1))) (aCons (dC (.str (tl ("" : Str)))) aNil)))) (aCons (dTup (aCons (dV 8) (aCons (dV 8) (aCons (dV 10) aNil)))) (aCons (dTup (aCons (d1 negD (dC (.int 1))) (aCons (dV 9) (aCons (dV 10) aNil)))) (aCons (dTup (aCons (dN strD (aCons (dV 8) aNil)) (aCons (dV 9) (aCons (dV 10) aNil)))) aNil))))))) B_L_ncrooked_2)
@[simp] theorem B_L_ncrooked_3_ev (ε : Ev) : B_L_ncrooked_3 ε = ((sDSet 11 (d2 addD (dV 11) (dLst (aCons (dTup (aCons (dV 8) (aCons (d2 addD (dV 4) (dC (.int 1))) (aCons (dC (.str (tl ("" : Str)))) aNil)))) (aCons (dTup (aCons (dV 8) (aCons (dV 8) (aCons (dV 10) aNil)))) (aCons (dTup (aCons (d1 negD (dC (.int 1))) (aCons (dV 9) (aCons (dV 10) aNil)))) (aCons (dTup (aCons (dN strD (aCons (dV 8) aNil)) (aCons (dV 9) (aCons (dV 10) aNil)))) aNil))))))) ε).bind (thenF B_L_ncrooked_2) := rfl
def B_L_ncrooked_4 : Dn Fl := (bDC (sDSet 11 (dLst (aCons (dTup (aCons (dV 8) (aCons (dV 9) aNil))) (aCons (dTup (aCons (dV 8) (aCons (dV 9) (aCons (dV 10) (aCons (dC (.int 0)) aNil))))) (aCons (dLst (aCons (dV 8) (aCons (dV 9) (aCons (dV 10) aNil)))) (aCons (dTup (aCons (dV 8) (aCons (dV 9) (aCons (dC (.str (tl ("\t" : Str)))) aNil)))) (aCons (dTup (aCons (dV 8) (aCons (dV 9) (aCons (dC .non) aNil)))) (aCons (dTup (aCons (dV 8) (aCons (dV 9) (aCons (dC (.int 1)) aNil)))) (aCons (dTup (aCons (dC (.bl true)) (aCons (dV 9) (aCons (dV 10) aNil)))) aNil))))))))) B_L_ncrooked_3)
@[simp] theorem B_L_ncrooked_4_ev (ε : Ev) : B_L_ncrooked_4 ε = ((sDSet 11 (dLst (aCons (dTup (aCons (dV 8) (aCons (dV 9) aNil))) (aCons (dTup (aCons (dV 8) (aCons (dV 9) (aCons (dV 10) (aCons (dC (.int 0)) aNil))))) (aCons (dLst (aCons (dV 8) (aCons (dV 9) (aCons (dV 10) aNil)))) (aCons (dTup (aCons (dV 8) (aCons (dV 9) (aCons (dC (.str (tl ("\t" : Str)))) aNil)))) (aCons (dTup (aCons (dV 8) (aCons (dV 9) (aCons (dC .non) aNil)))) (aCons (dTup (aCons (dV 8) (aCons (dV 9) (aCons (dC (.int 1)) aNil)))) (aCons (dTup (aCons (dC (.bl true)) (aCons (dV 9) (aCons (dV 10) aNil)))) aNil))))))))) ε).bind (thenF B_L_ncrooked_3) := rfl
def B_L_ncrooked_5 : Dn Fl := (bDC (sDAsg (d2 ixD (dV 2) (dV 5)) (tgT 3 (tgsC (tgN 8) (tgsC (tgN 9) (tgsC (tgN 10) tgsN))))) B_L_ncrooked_4)
@[simp] theorem B_L_ncrooked_5_ev (ε : Ev) : B_L_ncrooked_5 ε = ((sDAsg (d2 ixD (dV 2) (dV 5)) (tgT 3 (tgsC (tgN 8) (tgsC (tgN 9) (tgsC (tgN 10) tgsN))))) ε).bind (thenF B_L_ncrooked_4) := rfl
def B_L_ncrooked_6 : Dn Fl := (bDC (sDIf (tDA (bT (d2 ltD (dV 3) (dC (.int 6)))) (bT (d2 neE (dV 2) (dTup aNil))))
  B_L_ncrooked_5
  bDN) B_L_ncrooked_0)
@[simp] theorem B_L_ncrooked_6_ev (ε : Ev) : B_L_ncrooked_6 ε = ((sDIf (tDA (bT (d2 ltD (dV 3) (dC (.int 6)))) (bT (d2 neE (dV 2) (dTup aNil))))
  B_L_ncrooked_5
  bDN) ε).bind (thenF B_L_ncrooked_0) := rfl
def B_L_ncrooked_7 : Dn Fl := (bDC (sDIf (bT (d2 eqO (dV 3) (dC (.int 3))))
  (sDR (dN listD (aCons (dV 2) aNil)))
  bDN) B_L_ncrooked_6)
@[simp] theorem B_L_ncrooked_7_ev (ε : Ev) : B_L_ncrooked_7 ε = ((sDIf (bT (d2 eqO (dV 3) (dC (.int 3))))
  (sDR (dN listD (aCons (dV 2) aNil)))
  bDN) ε).bind (thenF B_L_ncrooked_6) := rfl
def B_L_ncrooked_8 : Dn Fl := (bDC (sDIf (bT (d2 eqO (dV 3) (dC (.int 2))))
  (sDR (d2 addD (d2 addD (dSl (dV 2) none (some (dV 5))) (dSl (dV 2) (some (dV 5)) (some (d2 addD (dV 5) (dC (.int 1)))))) (dSl (dV 2) (some (dV 5)) none)))
  bDN) B_L_ncrooked_7)
@[simp] theorem B_L_ncrooked_8_ev (ε : Ev) : B_L_ncrooked_8 ε = ((sDIf (bT (d2 eqO (dV 3) (dC (.int 2))))
  (sDR (d2 addD (d2 addD (dSl (dV 2) none (some (dV 5))) (dSl (dV 2) (some (dV 5)) (some (d2 addD (dV 5) (dC (.int 1)))))) (dSl (dV 2) (some (dV 5)) none)))
  bDN) ε).bind (thenF B_L_ncrooked_7) := rfl
def B_L_ncrooked_9 : Dn Fl := (bDC (sDIf (bT (d2 eqO (dV 3) (dC (.int 1))))
  (sDR (d1 revTD (dV 2)))
  bDN) B_L_ncrooked_8)
@[simp] theorem B_L_ncrooked_9_ev (ε : Ev) : B_L_ncrooked_9 ε = ((sDIf (bT (d2 eqO (dV 3) (dC (.int 1))))
  (sDR (d1 revTD (dV 2)))
  bDN) ε).bind (thenF B_L_ncrooked_8) := rfl
def B_L_ncrooked_10 : Dn Fl := (bDC (sDIf (bT (d2 eqO (dV 3) (dC (.int 0))))
  (sDR (d2 addD (d2 addD (dSl (dV 2) none (some (dV 5))) (dTup (aCons (dTup (aCons (dV 6) (aCons (dV 7) (aCons (dC (.str (tl ("q" : Str)))) aNil)))) aNil))) (dSl (dV 2) (some (dV 5)) none)))
  bDN) B_L_ncrooked_9)
@[simp] theorem B_L_ncrooked_10_ev (ε : Ev) : B_L_ncrooked_10 ε = ((sDIf (bT (d2 eqO (dV 3) (dC (.int 0))))
  (sDR (d2 addD (d2 addD (dSl (dV 2) none (some (dV 5))) (dTup (aCons (dTup (aCons (dV 6) (aCons (dV 7) (aCons (dC (.str (tl ("q" : Str)))) aNil)))) aNil))) (dSl (dV 2) (some (dV 5)) none)))
  bDN) ε).bind (thenF B_L_ncrooked_9) := rfl
def B_L_ncrooked_11 : Dn Fl := (bDC (sDAsg (dCall [true, false] F_L_nspot (aCons (dV 0) (aCons (dV 1) aNil))) (tgT 2 (tgsC (tgN 6) (tgsC (tgN 7) tgsN)))) B_L_ncrooked_10)
@[simp] theorem B_L_ncrooked_11_ev (ε : Ev) : B_L_ncrooked_11 ε = ((sDAsg (dCall [true, false] F_L_nspot (aCons (dV 0) (aCons (dV 1) aNil))) (tgT 2 (tgsC (tgN 6) (tgsC (tgN 7) tgsN)))) ε).bind (thenF B_L_ncrooked_10) := rfl
def B_L_ncrooked_12 : Dn Fl := (bDC (sDSet 5 (dCall [true, false] F_L_draw (aCons (dV 0) (aCons (dN maxD (aCons (dC (.int 1)) (aCons (dN lenD (aCons (dV 2) aNil)) aNil))) aNil)))) B_L_ncrooked_11)
@[simp] theorem B_L_ncrooked_12_ev (ε : Ev) : B_L_ncrooked_12 ε = ((sDSet 5 (dCall [true, false] F_L_draw (aCons (dV 0) (aCons (dN maxD (aCons (dC (.int 1)) (aCons (dN lenD (aCons (dV 2) aNil)) aNil))) aNil)))) ε).bind (thenF B_L_ncrooked_11) := rfl
def B_L_ncrooked_13 : Dn Fl := (bDC (sDPar [3, 4] (afC (dCall [true, false] F_L_draw (aCons (dV 0) (aCons (dC (.int 8)) aNil))) (afC (dN lenD (aCons (dV 1) aNil)) afN))) B_L_ncrooked_12)
@[simp] theorem B_L_ncrooked_13_ev (ε : Ev) : B_L_ncrooked_13 ε = ((sDPar [3, 4] (afC (dCall [true, false] F_L_draw (aCons (dV 0) (aCons (dC (.int 8)) aNil))) (afC (dN lenD (aCons (dV 1) aNil)) afN))) ε).bind (thenF B_L_ncrooked_12) := rfl
def F_L_ncrooked : List D → Rf := bodyF [true, false, false] 13 B_L_ncrooked_13
theorem F_L_ncrooked_ev (ds : List D) : F_L_ncrooked ds = fnE [true, false, false] (B_L_ncrooked_13 (startE [true, false, false] ds ++ List.replicate 10 .no)) := body_ev _ _ _ _
-- law 0:_law_script 1:_law_pen_here 2:_law_turn 3:_law_signs_here 4:_law_here 5:_law_rows 6:_law_goal 7:_law_extra 8:_law_due 9:_law_again 10:_law_thing 11:_law_kept 12:_law_fault 13:_law_away
def B_law_0 : Dn Fl := (sDR (eDA (d2 eqO (dCall [false, false] F_exchanged (aCons (dC (.str (tl ("" : Str)))) (aCons (dTup aNil) aNil))) (dC (.str (tl ("" : Str))))) (d2 eqO (dCallD [false, false] F_cost_of 0 (aCons (dTup aNil) aNil)) (dC (.int 0)))))
@[simp] theorem B_law_0_ev (ε : Ev) : B_law_0 ε = (sDR (eDA (d2 eqO (dCall [false, false] F_exchanged (aCons (dC (.str (tl ("" : Str)))) (aCons (dTup aNil) aNil))) (dC (.str (tl ("" : Str))))) (d2 eqO (dCallD [false, false] F_cost_of 0 (aCons (dTup aNil) aNil)) (dC (.int 0))))) ε := rfl
def B_law_1 : Dn Fl := (sDIf (bT (d2 neO (dN repD (aCons (dCall [false, false, false] F_is_exchange (aCons (dV 4) (aCons (dV 13) (aCons (dV 10) aNil)))) aNil)) (dN repD (aCons (eDA (d2 isD (dV 12) (dC .non)) (d2 eqO (d2 ixD (dV 8) (dC (.int 1))) (dV 13))) aNil))))
  (sDR (dC (.bl false)))
  bDN)
@[simp] theorem B_law_1_ev (ε : Ev) : B_law_1 ε = (sDIf (bT (d2 neO (dN repD (aCons (dCall [false, false, false] F_is_exchange (aCons (dV 4) (aCons (dV 13) (aCons (dV 10) aNil)))) aNil)) (dN repD (aCons (eDA (d2 isD (dV 12) (dC .non)) (d2 eqO (d2 ixD (dV 8) (dC (.int 1))) (dV 13))) aNil))))
  (sDR (dC (.bl false)))
  bDN) ε := rfl
def B_law_2 : Dn Fl := (bDC (sDSet 13 (dCall [true, false] F_L_pick (aCons (dV 1) (aCons (dLst (aCons (dV 6) (aCons (eDIf (bT (d2 isD (dV 12) (dC .non))) (d2 ixD (dV 8) (dC (.int 1))) (dV 6)) aNil))) aNil)))) B_law_1)
@[simp] theorem B_law_2_ev (ε : Ev) : B_law_2 ε = ((sDSet 13 (dCall [true, false] F_L_pick (aCons (dV 1) (aCons (dLst (aCons (dV 6) (aCons (eDIf (bT (d2 isD (dV 12) (dC .non))) (d2 ixD (dV 8) (dC (.int 1))) (dV 6)) aNil))) aNil)))) ε).bind (thenF B_law_1) := rfl
def B_law_3 : Dn Fl := (bDC (sDIf (tDO (bT (d2 neO (dCatch (hdOne "NoExchange" hd_L_nexchanged) (fun d => .tup [.str (tl ("told" : Str)), d]) (dCall [false, false] F_exchanged (aCons (dV 4) (aCons (dV 10) aNil)))) (dV 8))) (bT (d2 neO (dN repD (aCons (dV 10) aNil)) (dV 11))))
  (sDR (dC (.bl false)))
  bDN) B_law_2)
@[simp] theorem B_law_3_ev (ε : Ev) : B_law_3 ε = ((sDIf (tDO (bT (d2 neO (dCatch (hdOne "NoExchange" hd_L_nexchanged) (fun d => .tup [.str (tl ("told" : Str)), d]) (dCall [false, false] F_exchanged (aCons (dV 4) (aCons (dV 10) aNil)))) (dV 8))) (bT (d2 neO (dN repD (aCons (dV 10) aNil)) (dV 11))))
  (sDR (dC (.bl false)))
  bDN) ε).bind (thenF B_law_2) := rfl
def B_law_4 : Dn Fl := (bDC (sDSet 8 (eDIf (bT (d2 isntD (dV 12) (dC .non))) (dTup (aCons (dC (.str (tl ("no" : Str)))) (aCons (dV 12) (aCons (dC (.bl true)) aNil)))) (dTup (aCons (dC (.str (tl ("told" : Str)))) (aCons (dCall [false, false] F_L_nput (aCons (dV 4) (aCons (dV 10) aNil))) aNil))))) B_law_3)
@[simp] theorem B_law_4_ev (ε : Ev) : B_law_4 ε = ((sDSet 8 (eDIf (bT (d2 isntD (dV 12) (dC .non))) (dTup (aCons (dC (.str (tl ("no" : Str)))) (aCons (dV 12) (aCons (dC (.bl true)) aNil)))) (dTup (aCons (dC (.str (tl ("told" : Str)))) (aCons (dCall [false, false] F_L_nput (aCons (dV 4) (aCons (dV 10) aNil))) aNil))))) ε).bind (thenF B_law_3) := rfl
def B_law_5 : Dn Fl := (bDC (sDPar [11, 12] (afC (dN repD (aCons (dV 10) aNil)) (afC (dCall [false, false] F_L_nfault (aCons (dV 4) (aCons (dV 10) aNil))) afN))) B_law_4)
@[simp] theorem B_law_5_ev (ε : Ev) : B_law_5 ε = ((sDPar [11, 12] (afC (dN repD (aCons (dV 10) aNil)) (afC (dCall [false, false] F_L_nfault (aCons (dV 4) (aCons (dV 10) aNil))) afN))) ε).bind (thenF B_law_4) := rfl
def B_law_6 : Dn Fl := (bDC (sDSet 10 (dCall [true, false, false] F_L_ncrooked (aCons (dV 1) (aCons (dV 4) (aCons (dV 5) aNil))))) B_law_5)
@[simp] theorem B_law_6_ev (ε : Ev) : B_law_6 ε = ((sDSet 10 (dCall [true, false, false] F_L_ncrooked (aCons (dV 1) (aCons (dV 4) (aCons (dV 5) aNil))))) ε).bind (thenF B_law_5) := rfl
def B_law_7 : Dn Fl := (sDF (fun ε => ((aCons (dC (.int 6)) aNil) ε).bind rng1) (tgN 9)
  B_law_6)
@[simp] theorem B_law_7_ev (ε : Ev) : B_law_7 ε = (sDF (fun ε => ((aCons (dC (.int 6)) aNil) ε).bind rng1) (tgN 9)
  B_law_6) ε := rfl
def B_law_8 : Dn Fl := (bDC (sDIf (bT (d2 neO (dN repD (aCons (dLst (aCons (dCallD [false, false] F_cost_of 0 (aCons (dV 5) aNil)) (aCons (dCallK 0 2 [1, 0] [false, false] F_cost_of aNil (aCons (dV 7) (aCons (dV 5) aNil))) aNil))) aNil)) (dN repD (aCons (dV 8) aNil))))
  (sDR (dC (.bl false)))
  bDN) B_law_7)
@[simp] theorem B_law_8_ev (ε : Ev) : B_law_8 ε = ((sDIf (bT (d2 neO (dN repD (aCons (dLst (aCons (dCallD [false, false] F_cost_of 0 (aCons (dV 5) aNil)) (aCons (dCallK 0 2 [1, 0] [false, false] F_cost_of aNil (aCons (dV 7) (aCons (dV 5) aNil))) aNil))) aNil)) (dN repD (aCons (dV 8) aNil))))
  (sDR (dC (.bl false)))
  bDN) ε).bind (thenF B_law_7) := rfl
def B_law_9 : Dn Fl := (bDC (sDSet 8 (dLst (aCons (dCall [false, false] F_L_ncost (aCons (dV 5) (aCons (dC (.int 0)) aNil))) (aCons (dCall [false, false] F_L_ncost (aCons (dV 5) (aCons (dV 7) aNil))) aNil)))) B_law_8)
@[simp] theorem B_law_9_ev (ε : Ev) : B_law_9 ε = ((sDSet 8 (dLst (aCons (dCall [false, false] F_L_ncost (aCons (dV 5) (aCons (dC (.int 0)) aNil))) (aCons (dCall [false, false] F_L_ncost (aCons (dV 5) (aCons (dV 7) aNil))) aNil)))) ε).bind (thenF B_law_8) := rfl
def B_law_10 : Dn Fl := (bDC (sDSet 7 (dCall [true, false] F_L_pick (aCons (dV 1) (aCons (dLst (aCons (dC (.int 0)) (aCons (dC (.int 1)) (aCons (dC (.int 100)) (aCons (dCall [true, false] F_L_draw (aCons (dV 1) (aCons (dC (.int 101)) aNil))) aNil))))) aNil)))) B_law_9)
@[simp] theorem B_law_10_ev (ε : Ev) : B_law_10 ε = ((sDSet 7 (dCall [true, false] F_L_pick (aCons (dV 1) (aCons (dLst (aCons (dC (.int 0)) (aCons (dC (.int 1)) (aCons (dC (.int 100)) (aCons (dCall [true, false] F_L_draw (aCons (dV 1) (aCons (dC (.int 101)) aNil))) aNil))))) aNil)))) ε).bind (thenF B_law_9) := rfl
def B_law_11 : Dn Fl := (bDC (sDIf (bT (d2 isntD (dCall [false, false, false] F_is_exchange (aCons (dV 4) (aCons (d2 addD (dV 6) (dC (.str (tl ("q" : Str))))) (aCons (dV 5) aNil)))) (dC (.bl false))))
  (sDR (dC (.bl false)))
  bDN) B_law_10)
@[simp] theorem B_law_11_ev (ε : Ev) : B_law_11 ε = ((sDIf (bT (d2 isntD (dCall [false, false, false] F_is_exchange (aCons (dV 4) (aCons (d2 addD (dV 6) (dC (.str (tl ("q" : Str))))) (aCons (dV 5) aNil)))) (dC (.bl false))))
  (sDR (dC (.bl false)))
  bDN) ε).bind (thenF B_law_10) := rfl
def B_law_12 : Dn Fl := (bDC (sDIf (bT (d2 isntD (dCallK 0 3 [2, 1, 0] [false, false, false] F_is_exchange aNil (aCons (dV 5) (aCons (dV 6) (aCons (dV 4) aNil)))) (dC (.bl true))))
  (sDR (dC (.bl false)))
  bDN) B_law_11)
@[simp] theorem B_law_12_ev (ε : Ev) : B_law_12 ε = ((sDIf (bT (d2 isntD (dCallK 0 3 [2, 1, 0] [false, false, false] F_is_exchange aNil (aCons (dV 5) (aCons (dV 6) (aCons (dV 4) aNil)))) (dC (.bl true))))
  (sDR (dC (.bl false)))
  bDN) ε).bind (thenF B_law_11) := rfl
def B_law_13 : Dn Fl := (bDC (sDIf (bT (d2 neO (dCatch (hdOne "NoExchange" hd_L_nexchanged) (fun d => .tup [.str (tl ("told" : Str)), d]) (dCallK 0 2 [1, 0] [false, false] F_exchanged aNil (aCons (dV 5) (aCons (dV 4) aNil)))) (dTup (aCons (dC (.str (tl ("told" : Str)))) (aCons (dV 6) aNil)))))
  (sDR (dC (.bl false)))
  bDN) B_law_12)
@[simp] theorem B_law_13_ev (ε : Ev) : B_law_13 ε = ((sDIf (bT (d2 neO (dCatch (hdOne "NoExchange" hd_L_nexchanged) (fun d => .tup [.str (tl ("told" : Str)), d]) (dCallK 0 2 [1, 0] [false, false] F_exchanged aNil (aCons (dV 5) (aCons (dV 4) aNil)))) (dTup (aCons (dC (.str (tl ("told" : Str)))) (aCons (dV 6) aNil)))))
  (sDR (dC (.bl false)))
  bDN) ε).bind (thenF B_law_12) := rfl
def B_law_14 : Dn Fl := (bDC (sDSet 6 (dCall [false, false] F_L_nput (aCons (dV 4) (aCons (dV 5) aNil)))) B_law_13)
@[simp] theorem B_law_14_ev (ε : Ev) : B_law_14 ε = ((sDSet 6 (dCall [false, false] F_L_nput (aCons (dV 4) (aCons (dV 5) aNil)))) ε).bind (thenF B_law_13) := rfl
def B_law_15 : Dn Fl := (bDC (sDSet 5 (dCall [true, false, false] F_L_ndrawn (aCons (dV 1) (aCons (dV 4) (aCons (dV 3) aNil))))) B_law_14)
@[simp] theorem B_law_15_ev (ε : Ev) : B_law_15 ε = ((sDSet 5 (dCall [true, false, false] F_L_ndrawn (aCons (dV 1) (aCons (dV 4) (aCons (dV 3) aNil))))) ε).bind (thenF B_law_14) := rfl
def B_law_16 : Dn Fl := (bDC (sDSet 4 (dCall [true, false, false] F_L_ntext (aCons (dV 1) (aCons (dV 3) (aCons (dC (.int 10)) aNil))))) B_law_15)
@[simp] theorem B_law_16_ev (ε : Ev) : B_law_16 ε = ((sDSet 4 (dCall [true, false, false] F_L_ntext (aCons (dV 1) (aCons (dV 3) (aCons (dC (.int 10)) aNil))))) ε).bind (thenF B_law_15) := rfl
def B_law_17 : Dn Fl := (bDC (sDSet 3 (dCall [true] F_L_few (aCons (dV 1) aNil))) B_law_16)
@[simp] theorem B_law_17_ev (ε : Ev) : B_law_17 ε = ((sDSet 3 (dCall [true] F_L_few (aCons (dV 1) aNil))) ε).bind (thenF B_law_16) := rfl
def B_law_18 : Dn Fl := (bDC (sDF (fun ε => ((aCons (d2 addD (dC (.int 6)) (dN minD (aCons (dC (.int 6)) (aCons (dN lenD (aCons (dV 0) aNil)) aNil)))) aNil) ε).bind rng1) (tgN 2)
  B_law_17) B_law_0)
@[simp] theorem B_law_18_ev (ε : Ev) : B_law_18 ε = ((sDF (fun ε => ((aCons (d2 addD (dC (.int 6)) (dN minD (aCons (dC (.int 6)) (aCons (dN lenD (aCons (dV 0) aNil)) aNil)))) aNil) ε).bind rng1) (tgN 2)
  B_law_17) ε).bind (thenF B_law_0) := rfl
def B_law_19 : Dn Fl := (bDC (sDSet 1 (dCall [false] F_L_pen (aCons (dV 0) aNil))) B_law_18)
@[simp] theorem B_law_19_ev (ε : Ev) : B_law_19 ε = ((sDSet 1 (dCall [false] F_L_pen (aCons (dV 0) aNil))) ε).bind (thenF B_law_18) := rfl
def F_law : List D → Rf := bodyF [false] 14 B_law_19
theorem F_law_ev (ds : List D) : F_law ds = fnE [false] (B_law_19 (startE [false] ds ++ List.replicate 13 .no)) := body_ev _ _ _ _
end Den

namespace Law
open PySem PySem.Spec PyProof.Rows L2 AB PL Den LamX
open TL (tl)
def topS (i : Nat) : Stmt := PySem.Challenge.pw_anchoredits_k61_exchanges_done_and_refus.main.body.getD i (.Pass ⟨0, 0, 0, 0⟩)
abbrev s_is_integer : Stmt := topS 2
abbrev N_is_integer : List Str := ["value"]
abbrev P_is_integer : List Str := ["value"]
theorem sc_is_integer : FnScope N_is_integer P_is_integer (defScope s_is_integer) :=
  ⟨rfl, rfl, rfl, by decide +kernel, rfl, by decide +kernel, by decide +kernel⟩

abbrev s_is_within : Stmt := topS 3
abbrev N_is_within : List Str := ["value", "least", "greatest"]
abbrev P_is_within : List Str := ["value", "least", "greatest"]
theorem sc_is_within : FnScope N_is_within P_is_within (defScope s_is_within) :=
  ⟨rfl, rfl, rfl, by decide +kernel, rfl, by decide +kernel, by decide +kernel⟩

abbrev s_is_text : Stmt := topS 4
abbrev N_is_text : List Str := ["value", "letter"]
abbrev P_is_text : List Str := ["value"]
theorem sc_is_text : FnScope N_is_text P_is_text (defScope s_is_text) :=
  ⟨rfl, rfl, rfl, by decide +kernel, rfl, by decide +kernel, by decide +kernel⟩

abbrev s_places : Stmt := topS 8
abbrev N_places : List Str := ["text", "word", "found", "place"]
abbrev P_places : List Str := ["text", "word"]
theorem sc_places : FnScope N_places P_places (defScope s_places) :=
  ⟨rfl, rfl, rfl, by decide +kernel, rfl, by decide +kernel, by decide +kernel⟩

abbrev s_stands_once : Stmt := topS 10
abbrev N_stands_once : List Str := ["text", "begin", "end"]
abbrev P_stands_once : List Str := ["text", "begin", "end"]
theorem sc_stands_once : FnScope N_stands_once P_stands_once (defScope s_stands_once) :=
  ⟨rfl, rfl, rfl, by decide +kernel, rfl, by decide +kernel, by decide +kernel⟩

abbrev s_is_swap : Stmt := topS 12
abbrev N_is_swap : List Str := ["text", "value", "behind"]
abbrev P_is_swap : List Str := ["text", "value", "behind"]
theorem sc_is_swap : FnScope N_is_swap P_is_swap (defScope s_is_swap) :=
  ⟨rfl, rfl, rfl, by decide +kernel, rfl, by decide +kernel, by decide +kernel⟩

abbrev s_first_fault : Stmt := topS 13
abbrev N_first_fault : List Str := ["text", "value", "behind", "index", "part"]
abbrev P_first_fault : List Str := ["text", "value"]
theorem sc_first_fault : FnScope N_first_fault P_first_fault (defScope s_first_fault) :=
  ⟨rfl, rfl, rfl, by decide +kernel, rfl, by decide +kernel, by decide +kernel⟩

abbrev s_put_in : Stmt := topS 14
abbrev N_put_in : List Str := ["text", "exchange", "found", "behind", "begin", "end", "new"]
abbrev P_put_in : List Str := ["text", "exchange"]
theorem sc_put_in : FnScope N_put_in P_put_in (defScope s_put_in) :=
  ⟨rfl, rfl, rfl, by decide +kernel, rfl, by decide +kernel, by decide +kernel⟩

abbrev s_exchanged : Stmt := topS 15
abbrev N_exchanged : List Str := ["text", "exchange", "fault"]
abbrev P_exchanged : List Str := ["text", "exchange"]
theorem sc_exchanged : FnScope N_exchanged P_exchanged (defScope s_exchanged) :=
  ⟨rfl, rfl, rfl, by decide +kernel, rfl, by decide +kernel, by decide +kernel⟩

abbrev s_is_exchange : Stmt := topS 16
abbrev N_is_exchange : List Str := ["text", "other", "value"]
abbrev P_is_exchange : List Str := ["text", "other", "value"]
theorem sc_is_exchange : FnScope N_is_exchange P_is_exchange (defScope s_is_exchange) :=
  ⟨rfl, rfl, rfl, by decide +kernel, rfl, by decide +kernel, by decide +kernel⟩

abbrev s_cost_of : Stmt := topS 17
abbrev N_cost_of : List Str := ["exchange", "each", "begin", "end", "new"]
abbrev P_cost_of : List Str := ["exchange", "each"]
theorem sc_cost_of : FnScope N_cost_of P_cost_of (defScope s_cost_of) :=
  ⟨rfl, rfl, rfl, by decide +kernel, rfl, by decide +kernel, by decide +kernel⟩

abbrev s_L_pen : Stmt := topS 19
abbrev N_L_pen : List Str := ["_law_script"]
abbrev P_L_pen : List Str := ["_law_script"]
theorem sc_L_pen : FnScope N_L_pen P_L_pen (defScope s_L_pen) :=
  ⟨rfl, rfl, rfl, by decide +kernel, rfl, by decide +kernel, by decide +kernel⟩

abbrev s_L_draw : Stmt := topS 20
abbrev N_L_draw : List Str := ["_law_pen_here", "_law_many", "_law_digit", "_law_turn", "_law_cell", "_law_primes", "_law_prime", "_law_drawn"]
abbrev P_L_draw : List Str := ["_law_pen_here", "_law_many"]
theorem sc_L_draw : FnScope N_L_draw P_L_draw (defScope s_L_draw) :=
  ⟨rfl, rfl, rfl, by decide +kernel, rfl, by decide +kernel, by decide +kernel⟩

abbrev s_L_pick : Stmt := topS 21
abbrev N_L_pick : List Str := ["_law_pen_here", "_law_options"]
abbrev P_L_pick : List Str := ["_law_pen_here", "_law_options"]
theorem sc_L_pick : FnScope N_L_pick P_L_pick (defScope s_L_pick) :=
  ⟨rfl, rfl, rfl, by decide +kernel, rfl, by decide +kernel, by decide +kernel⟩

abbrev s_L_signs : Stmt := topS 22
abbrev N_L_signs : List Str := []
abbrev P_L_signs : List Str := []
theorem sc_L_signs : FnScope N_L_signs P_L_signs (defScope s_L_signs) :=
  ⟨rfl, rfl, rfl, by decide +kernel, rfl, by decide +kernel, by decide +kernel⟩

abbrev s_L_is_text : Stmt := topS 23
abbrev N_L_is_text : List Str := ["_law_thing", "_law_sign"]
abbrev P_L_is_text : List Str := ["_law_thing"]
theorem sc_L_is_text : FnScope N_L_is_text P_L_is_text (defScope s_L_is_text) :=
  ⟨rfl, rfl, rfl, by decide +kernel, rfl, by decide +kernel, by decide +kernel⟩

abbrev s_L_is_number : Stmt := topS 24
abbrev N_L_is_number : List Str := ["_law_thing", "_law_least", "_law_greatest"]
abbrev P_L_is_number : List Str := ["_law_thing", "_law_least", "_law_greatest"]
theorem sc_L_is_number : FnScope N_L_is_number P_L_is_number (defScope s_L_is_number) :=
  ⟨rfl, rfl, rfl, by decide +kernel, rfl, by decide +kernel, by decide +kernel⟩

abbrev s_L_few : Stmt := topS 25
abbrev N_L_few : List Str := ["_law_pen_here", "_law_some", "_law_rare", "_law_k"]
abbrev P_L_few : List Str := ["_law_pen_here"]
theorem sc_L_few : FnScope N_L_few P_L_few (defScope s_L_few) :=
  ⟨rfl, rfl, rfl, by decide +kernel, rfl, by decide +kernel, by decide +kernel⟩

abbrev s_L_word : Stmt := topS 26
abbrev N_L_word : List Str := ["_law_pen_here", "_law_signs_here", "_law_least", "_law_most_letters", "_law_many", "_law_k"]
abbrev P_L_word : List Str := ["_law_pen_here", "_law_signs_here", "_law_least", "_law_most_letters"]
theorem sc_L_word : FnScope N_L_word P_L_word (defScope s_L_word) :=
  ⟨rfl, rfl, rfl, by decide +kernel, rfl, by decide +kernel, by decide +kernel⟩

abbrev s_L_places : Stmt := topS 27
abbrev N_L_places : List Str := ["_law_text_here", "_law_was", "_law_size", "_law_k"]
abbrev P_L_places : List Str := ["_law_text_here", "_law_was"]
theorem sc_L_places : FnScope N_L_places P_L_places (defScope s_L_places) :=
  ⟨rfl, rfl, rfl, by decide +kernel, rfl, by decide +kernel, by decide +kernel⟩

abbrev s_L_any_value : Stmt := topS 28
abbrev N_L_any_value : List Str := ["_law_pen_here", "_law_some"]
abbrev P_L_any_value : List Str := ["_law_pen_here"]
theorem sc_L_any_value : FnScope N_L_any_value P_L_any_value (defScope s_L_any_value) :=
  ⟨rfl, rfl, rfl, by decide +kernel, rfl, by decide +kernel, by decide +kernel⟩

abbrev s_L_ntext : Stmt := topS 29
abbrev N_L_ntext : List Str := ["_law_pen_here", "_law_signs_here", "_law_most_letters", "_law_some", "_law_found", "_law_k"]
abbrev P_L_ntext : List Str := ["_law_pen_here", "_law_signs_here", "_law_most_letters"]
theorem sc_L_ntext : FnScope N_L_ntext P_L_ntext (defScope s_L_ntext) :=
  ⟨rfl, rfl, rfl, by decide +kernel, rfl, by decide +kernel, by decide +kernel⟩

abbrev s_L_nonce : Stmt := topS 30
abbrev N_L_nonce : List Str := ["_law_text_here", "_law_a", "_law_b"]
abbrev P_L_nonce : List Str := ["_law_text_here", "_law_a", "_law_b"]
theorem sc_L_nonce : FnScope N_L_nonce P_L_nonce (defScope s_L_nonce) :=
  ⟨rfl, rfl, rfl, by decide +kernel, rfl, by decide +kernel, by decide +kernel⟩

abbrev s_L_naround : Stmt := topS 31
abbrev N_L_naround : List Str := ["_law_text_here", "_law_a", "_law_b", "_law_found", "_law_k", "_law_tip"]
abbrev P_L_naround : List Str := ["_law_text_here", "_law_a", "_law_b"]
theorem sc_L_naround : FnScope N_L_naround P_L_naround (defScope s_L_naround) :=
  ⟨rfl, rfl, rfl, by decide +kernel, rfl, by decide +kernel, by decide +kernel⟩

abbrev s_L_nspot : Stmt := topS 32
abbrev N_L_nspot : List Str := ["_law_pen_here", "_law_text_here", "_law_size", "_law_a"]
abbrev P_L_nspot : List Str := ["_law_pen_here", "_law_text_here"]
theorem sc_L_nspot : FnScope N_L_nspot P_L_nspot (defScope s_L_nspot) :=
  ⟨rfl, rfl, rfl, by decide +kernel, rfl, by decide +kernel, by decide +kernel⟩

abbrev s_L_nput : Stmt := topS 33
abbrev N_L_nput : List Str := ["_law_text_here", "_law_rows", "_law_found", "_law_behind", "_law_a", "_law_b", "_law_fresh"]
abbrev P_L_nput : List Str := ["_law_text_here", "_law_rows"]
theorem sc_L_nput : FnScope N_L_nput P_L_nput (defScope s_L_nput) :=
  ⟨rfl, rfl, rfl, by decide +kernel, rfl, by decide +kernel, by decide +kernel⟩

abbrev s_L_nfault : Stmt := topS 34
abbrev N_L_nfault : List Str := ["_law_text_here", "_law_thing", "_law_behind", "_law_k", "_law_row"]
abbrev P_L_nfault : List Str := ["_law_text_here", "_law_thing"]
theorem sc_L_nfault : FnScope N_L_nfault P_L_nfault (defScope s_L_nfault) :=
  ⟨rfl, rfl, rfl, by decide +kernel, rfl, by decide +kernel, by decide +kernel⟩

abbrev s_L_ndrawn : Stmt := topS 35
abbrev N_L_ndrawn : List Str := ["_law_pen_here", "_law_text_here", "_law_signs_here", "_law_rows", "_law_behind", "_law_k", "_law_spans", "_law_a", "_law_b", "_law_same", "_law_some", "_law_span"]
abbrev P_L_ndrawn : List Str := ["_law_pen_here", "_law_text_here", "_law_signs_here"]
theorem sc_L_ndrawn : FnScope N_L_ndrawn P_L_ndrawn (defScope s_L_ndrawn) :=
  ⟨rfl, rfl, rfl, by decide +kernel, rfl, by decide +kernel, by decide +kernel⟩

abbrev s_L_ncost : Stmt := topS 36
abbrev N_L_ncost : List Str := ["_law_rows", "_law_extra", "_law_a", "_law_b", "_law_fresh"]
abbrev P_L_ncost : List Str := ["_law_rows", "_law_extra"]
theorem sc_L_ncost : FnScope N_L_ncost P_L_ncost (defScope s_L_ncost) :=
  ⟨rfl, rfl, rfl, by decide +kernel, rfl, by decide +kernel, by decide +kernel⟩

abbrev s_L_nexchanged : Stmt := topS 37
abbrev N_L_nexchanged : List Str := ["_law_call", "e"]
abbrev P_L_nexchanged : List Str := ["_law_call"]
theorem sc_L_nexchanged : FnScope N_L_nexchanged P_L_nexchanged (defScope s_L_nexchanged) :=
  ⟨rfl, rfl, rfl, by decide +kernel, rfl, by decide +kernel, by decide +kernel⟩

abbrev s_L_ncrooked : Stmt := topS 38
abbrev N_L_ncrooked : List Str := ["_law_pen_here", "_law_here", "_law_rows", "_law_way", "_law_size", "_law_k", "_law_a", "_law_b", "_law_x", "_law_y", "_law_fresh", "_law_some", "_law_odd"]
abbrev P_L_ncrooked : List Str := ["_law_pen_here", "_law_here", "_law_rows"]
theorem sc_L_ncrooked : FnScope N_L_ncrooked P_L_ncrooked (defScope s_L_ncrooked) :=
  ⟨rfl, rfl, rfl, by decide +kernel, rfl, by decide +kernel, by decide +kernel⟩

abbrev s_law : Stmt := topS 39
abbrev N_law : List Str := ["_law_script", "_law_pen_here", "_law_turn", "_law_signs_here", "_law_here", "_law_rows", "_law_goal", "_law_extra", "_law_due", "_law_again", "_law_thing", "_law_kept", "_law_fault", "_law_away"]
abbrev P_law : List Str := ["_law_script"]
theorem sc_law : FnScope N_law P_law (defScope s_law) :=
  ⟨rfl, rfl, rfl, by decide +kernel, rfl, by decide +kernel, by decide +kernel⟩
abbrev Q_law : Str := (envOfC "law" (defScope s_law) 0 0 .none).qual ++ "<lambda>"
theorem ok_is_integer {G : Gx} {f : Addr} {fd : FuncData} (X_is_integer : FX G.K G.mg "is_integer" s_is_integer P_is_integer f fd) (b_bool : G.mg "bool" = none) (b_int : G.mg "int" = none) (b_isinstance : G.mg "isinstance" = none) :
    FnP G 1 f fd P_is_integer [false] F_is_integer := by
  unfold F_is_integer
  exact fn_plain X_is_integer.F sc_is_integer rfl (by decide) (fun cdv A outer s H E cx =>
  (bOne (sR (eAnd cx.hK (eB cx (bIsi cx) (by rfl) b_isinstance (by decide +kernel) (pCons (vV 0) (pCons (eTy cx (by rfl) b_int (by decide +kernel)) pNil))) (eOne (eNot cx.hK (eB cx (bIsi cx) (by rfl) b_isinstance (by decide +kernel) (pCons (vV 0) (pCons (eTy cx (by rfl) b_bool (by decide +kernel)) pNil)))))))))
theorem ok_is_within {G : Gx} {f : Addr} {fd : FuncData} (X_is_within : FX G.K G.mg "is_within" s_is_within P_is_within f fd)
    {f0 : Addr} {fd0 : FuncData} (X_is_integer : FX G.K G.mg "is_integer" s_is_integer P_is_integer f0 fd0) (G_is_integer : FnP G 1 f0 fd0 P_is_integer [false] F_is_integer) :
    FnP G 2 f fd P_is_within [false, false, false] F_is_within := by
  unfold F_is_within
  exact fn_plain X_is_within.F sc_is_within rfl (by decide) (fun cdv A outer s H E cx =>
  (bOne (sR (eAnd cx.hK (eCall cx G_is_integer (by decide) (by rfl) X_is_integer.g X_is_integer.F.kp X_is_integer.b (pCons (vV 0) pNil)) (eOne (eChain cLe cLe (vV 1) (vV 0) (vV 2)))))))
theorem ok_is_text {G : Gx} {f : Addr} {fd : FuncData} (X_is_text : FX G.K G.mg "is_text" s_is_text P_is_text f fd) (b_all : G.mg "all" = none) (b_isinstance : G.mg "isinstance" = none) (b_str : G.mg "str" = none) {tk_LETTERS : Tok} (g_LETTERS : G.mg "LETTERS" = some (Value.str lettersS tk_LETTERS)) :
    FnP G 1 f fd P_is_text [false] F_is_text := by
  unfold F_is_text
  exact fn_plain X_is_text.F sc_is_text rfl (by decide) (fun cdv A outer s H E cx =>
  (bOne (sR (eAnd cx.hK (eB cx (bIsi cx) (by rfl) b_isinstance (by decide +kernel) (pCons (vV 0) (pCons (eTy cx (by rfl) b_str (by decide +kernel)) pNil))) (eOne (eB cx (bAll cx) (by rfl) b_all (by decide +kernel) (pCons (eLc (own := [("letter", 1)])  cx sc_is_text.nd  (iV cx.hK (vV 0)) (blkOk_by (own := [("letter", 1)]) (N := N_is_text) (sc := defScope s_is_text) (by decide +kernel)) (by decide) (by decide) (fun _ _ _ _ _ cx => (gN (i := 1) sc_is_text.nd rfl (.inl rfl))) (fun _ _ _ _ _ cx => cNil) (fun _ _ _ _ _ cx => (eCmp (cIn cx) (vV 1) (eGlob (v := .str lettersS) cx (by rfl) g_LETTERS ⟨_, rfl⟩ (fun _ _ => Rp.str' (by decide +kernel))) (by rfl)))) pNil)))))))
theorem ok_places {G : Gx} {f : Addr} {fd : FuncData} (X_places : FX G.K G.mg "places" s_places P_places f fd) :
    FnP G 1 f fd P_places [false, false] F_places := by
  unfold F_places
  exact fn_plain X_places.F sc_places rfl (by decide) (fun cdv A outer s H E cx =>
  (bCons (sPar2 (i := 2) (j := 3) cx sc_places.nd rfl rfl (by decide) rfl rfl (pFCons (eLst pNil) (pFCons (eMs mFind PySem.F.slot_str_find PySem.F.type_str_find (vV 0) (pCons (vV 1) pNil)) pFNil)) (by rfl))
  (bCons (sWhile cx.po (tCmp cGe (vV 3) eInt (nomark _))
  (bCons (sX (eML cx mt_append mAppend PySem.F.slot_list_append PySem.F.type_list_append (vV 2) (pCons (vV 3) pNil)))
  (bOne (sSet (i := 3) sc_places.nd rfl (.inl rfl) (eMs mFind PySem.F.slot_str_find PySem.F.type_str_find (vV 0) (pCons (vV 1) (pCons (eAdd cx (vV 3) eInt) pNil)))))))
  (bOne (sR (vV 2))))))
theorem ok_stands_once {G : Gx} {f : Addr} {fd : FuncData} (X_stands_once : FX G.K G.mg "stands_once" s_stands_once P_stands_once f fd)
    {f0 : Addr} {fd0 : FuncData} (X_places : FX G.K G.mg "places" s_places P_places f0 fd0) (G_places : FnP G 1 f0 fd0 P_places [false, false] F_places) (b_len : G.mg "len" = none) :
    FnP G 2 f fd P_stands_once [false, false, false] F_stands_once := by
  unfold F_stands_once
  exact fn_plain X_stands_once.F sc_stands_once rfl (by decide) (fun cdv A outer s H E cx =>
  (bOne (sR (eCmp (cEq cx) (eB cx (bLen cx) (by rfl) b_len (by decide +kernel) (pCons (eCall cx G_places (by decide) (by rfl) X_places.g X_places.F.kp X_places.b (pCons (vV 0) (pCons (eSl cx (vV 0) (oS (vV 1)) (oS (vV 2))) pNil))) pNil)) eInt (nomark _)))))
theorem ok_is_swap {G : Gx} {f : Addr} {fd : FuncData} (X_is_swap : FX G.K G.mg "is_swap" s_is_swap P_is_swap f fd)
    {f0 : Addr} {fd0 : FuncData} (X_is_within : FX G.K G.mg "is_within" s_is_within P_is_within f0 fd0) (G_is_within : FnP G 2 f0 fd0 P_is_within [false, false, false] F_is_within)
    {f1 : Addr} {fd1 : FuncData} (X_is_text : FX G.K G.mg "is_text" s_is_text P_is_text f1 fd1) (G_is_text : FnP G 1 f1 fd1 P_is_text [false] F_is_text)
    {f2 : Addr} {fd2 : FuncData} (X_stands_once : FX G.K G.mg "stands_once" s_stands_once P_stands_once f2 fd2) (G_stands_once : FnP G 2 f2 fd2 P_stands_once [false, false, false] F_stands_once) (b_isinstance : G.mg "isinstance" = none) (b_len : G.mg "len" = none) (b_tuple : G.mg "tuple" = none) :
    FnP G 3 f fd P_is_swap [false, false, false] F_is_swap := by
  unfold F_is_swap
  exact fn_plain X_is_swap.F sc_is_swap rfl (by decide) (fun cdv A outer s H E cx =>
  (bCons (sIf (tW (wOn (tN (tV cx.hK (eB cx (bIsi cx) (by rfl) b_isinstance (by decide +kernel) (pCons (vV 1) (pCons (eTy cx (by rfl) b_tuple (by decide +kernel)) pNil))))) (wOn (tCmp (cNe cx) (eB cx (bLen cx) (by rfl) b_len (by decide +kernel) (pCons (vV 1) pNil)) eInt (nomark _)) (wO1 (tN (tV cx.hK (eCall cx G_is_within (by decide) (by rfl) X_is_within.g X_is_within.F.kp X_is_within.b (pCons (eIx cx (vV 1) eInt (fun _ _ => rfl) (fun _ _ => rfl)) (pCons (vV 2) (pCons (eB cx (bLen cx) (by rfl) b_len (by decide +kernel) (pCons (vV 0) pNil)) pNil))))))))))
  (bOne (sR eBl))
  bNil)
  (bCons (sIf (tW (wOn (tN (tV cx.hK (eCall cx G_is_within (by decide) (by rfl) X_is_within.g X_is_within.F.kp X_is_within.b (pCons (eIx cx (vV 1) eInt (fun _ _ => rfl) (fun _ _ => rfl)) (pCons (eAdd cx (eIx cx (vV 1) eInt (fun _ _ => rfl) (fun _ _ => rfl)) eInt) (pCons (eB cx (bLen cx) (by rfl) b_len (by decide +kernel) (pCons (vV 0) pNil)) pNil)))))) (wO1 (tN (tV cx.hK (eCall cx G_is_text (by decide) (by rfl) X_is_text.g X_is_text.F.kp X_is_text.b (pCons (eIx cx (vV 1) eInt (fun _ _ => rfl) (fun _ _ => rfl)) pNil)))))))
  (bOne (sR eBl))
  bNil)
  (bOne (sR (eCall cx G_stands_once (by decide) (by rfl) X_stands_once.g X_stands_once.F.kp X_stands_once.b (pCons (vV 0) (pCons (eIx cx (vV 1) eInt (fun _ _ => rfl) (fun _ _ => rfl)) (pCons (eIx cx (vV 1) eInt (fun _ _ => rfl) (fun _ _ => rfl)) pNil)))))))))
theorem ok_first_fault {G : Gx} {f : Addr} {fd : FuncData} (X_first_fault : FX G.K G.mg "first_fault" s_first_fault P_first_fault f fd)
    {f0 : Addr} {fd0 : FuncData} (X_is_swap : FX G.K G.mg "is_swap" s_is_swap P_is_swap f0 fd0) (G_is_swap : FnP G 3 f0 fd0 P_is_swap [false, false, false] F_is_swap) (b_enumerate : G.mg "enumerate" = none) (b_isinstance : G.mg "isinstance" = none) (b_tuple : G.mg "tuple" = none) :
    FnP G 4 f fd P_first_fault [false, false] F_first_fault := by
  unfold F_first_fault
  exact fn_plain X_first_fault.F sc_first_fault rfl (by decide) (fun cdv A outer s H E cx =>
  (bCons (sIf (tN (tV cx.hK (eB cx (bIsi cx) (by rfl) b_isinstance (by decide +kernel) (pCons (vV 1) (pCons (eTy cx (by rfl) b_tuple (by decide +kernel)) pNil)))))
  (bOne (sR eInt))
  bNil)
  (bCons (sSet (i := 2) sc_first_fault.nd rfl (.inl rfl) eInt)
  (bCons (sFor cx.po cx.calm (iEn3 cx.hK (by rfl) (by rw [cx.hm]; exact b_enumerate) (pCons (vV 1) pNil)) (gT (n := 2) cx.hK cx.calm (gCons (gN (i := 3) sc_first_fault.nd rfl (.inl rfl)) (gCons (gN (i := 4) sc_first_fault.nd rfl (.inl rfl)) gNil)))
  (bCons (sIf (tN (tV cx.hK (eCall cx G_is_swap (by decide) (by rfl) X_is_swap.g X_is_swap.F.kp X_is_swap.b (pCons (vV 0) (pCons (vV 4) (pCons (vV 2) pNil))))))
  (bOne (sR (vV 3)))
  bNil)
  (bOne (sSet (i := 2) sc_first_fault.nd rfl (.inl rfl) (eIx cx (vV 4) eInt (fun _ _ => rfl) (fun _ _ => rfl))))))
  (bOne (sR eNon))))))
theorem ok_put_in {G : Gx} {f : Addr} {fd : FuncData} (X_put_in : FX G.K G.mg "put_in" s_put_in P_put_in f fd) :
    FnP G 1 f fd P_put_in [false, false] F_put_in := by
  unfold F_put_in
  exact fn_plain X_put_in.F sc_put_in rfl (by decide) (fun cdv A outer s H E cx =>
  (bCons (sParN (n := 2) cx (nCons (i := 2) sc_put_in.nd rfl (.inl rfl) (nCons (i := 3) sc_put_in.nd rfl (.inl rfl) nNil)) (pFCons eStr (pFCons eInt pFNil)) rfl (by decide))
  (bCons (sFor cx.po cx.calm (iV cx.hK (vV 1)) (gT (n := 3) cx.hK cx.calm (gCons (gN (i := 4) sc_put_in.nd rfl (.inl rfl)) (gCons (gN (i := 5) sc_put_in.nd rfl (.inl rfl)) (gCons (gN (i := 6) sc_put_in.nd rfl (.inl rfl)) gNil))))
  (bCons (sSet (i := 2) sc_put_in.nd rfl (.inl rfl) (eAdd cx (eAdd cx (vV 2) (eSl cx (vV 0) (oS (vV 3)) (oS (vV 4)))) (vV 6)))
  (bOne (sSet (i := 3) sc_put_in.nd rfl (.inl rfl) (vV 5)))))
  (bOne (sR (eAdd cx (vV 2) (eSl cx (vV 0) (oS (vV 3)) oN0)))))))
theorem ok_exchanged {G : Gx} {f : Addr} {fd : FuncData} (X_exchanged : FX G.K G.mg "exchanged" s_exchanged P_exchanged f fd)
    {f0 : Addr} {fd0 : FuncData} (X_first_fault : FX G.K G.mg "first_fault" s_first_fault P_first_fault f0 fd0) (G_first_fault : FnP G 4 f0 fd0 P_first_fault [false, false] F_first_fault)
    {f1 : Addr} {fd1 : FuncData} (X_put_in : FX G.K G.mg "put_in" s_put_in P_put_in f1 fd1) (G_put_in : FnP G 1 f1 fd1 P_put_in [false, false] F_put_in) {C_NoExchange : Addr} (XC_NoExchange : XCl G "NoExchange" ["index"] C_NoExchange) :
    FnP G 5 f fd P_exchanged [false, false] F_exchanged := by
  unfold F_exchanged
  exact fn_plain X_exchanged.F sc_exchanged rfl (by decide) (fun cdv A outer s H E cx =>
  (bCons (sSet (i := 2) sc_exchanged.nd rfl (.inl rfl) (eCall cx G_first_fault (by decide) (by rfl) X_first_fault.g X_first_fault.F.kp X_first_fault.b (pCons (vV 0) (pCons (vV 1) pNil))))
  (bCons (sIf (tCmp cIsnt (vV 2) eNon (nomark _))
  (bOne (sRaise cx (by decide) XC_NoExchange (by rfl) (by decide) (pCons (vV 2) pNil)))
  bNil)
  (bOne (sR (eCall cx G_put_in (by decide) (by rfl) X_put_in.g X_put_in.F.kp X_put_in.b (pCons (vV 0) (pCons (vV 1) pNil))))))))
theorem ok_is_exchange {G : Gx} {f : Addr} {fd : FuncData} (X_is_exchange : FX G.K G.mg "is_exchange" s_is_exchange P_is_exchange f fd)
    {f0 : Addr} {fd0 : FuncData} (X_first_fault : FX G.K G.mg "first_fault" s_first_fault P_first_fault f0 fd0) (G_first_fault : FnP G 4 f0 fd0 P_first_fault [false, false] F_first_fault)
    {f1 : Addr} {fd1 : FuncData} (X_put_in : FX G.K G.mg "put_in" s_put_in P_put_in f1 fd1) (G_put_in : FnP G 1 f1 fd1 P_put_in [false, false] F_put_in) :
    FnP G 5 f fd P_is_exchange [false, false, false] F_is_exchange := by
  unfold F_is_exchange
  exact fn_plain X_is_exchange.F sc_is_exchange rfl (by decide) (fun cdv A outer s H E cx =>
  (bOne (sR (eAnd cx.hK (eCmp cIs (eCall cx G_first_fault (by decide) (by rfl) X_first_fault.g X_first_fault.F.kp X_first_fault.b (pCons (vV 0) (pCons (vV 2) pNil))) eNon (nomark _)) (eOne (eCmp (cEq cx) (eCall cx G_put_in (by decide) (by rfl) X_put_in.g X_put_in.F.kp X_put_in.b (pCons (vV 0) (pCons (vV 2) pNil))) (vV 1) (nomark _)))))))
theorem ok_cost_of {G : Gx} {f : Addr} {fd : FuncData} (X_cost_of : FX0 G.K G.mg "cost_of" s_cost_of f fd) (b_len : G.mg "len" = none) (b_sum : G.mg "sum" = none) :
    FnP G 1 f fd P_cost_of [false, false] F_cost_of := by
  unfold F_cost_of
  exact fn_plain X_cost_of.F sc_cost_of rfl (by decide) (fun cdv A outer s H E cx =>
  (bOne (sR (eB cx (bSum cx) (by rfl) b_sum (by decide +kernel) (pCons (eLc (own := [("begin", 2), ("end", 3), ("new", 4)])  cx sc_cost_of.nd  (iV cx.hK (vV 0)) (blkOk_by (own := [("begin", 2), ("end", 3), ("new", 4)]) (N := N_cost_of) (sc := defScope s_cost_of) (by decide +kernel)) (by decide) (by decide) (fun _ _ _ _ _ cx => (gT (n := 3) cx.hK cx.calm (gCons (gN (i := 2) sc_cost_of.nd rfl (.inl rfl)) (gCons (gN (i := 3) sc_cost_of.nd rfl (.inl rfl)) (gCons (gN (i := 4) sc_cost_of.nd rfl (.inl rfl)) gNil))))) (fun _ _ _ _ _ cx => cNil) (fun _ _ _ _ _ cx => (eAdd cx (eAdd cx (eSub (vV 3) (vV 2)) (eB cx (bLen cx) (by rfl) b_len (by decide +kernel) (pCons (vV 4) pNil))) (vV 1)))) pNil)))))
theorem ok_L_pen {G : Gx} {f : Addr} {fd : FuncData} (X_L_pen : FX G.K G.mg "_law_pen" s_L_pen P_L_pen f fd) (b_list : G.mg "list" = none) :
    FnP G 1 f fd P_L_pen [false] F_L_pen := by
  unfold F_L_pen
  exact fn_plain X_L_pen.F sc_L_pen rfl (by decide) (fun cdv A outer s H E cx =>
  (bOne (sR (eDisp (dens := [((dC (.str (tl ("cells" : Str)))), (dN listD (aCons (dSl (dV 0) none (some (dC (.int 63)))) aNil))), ((dC (.str (tl ("turn" : Str)))), (dC (.int 0))), ((dC (.str (tl ("left" : Str)))), (dC (.int 0)))]) cx (pps_cons eStr (eT cx (bList cx) (by rfl) b_list (by decide +kernel) (pCons (eSl cx (vV 0) oN0 (oS eInt)) pNil)) (pps_cons eStr eInt (pps_cons eStr eInt pps_nil))) (by rfl) (by rfl) (fun z => by cases z) (by decide)))))
theorem ok_L_draw {G : Gx} {f : Addr} {fd : FuncData} (X_L_draw : FX G.K G.mg "_law_draw" s_L_draw P_L_draw f fd) (b_abs : G.mg "abs" = none) (b_int : G.mg "int" = none) (b_len : G.mg "len" = none) :
    FnP G 1 f fd P_L_draw [true, false] F_L_draw := by
  unfold F_L_draw
  exact fn_plain X_L_draw.F sc_L_draw rfl (by decide) (fun cdv A outer s H E cx =>
  (bCons (sIf (tCmp cGt (eIx cx (vV 0) eStr (fun _ _ => rfl) (fun _ _ => rfl)) eInt (nomark _))
  (bCons (sSet (i := 2) sc_L_draw.nd rfl (.inl rfl) (eMod (eT cx bInt (by rfl) b_int (by decide +kernel) (pCons (eIx cx (vV 0) eStr (fun _ _ => rfl) (fun _ _ => rfl)) pNil)) (vV 1)))
  (bCons (sDput cx (vV 0) eStr (eFdiv (eIx cx (vV 0) eStr (fun _ _ => rfl) (fun _ _ => rfl)) (vV 1)) rfl)
  (bOne (sR (vV 2)))))
  bNil)
  (bCons (sSet (i := 3) sc_L_draw.nd rfl (.inl rfl) (eIx cx (vV 0) eStr (fun _ _ => rfl) (fun _ _ => rfl)))
  (bCons (sDput cx (vV 0) eStr (eAdd cx (vV 3) eInt) rfl)
  (bCons (sSet (i := 4) sc_L_draw.nd rfl (.inl rfl) (eAdd cx (eMul eInt (vV 3)) eInt))
  (bCons (sIf (tCmp (cNeE cx) (eIx cx (vV 0) eStr (fun _ _ => rfl) (fun _ _ => rfl)) (eLst pNil) (nomark _))
  (bOne (sSet (i := 4) sc_L_draw.nd rfl (.inl rfl) (eIx cx (eIx cx (vV 0) eStr (fun _ _ => rfl) (fun _ _ => rfl)) (eMod (eT cx bInt (by rfl) b_int (by decide +kernel) (pCons (vV 3) pNil)) (eB cx (bLen cx) (by rfl) b_len (by decide +kernel) (pCons (eIx cx (vV 0) eStr (fun _ _ => rfl) (fun _ _ => rfl)) pNil))) (fun _ _ => rfl) (fun _ _ => rfl))))
  bNil)
  (bCons (sIf (tW (wAn (tCmp cLt (vV 3) (eB cx (bLen cx) (by rfl) b_len (by decide +kernel) (pCons (eIx cx (vV 0) eStr (fun _ _ => rfl) (fun _ _ => rfl)) pNil)) (nomark _)) (wA1 (tCmp cGe (eB cx bAbs (by rfl) b_abs (by decide +kernel) (pCons (vV 4) pNil)) (ePow eInt eInt) (nomark _)))))
  (bCons (sDput cx (vV 0) eStr (eFdiv (eSub (eB cx bAbs (by rfl) b_abs (by decide +kernel) (pCons (vV 4) pNil)) (ePow eInt eInt)) (vV 1)) rfl)
  (bOne (sR (eMod (eSub (eB cx bAbs (by rfl) b_abs (by decide +kernel) (pCons (vV 4) pNil)) (ePow eInt eInt)) (vV 1)))))
  bNil)
  (bCons (sSet (i := 5) sc_L_draw.nd rfl (.inl rfl) (eLst (pCons eInt (pCons eInt (pCons eInt (pCons eInt (pCons eInt pNil)))))))
  (bCons (sSet (i := 6) sc_L_draw.nd rfl (.inl rfl) (eIx cx (vV 5) (eMod (eT cx bInt (by rfl) b_int (by decide +kernel) (pCons (vV 3) pNil)) eInt) (fun _ _ => rfl) (fun _ _ => rfl)))
  (bCons (sSet (i := 7) sc_L_draw.nd rfl (.inl rfl) (eMod (eT cx bInt (by rfl) b_int (by decide +kernel) (pCons (eAdd cx (eAdd cx (eMul (eMod (eT cx bInt (by rfl) b_int (by decide +kernel) (pCons (vV 4) pNil)) (vV 6)) eInt) (eMul (vV 3) (eAdd cx (eMul eInt (vV 3)) eInt))) eInt) pNil)) (vV 6)))
  (bCons (sSet (i := 7) sc_L_draw.nd rfl (.inl rfl) (eMod (eT cx bInt (by rfl) b_int (by decide +kernel) (pCons (eMul (vV 7) (eAdd cx (vV 7) eInt)) pNil)) (eIx cx (vV 5) (eMod (eT cx bInt (by rfl) b_int (by decide +kernel) (pCons (eAdd cx (vV 3) eInt) pNil)) eInt) (fun _ _ => rfl) (fun _ _ => rfl))))
  (bOne (sR (eMod (eT cx bInt (by rfl) b_int (by decide +kernel) (pCons (eFdiv (eMod (eT cx bInt (by rfl) b_int (by decide +kernel) (pCons (eAdd cx (eAdd cx (eMul (vV 7) (vV 7)) (eMul eInt (vV 7))) (vV 3)) pNil)) eInt) eInt) pNil)) (vV 1)))))))))))))))
theorem ok_L_pick {G : Gx} {f : Addr} {fd : FuncData} (X_L_pick : FX G.K G.mg "_law_pick" s_L_pick P_L_pick f fd)
    {f0 : Addr} {fd0 : FuncData} (X_L_draw : FX G.K G.mg "_law_draw" s_L_draw P_L_draw f0 fd0) (G_L_draw : FnP G 1 f0 fd0 P_L_draw [true, false] F_L_draw) (b_len : G.mg "len" = none) :
    FnP G 2 f fd P_L_pick [true, false] F_L_pick := by
  unfold F_L_pick
  exact fn_plain X_L_pick.F sc_L_pick rfl (by decide) (fun cdv A outer s H E cx =>
  (bOne (sR (eIx cx (vV 1) (eCall cx G_L_draw (by decide) (by rfl) X_L_draw.g X_L_draw.F.kp X_L_draw.b (pCons (vV 0) (pCons (eB cx (bLen cx) (by rfl) b_len (by decide +kernel) (pCons (vV 1) pNil)) pNil))) (fun _ _ => rfl) (fun _ _ => rfl)))))
theorem ok_L_signs {G : Gx} {f : Addr} {fd : FuncData} (X_L_signs : FX G.K G.mg "_law_signs" s_L_signs P_L_signs f fd) :
    FnP G 1 f fd P_L_signs [] F_L_signs := by
  unfold F_L_signs
  exact fn_plain X_L_signs.F sc_L_signs rfl (by decide) (fun cdv A outer s H E cx =>
  (bOne (sR eStr)))
theorem ok_L_is_text {G : Gx} {f : Addr} {fd : FuncData} (X_L_is_text : FX G.K G.mg "_law_is_text" s_L_is_text P_L_is_text f fd)
    {f0 : Addr} {fd0 : FuncData} (X_L_signs : FX G.K G.mg "_law_signs" s_L_signs P_L_signs f0 fd0) (G_L_signs : FnP G 1 f0 fd0 P_L_signs [] F_L_signs) (b_isinstance : G.mg "isinstance" = none) (b_str : G.mg "str" = none) :
    FnP G 2 f fd P_L_is_text [false] F_L_is_text := by
  unfold F_L_is_text
  exact fn_plain X_L_is_text.F sc_L_is_text rfl (by decide) (fun cdv A outer s H E cx =>
  (bOne (sR (eAnd cx.hK (eB cx (bIsi cx) (by rfl) b_isinstance (by decide +kernel) (pCons (vV 0) (pCons (eTy cx (by rfl) b_str (by decide +kernel)) pNil))) (eOne (eCmp (cEqE cx) (eLc (own := [("_law_sign", 1)])  cx sc_L_is_text.nd  (iV cx.hK (vV 0)) (blkOk_by (own := [("_law_sign", 1)]) (N := N_L_is_text) (sc := defScope s_L_is_text) (by decide +kernel)) (by decide) (by decide) (fun _ _ _ _ _ cx => (gN (i := 1) sc_L_is_text.nd rfl (.inl rfl))) (fun _ _ _ _ _ cx => (cOne (tCmp (cNotIn cx) (vV 1) (eCall0 cx G_L_signs (by decide) (by rfl) X_L_signs.g X_L_signs.F.kp X_L_signs.b) (by rfl)))) (fun _ _ _ _ _ cx => (vV 1))) (eLst pNil) (nomark _)))))))
theorem ok_L_is_number {G : Gx} {f : Addr} {fd : FuncData} (X_L_is_number : FX G.K G.mg "_law_is_number" s_L_is_number P_L_is_number f fd) (b_bool : G.mg "bool" = none) (b_int : G.mg "int" = none) (b_isinstance : G.mg "isinstance" = none) :
    FnP G 1 f fd P_L_is_number [false, false, false] F_L_is_number := by
  unfold F_L_is_number
  exact fn_plain X_L_is_number.F sc_L_is_number rfl (by decide) (fun cdv A outer s H E cx =>
  (bOne (sR (eAnd cx.hK (eB cx (bIsi cx) (by rfl) b_isinstance (by decide +kernel) (pCons (vV 0) (pCons (eTy cx (by rfl) b_int (by decide +kernel)) pNil))) (eAnd cx.hK (eNot cx.hK (eB cx (bIsi cx) (by rfl) b_isinstance (by decide +kernel) (pCons (vV 0) (pCons (eTy cx (by rfl) b_bool (by decide +kernel)) pNil)))) (eOne (eChain cLe cLe (vV 1) (vV 0) (vV 2))))))))
theorem ok_L_few {G : Gx} {f : Addr} {fd : FuncData} (X_L_few : FX G.K G.mg "_law_few" s_L_few P_L_few f fd)
    {f0 : Addr} {fd0 : FuncData} (X_L_pick : FX G.K G.mg "_law_pick" s_L_pick P_L_pick f0 fd0) (G_L_pick : FnP G 2 f0 fd0 P_L_pick [true, false] F_L_pick)
    {f1 : Addr} {fd1 : FuncData} (X_L_signs : FX G.K G.mg "_law_signs" s_L_signs P_L_signs f1 fd1) (G_L_signs : FnP G 1 f1 fd1 P_L_signs [] F_L_signs) (b_range : G.mg "range" = none) :
    FnP G 3 f fd P_L_few [true] F_L_few := by
  unfold F_L_few
  exact fn_plain X_L_few.F sc_L_few rfl (by decide) (fun cdv A outer s H E cx =>
  (bCons (sSet (i := 1) sc_L_few.nd rfl (.inr rfl) (eLst (pCons (eCall cx G_L_pick (by decide) (by rfl) X_L_pick.g X_L_pick.F.kp X_L_pick.b (pCons (vV 0) (pCons (eSigns cx (textDef X_L_signs.F sc_L_signs rfl X_L_signs.b) (by decide) (by rfl) X_L_signs.g X_L_signs.F.kp (by decide +kernel) (by decide +kernel) (by decide +kernel)) pNil))) (pCons (eCall cx G_L_pick (by decide) (by rfl) X_L_pick.g X_L_pick.F.kp X_L_pick.b (pCons (vV 0) (pCons eStr pNil))) (pCons (eCall cx G_L_pick (by decide) (by rfl) X_L_pick.g X_L_pick.F.kp X_L_pick.b (pCons (vV 0) (pCons eStr pNil))) pNil)))))
  (bCons (sSet (i := 2) sc_L_few.nd rfl (.inl rfl) (eMs (mJoin cx) PySem.F.slot_str_join PySem.F.type_str_join eStr (pCons (eLc (own := [("_law_k", 3)])  cx sc_L_few.nd  (iR1 (by rfl) (by rw [cx.hm]; exact b_range) (pCons eInt pNil)) (blkOk_by (own := [("_law_k", 3)]) (N := N_L_few) (sc := defScope s_L_few) (by decide +kernel)) (by decide) (by decide) (fun _ _ _ _ _ cx => (gN (i := 3) sc_L_few.nd rfl (.inl rfl))) (fun _ _ _ _ _ cx => (cOne (tCmp (cNotIn cx) (eIx cx (vV 1) (vV 3) (fun _ _ => rfl) (fun _ _ => rfl)) (eSl cx (vV 1) oN0 (oS (vV 3))) (by rfl)))) (fun _ _ _ _ _ cx => (eIx cx (vV 1) (vV 3) (fun _ _ => rfl) (fun _ _ => rfl)))) pNil)))
  (bOne (sR (eCall cx G_L_pick (by decide) (by rfl) X_L_pick.g X_L_pick.F.kp X_L_pick.b (pCons (vV 0) (pCons (eLst (pCons eStr (pCons eStr (pCons eStr (pCons eStr (pCons eStr (pCons eStr (pCons eStr (pCons eStr (pCons eStr (pCons (vV 2) pNil))))))))))) pNil))))))))
theorem ok_L_word {G : Gx} {f : Addr} {fd : FuncData} (X_L_word : FX G.K G.mg "_law_word" s_L_word P_L_word f fd)
    {f0 : Addr} {fd0 : FuncData} (X_L_draw : FX G.K G.mg "_law_draw" s_L_draw P_L_draw f0 fd0) (G_L_draw : FnP G 1 f0 fd0 P_L_draw [true, false] F_L_draw)
    {f1 : Addr} {fd1 : FuncData} (X_L_pick : FX G.K G.mg "_law_pick" s_L_pick P_L_pick f1 fd1) (G_L_pick : FnP G 2 f1 fd1 P_L_pick [true, false] F_L_pick) (b_range : G.mg "range" = none) :
    FnP G 3 f fd P_L_word [true, false, false, false] F_L_word := by
  unfold F_L_word
  exact fn_plain X_L_word.F sc_L_word rfl (by decide) (fun cdv A outer s H E cx =>
  (bCons (sSet (i := 4) sc_L_word.nd rfl (.inl rfl) (eAdd cx (vV 2) (eCall cx G_L_draw (by decide) (by rfl) X_L_draw.g X_L_draw.F.kp X_L_draw.b (pCons (vV 0) (pCons (eAdd cx (eSub (vV 3) (vV 2)) eInt) pNil)))))
  (bOne (sR (eMs (mJoin cx) PySem.F.slot_str_join PySem.F.type_str_join eStr (pCons (eLc (own := [("_law_k", 5)])  cx sc_L_word.nd  (iR1 (by rfl) (by rw [cx.hm]; exact b_range) (pCons (vV 4) pNil)) (blkOk_by (own := [("_law_k", 5)]) (N := N_L_word) (sc := defScope s_L_word) (by decide +kernel)) (by decide) (by decide) (fun _ _ _ _ _ cx => (gN (i := 5) sc_L_word.nd rfl (.inl rfl))) (fun _ _ _ _ _ cx => cNil) (fun _ _ _ _ _ cx => (eCall cx G_L_pick (by decide) (by rfl) X_L_pick.g X_L_pick.F.kp X_L_pick.b (pCons (vV 0) (pCons (vV 1) pNil))))) pNil))))))
theorem ok_L_places {G : Gx} {f : Addr} {fd : FuncData} (X_L_places : FX G.K G.mg "_law_places" s_L_places P_L_places f fd) (b_len : G.mg "len" = none) (b_range : G.mg "range" = none) :
    FnP G 1 f fd P_L_places [false, false] F_L_places := by
  unfold F_L_places
  exact fn_plain X_L_places.F sc_L_places rfl (by decide) (fun cdv A outer s H E cx =>
  (bCons (sSet (i := 2) sc_L_places.nd rfl (.inr rfl) (eB cx (bLen cx) (by rfl) b_len (by decide +kernel) (pCons (vV 1) pNil)))
  (bOne (sR (eLc (own := [("_law_k", 3)])  cx sc_L_places.nd  (iR1 (by rfl) (by rw [cx.hm]; exact b_range) (pCons (eAdd cx (eSub (eB cx (bLen cx) (by rfl) b_len (by decide +kernel) (pCons (vV 0) pNil)) (vV 2)) eInt) pNil)) (blkOk_by (own := [("_law_k", 3)]) (N := N_L_places) (sc := defScope s_L_places) (by decide +kernel)) (by decide) (by decide) (fun _ _ _ _ _ cx => (gN (i := 3) sc_L_places.nd rfl (.inl rfl))) (fun _ _ _ _ _ cx => (cOne (tCmp (cEq cx) (eSl cx (vV 0) (oS (vV 3)) (oS (eAdd cx (vV 3) (vV 2)))) (vV 1) (nomark _)))) (fun _ _ _ _ _ cx => (vV 3)))))))
theorem ok_L_any_value {G : Gx} {f : Addr} {fd : FuncData} (X_L_any_value : FX G.K G.mg "_law_any_value" s_L_any_value P_L_any_value f fd)
    {f0 : Addr} {fd0 : FuncData} (X_L_pick : FX G.K G.mg "_law_pick" s_L_pick P_L_pick f0 fd0) (G_L_pick : FnP G 2 f0 fd0 P_L_pick [true, false] F_L_pick) :
    FnP G 3 f fd P_L_any_value [true] F_L_any_value := by
  unfold F_L_any_value
  exact fn_plain X_L_any_value.F sc_L_any_value rfl (by decide) (fun cdv A outer s H E cx =>
  (bCons (sSet (i := 1) sc_L_any_value.nd rfl (.inl rfl) (eLst (pCons eNon (pCons eBl (pCons eBl (pCons eInt (pCons eInt (pCons (eNeg eInt) (pCons (ePow eInt eInt) (pCons eStr (pCons eStr (pCons eStr (pCons eStr (pCons eStr (pCons (eTup pNil) (pCons (eTup (pCons eStr pNil)) (pCons (eTup (pCons eStr (pCons eStr pNil))) (pCons (eLst (pCons eStr (pCons eStr pNil))) (pCons eDict0 pNil)))))))))))))))))))
  (bCons (sSet (i := 1) sc_L_any_value.nd rfl (.inl rfl) (eAdd cx (vV 1) (eLst (pCons (eLst (pCons eInt pNil)) (pCons (eTup (pCons eStr (pCons eInt pNil))) (pCons (eTup (pCons eStr (pCons eStr pNil))) (pCons (eTup (pCons eStr (pCons eStr pNil))) (pCons (eTup (pCons eStr (pCons eStr (pCons eStr pNil)))) (pCons (eDisp (dens := [((dC (.str (tl ("a" : Str)))), (dC (.str (tl ("b" : Str)))))]) cx (pps_cons eStr eStr pps_nil) (by rfl) (by rfl) (fun z => by cases z) (by decide)) (pCons eStr (pCons (eTup (pCons (eMul eStr eInt) (pCons eStr pNil))) pNil)))))))))))
  (bOne (sR (eCall cx G_L_pick (by decide) (by rfl) X_L_pick.g X_L_pick.F.kp X_L_pick.b (pCons (vV 0) (pCons (eAdd cx (vV 1) (eLst (pCons (eTup (pCons eStr (pCons (eMul eStr eInt) pNil))) (pCons (eMul eStr eInt) (pCons (eMul eStr eInt) (pCons (eTup (pCons eInt (pCons eInt pNil))) (pCons (eLst pNil) (pCons (eTup (pCons eStr (pCons eNon pNil))) pNil)))))))) pNil))))))))
theorem ok_L_ntext {G : Gx} {f : Addr} {fd : FuncData} (X_L_ntext : FX G.K G.mg "_law_ntext" s_L_ntext P_L_ntext f fd)
    {f0 : Addr} {fd0 : FuncData} (X_L_draw : FX G.K G.mg "_law_draw" s_L_draw P_L_draw f0 fd0) (G_L_draw : FnP G 1 f0 fd0 P_L_draw [true, false] F_L_draw)
    {f1 : Addr} {fd1 : FuncData} (X_L_pick : FX G.K G.mg "_law_pick" s_L_pick P_L_pick f1 fd1) (G_L_pick : FnP G 2 f1 fd1 P_L_pick [true, false] F_L_pick)
    {f2 : Addr} {fd2 : FuncData} (X_L_word : FX G.K G.mg "_law_word" s_L_word P_L_word f2 fd2) (G_L_word : FnP G 3 f2 fd2 P_L_word [true, false, false, false] F_L_word) (b_range : G.mg "range" = none) :
    FnP G 4 f fd P_L_ntext [true, false, false] F_L_ntext := by
  unfold F_L_ntext
  exact fn_plain X_L_ntext.F sc_L_ntext rfl (by decide) (fun cdv A outer s H E cx =>
  (bCons (sPar2 (i := 3) (j := 4) cx sc_L_ntext.nd rfl rfl (by decide) rfl rfl (pFCons (eLst (pCons (eCall cx G_L_word (by decide) (by rfl) X_L_word.g X_L_word.F.kp X_L_word.b (pCons (vV 0) (pCons (vV 1) (pCons eInt (pCons eInt pNil))))) (pCons (eCall cx G_L_word (by decide) (by rfl) X_L_word.g X_L_word.F.kp X_L_word.b (pCons (vV 0) (pCons (vV 1) (pCons eInt (pCons eInt pNil))))) pNil))) (pFCons eStr pFNil)) (by rfl))
  (bCons (sFor cx.po cx.calm (iR1 (by rfl) (by rw [cx.hm]; exact b_range) (pCons (eCall cx G_L_draw (by decide) (by rfl) X_L_draw.g X_L_draw.F.kp X_L_draw.b (pCons (vV 0) (pCons eInt pNil))) pNil)) (gN (i := 5) sc_L_ntext.nd rfl (.inl rfl))
  (bOne (sSet (i := 4) sc_L_ntext.nd rfl (.inl rfl) (eAdd cx (vV 4) (eCall cx G_L_pick (by decide) (by rfl) X_L_pick.g X_L_pick.F.kp X_L_pick.b (pCons (vV 0) (pCons (eAdd cx (vV 3) (eLst (pCons (eCall cx G_L_pick (by decide) (by rfl) X_L_pick.g X_L_pick.F.kp X_L_pick.b (pCons (vV 0) (pCons (vV 1) pNil))) pNil))) pNil)))))))
  (bOne (sR (eSl cx (vV 4) oN0 (oS (vV 2))))))))
theorem ok_L_nonce {G : Gx} {f : Addr} {fd : FuncData} (X_L_nonce : FX G.K G.mg "_law_nonce" s_L_nonce P_L_nonce f fd)
    {f0 : Addr} {fd0 : FuncData} (X_L_places : FX G.K G.mg "_law_places" s_L_places P_L_places f0 fd0) (G_L_places : FnP G 1 f0 fd0 P_L_places [false, false] F_L_places) (b_len : G.mg "len" = none) :
    FnP G 2 f fd P_L_nonce [false, false, false] F_L_nonce := by
  unfold F_L_nonce
  exact fn_plain X_L_nonce.F sc_L_nonce rfl (by decide) (fun cdv A outer s H E cx =>
  (bOne (sR (eAnd cx.hK (eCmp cLt (vV 1) (vV 2) (nomark _)) (eOne (eCmp (cEq cx) (eB cx (bLen cx) (by rfl) b_len (by decide +kernel) (pCons (eCall cx G_L_places (by decide) (by rfl) X_L_places.g X_L_places.F.kp X_L_places.b (pCons (vV 0) (pCons (eSl cx (vV 0) (oS (vV 1)) (oS (vV 2))) pNil))) pNil)) eInt (nomark _)))))))
theorem ok_L_naround {G : Gx} {f : Addr} {fd : FuncData} (X_L_naround : FX G.K G.mg "_law_naround" s_L_naround P_L_naround f fd) (b_len : G.mg "len" = none) (b_max : G.mg "max" = none) (b_range : G.mg "range" = none) :
    FnP G 1 f fd P_L_naround [false, false, false] F_L_naround := by
  unfold F_L_naround
  exact fn_plain X_L_naround.F sc_L_naround rfl (by decide) (fun cdv A outer s H E cx =>
  (bCons (sSet (i := 3) sc_L_naround.nd rfl (.inl rfl) (eLst pNil))
  (bCons (sFor cx.po cx.calm (iR1 (by rfl) (by rw [cx.hm]; exact b_range) (pCons (eAdd cx (vV 1) eInt) pNil)) (gN (i := 4) sc_L_naround.nd rfl (.inr rfl))
  (bOne (sX (eML cx mt_extend mExtend PySem.F.slot_list_extend PySem.F.type_list_extend (vV 3) (pCons (eLc (own := [("_law_tip", 5)])  cx sc_L_naround.nd  (iR2 (by rfl) (by rw [cx.hm]; exact b_range) (pCons (eB cx (bMax cx) (by rfl) b_max (by decide +kernel) (pCons (vV 2) (pCons (eAdd cx (vV 4) eInt) pNil))) (pCons (eAdd cx (eB cx (bLen cx) (by rfl) b_len (by decide +kernel) (pCons (vV 0) pNil)) eInt) pNil))) (blkOk_by (own := [("_law_tip", 5)]) (N := N_L_naround) (sc := defScope s_L_naround) (by decide +kernel)) (by decide) (by decide) (fun _ _ _ _ _ cx => (gN (i := 5) sc_L_naround.nd rfl (.inl rfl))) (fun _ _ _ _ _ cx => cNil) (fun _ _ _ _ _ cx => (eTup (pCons (vV 4) (pCons (vV 5) pNil))))) pNil)))))
  (bOne (sR (vV 3))))))
theorem ok_L_nspot {G : Gx} {f : Addr} {fd : FuncData} (X_L_nspot : FX G.K G.mg "_law_nspot" s_L_nspot P_L_nspot f fd)
    {f0 : Addr} {fd0 : FuncData} (X_L_draw : FX G.K G.mg "_law_draw" s_L_draw P_L_draw f0 fd0) (G_L_draw : FnP G 1 f0 fd0 P_L_draw [true, false] F_L_draw)
    {f1 : Addr} {fd1 : FuncData} (X_L_pick : FX G.K G.mg "_law_pick" s_L_pick P_L_pick f1 fd1) (G_L_pick : FnP G 2 f1 fd1 P_L_pick [true, false] F_L_pick) (b_len : G.mg "len" = none) (b_min : G.mg "min" = none) :
    FnP G 3 f fd P_L_nspot [true, false] F_L_nspot := by
  unfold F_L_nspot
  exact fn_plain X_L_nspot.F sc_L_nspot rfl (by decide) (fun cdv A outer s H E cx =>
  (bCons (sSet (i := 2) sc_L_nspot.nd rfl (.inl rfl) (eB cx (bLen cx) (by rfl) b_len (by decide +kernel) (pCons (vV 1) pNil)))
  (bCons (sSet (i := 3) sc_L_nspot.nd rfl (.inl rfl) (eCall cx G_L_pick (by decide) (by rfl) X_L_pick.g X_L_pick.F.kp X_L_pick.b (pCons (vV 0) (pCons (eLst (pCons eInt (pCons (vV 2) (pCons (eCall cx G_L_draw (by decide) (by rfl) X_L_draw.g X_L_draw.F.kp X_L_draw.b (pCons (vV 0) (pCons (eAdd cx (vV 2) eInt) pNil))) (pCons (eCall cx G_L_draw (by decide) (by rfl) X_L_draw.g X_L_draw.F.kp X_L_draw.b (pCons (vV 0) (pCons (eAdd cx (vV 2) eInt) pNil))) pNil))))) pNil))))
  (bOne (sR (eTup (pCons (vV 3) (pCons (eCall cx G_L_pick (by decide) (by rfl) X_L_pick.g X_L_pick.F.kp X_L_pick.b (pCons (vV 0) (pCons (eLst (pCons (vV 3) (pCons (vV 2) (pCons (eAdd cx (vV 3) (eCall cx G_L_draw (by decide) (by rfl) X_L_draw.g X_L_draw.F.kp X_L_draw.b (pCons (vV 0) (pCons (eAdd cx (eSub (vV 2) (vV 3)) eInt) pNil)))) (pCons (eB cx (bMin cx) (by rfl) b_min (by decide +kernel) (pCons (vV 2) (pCons (eAdd cx (vV 3) eInt) pNil))) pNil))))) pNil))) pNil))))))))
theorem ok_L_nput {G : Gx} {f : Addr} {fd : FuncData} (X_L_nput : FX G.K G.mg "_law_nput" s_L_nput P_L_nput f fd) :
    FnP G 1 f fd P_L_nput [false, false] F_L_nput := by
  unfold F_L_nput
  exact fn_plain X_L_nput.F sc_L_nput rfl (by decide) (fun cdv A outer s H E cx =>
  (bCons (sParN (n := 2) cx (nCons (i := 2) sc_L_nput.nd rfl (.inl rfl) (nCons (i := 3) sc_L_nput.nd rfl (.inl rfl) nNil)) (pFCons eStr (pFCons eInt pFNil)) rfl (by decide))
  (bCons (sFor cx.po cx.calm (iV cx.hK (vV 1)) (gT (n := 3) cx.hK cx.calm (gCons (gN (i := 4) sc_L_nput.nd rfl (.inl rfl)) (gCons (gN (i := 5) sc_L_nput.nd rfl (.inl rfl)) (gCons (gN (i := 6) sc_L_nput.nd rfl (.inl rfl)) gNil))))
  (bCons (sSet (i := 2) sc_L_nput.nd rfl (.inl rfl) (eAdd cx (eAdd cx (vV 2) (eSl cx (vV 0) (oS (vV 3)) (oS (vV 4)))) (vV 6)))
  (bOne (sSet (i := 3) sc_L_nput.nd rfl (.inl rfl) (vV 5)))))
  (bOne (sR (eAdd cx (vV 2) (eSl cx (vV 0) (oS (vV 3)) oN0)))))))
theorem ok_L_nfault {G : Gx} {f : Addr} {fd : FuncData} (X_L_nfault : FX G.K G.mg "_law_nfault" s_L_nfault P_L_nfault f fd)
    {f0 : Addr} {fd0 : FuncData} (X_L_is_text : FX G.K G.mg "_law_is_text" s_L_is_text P_L_is_text f0 fd0) (G_L_is_text : FnP G 2 f0 fd0 P_L_is_text [false] F_L_is_text)
    {f1 : Addr} {fd1 : FuncData} (X_L_is_number : FX G.K G.mg "_law_is_number" s_L_is_number P_L_is_number f1 fd1) (G_L_is_number : FnP G 1 f1 fd1 P_L_is_number [false, false, false] F_L_is_number)
    {f2 : Addr} {fd2 : FuncData} (X_L_nonce : FX G.K G.mg "_law_nonce" s_L_nonce P_L_nonce f2 fd2) (G_L_nonce : FnP G 2 f2 fd2 P_L_nonce [false, false, false] F_L_nonce) (b_isinstance : G.mg "isinstance" = none) (b_len : G.mg "len" = none) (b_range : G.mg "range" = none) (b_tuple : G.mg "tuple" = none) :
    FnP G 3 f fd P_L_nfault [false, false] F_L_nfault := by
  unfold F_L_nfault
  exact fn_plain X_L_nfault.F sc_L_nfault rfl (by decide) (fun cdv A outer s H E cx =>
  (bCons (sIf (tN (tV cx.hK (eB cx (bIsi cx) (by rfl) b_isinstance (by decide +kernel) (pCons (vV 1) (pCons (eTy cx (by rfl) b_tuple (by decide +kernel)) pNil)))))
  (bOne (sR eInt))
  bNil)
  (bCons (sSet (i := 2) sc_L_nfault.nd rfl (.inl rfl) eInt)
  (bCons (sFor cx.po cx.calm (iR1 (by rfl) (by rw [cx.hm]; exact b_range) (pCons (eB cx (bLen cx) (by rfl) b_len (by decide +kernel) (pCons (vV 1) pNil)) pNil)) (gN (i := 3) sc_L_nfault.nd rfl (.inl rfl))
  (bCons (sSet (i := 4) sc_L_nfault.nd rfl (.inl rfl) (eIx cx (vV 1) (vV 3) (fun _ _ => rfl) (fun _ _ => rfl)))
  (bCons (sIf (tW (wOn (tN (tV cx.hK (eB cx (bIsi cx) (by rfl) b_isinstance (by decide +kernel) (pCons (vV 4) (pCons (eTy cx (by rfl) b_tuple (by decide +kernel)) pNil))))) (wOn (tCmp (cNe cx) (eB cx (bLen cx) (by rfl) b_len (by decide +kernel) (pCons (vV 4) pNil)) eInt (nomark _)) (wO1 (tN (tV cx.hK (eCall cx G_L_is_number (by decide) (by rfl) X_L_is_number.g X_L_is_number.F.kp X_L_is_number.b (pCons (eIx cx (vV 4) eInt (fun _ _ => rfl) (fun _ _ => rfl)) (pCons (vV 2) (pCons (eB cx (bLen cx) (by rfl) b_len (by decide +kernel) (pCons (vV 0) pNil)) pNil))))))))))
  (bOne (sR (vV 3)))
  bNil)
  (bCons (sIf (tW (wOn (tN (tV cx.hK (eCall cx G_L_is_number (by decide) (by rfl) X_L_is_number.g X_L_is_number.F.kp X_L_is_number.b (pCons (eIx cx (vV 4) eInt (fun _ _ => rfl) (fun _ _ => rfl)) (pCons (eAdd cx (eIx cx (vV 4) eInt (fun _ _ => rfl) (fun _ _ => rfl)) eInt) (pCons (eB cx (bLen cx) (by rfl) b_len (by decide +kernel) (pCons (vV 0) pNil)) pNil)))))) (wO1 (tN (tV cx.hK (eCall cx G_L_is_text (by decide) (by rfl) X_L_is_text.g X_L_is_text.F.kp X_L_is_text.b (pCons (eIx cx (vV 4) eInt (fun _ _ => rfl) (fun _ _ => rfl)) pNil)))))))
  (bOne (sR (vV 3)))
  bNil)
  (bCons (sIf (tN (tV cx.hK (eCall cx G_L_nonce (by decide) (by rfl) X_L_nonce.g X_L_nonce.F.kp X_L_nonce.b (pCons (vV 0) (pCons (eIx cx (vV 4) eInt (fun _ _ => rfl) (fun _ _ => rfl)) (pCons (eIx cx (vV 4) eInt (fun _ _ => rfl) (fun _ _ => rfl)) pNil))))))
  (bOne (sR (vV 3)))
  bNil)
  (bOne (sSet (i := 2) sc_L_nfault.nd rfl (.inl rfl) (eIx cx (vV 4) eInt (fun _ _ => rfl) (fun _ _ => rfl)))))))))
  (bOne (sR eNon))))))
theorem ok_L_ndrawn {G : Gx} {f : Addr} {fd : FuncData} (X_L_ndrawn : FX G.K G.mg "_law_ndrawn" s_L_ndrawn P_L_ndrawn f fd)
    {f0 : Addr} {fd0 : FuncData} (X_L_draw : FX G.K G.mg "_law_draw" s_L_draw P_L_draw f0 fd0) (G_L_draw : FnP G 1 f0 fd0 P_L_draw [true, false] F_L_draw)
    {f1 : Addr} {fd1 : FuncData} (X_L_pick : FX G.K G.mg "_law_pick" s_L_pick P_L_pick f1 fd1) (G_L_pick : FnP G 2 f1 fd1 P_L_pick [true, false] F_L_pick)
    {f2 : Addr} {fd2 : FuncData} (X_L_word : FX G.K G.mg "_law_word" s_L_word P_L_word f2 fd2) (G_L_word : FnP G 3 f2 fd2 P_L_word [true, false, false, false] F_L_word)
    {f3 : Addr} {fd3 : FuncData} (X_L_nonce : FX G.K G.mg "_law_nonce" s_L_nonce P_L_nonce f3 fd3) (G_L_nonce : FnP G 2 f3 fd3 P_L_nonce [false, false, false] F_L_nonce)
    {f4 : Addr} {fd4 : FuncData} (X_L_naround : FX G.K G.mg "_law_naround" s_L_naround P_L_naround f4 fd4) (G_L_naround : FnP G 1 f4 fd4 P_L_naround [false, false, false] F_L_naround) (b_len : G.mg "len" = none) (b_range : G.mg "range" = none) (b_tuple : G.mg "tuple" = none) :
    FnP G 4 f fd P_L_ndrawn [true, false, false] F_L_ndrawn := by
  unfold F_L_ndrawn
  exact fn_plain X_L_ndrawn.F sc_L_ndrawn rfl (by decide) (fun cdv A outer s H E cx =>
  (bCons (sParN (n := 2) cx (nCons (i := 3) sc_L_ndrawn.nd rfl (.inl rfl) (nCons (i := 4) sc_L_ndrawn.nd rfl (.inr rfl) nNil)) (pFCons (eLst pNil) (pFCons eInt pFNil)) rfl (by decide))
  (bCons (sFor cx.po cx.calm (iR1 (by rfl) (by rw [cx.hm]; exact b_range) (pCons (eCall cx G_L_draw (by decide) (by rfl) X_L_draw.g X_L_draw.F.kp X_L_draw.b (pCons (vV 0) (pCons eInt pNil))) pNil)) (gN (i := 5) sc_L_ndrawn.nd rfl (.inl rfl))
  (bCons (sSetLc (i := 6) (own := [("_law_span", 11)])  cx sc_L_ndrawn.nd rfl rfl (sw_true rfl rfl rfl (by decide +kernel)) (iV cx.hK (eCall cx G_L_naround (by decide) (by rfl) X_L_naround.g X_L_naround.F.kp X_L_naround.b (pCons (vV 1) (pCons (eB cx (bLen cx) (by rfl) b_len (by decide +kernel) (pCons (vV 1) pNil)) (pCons eInt pNil))))) (blkOk_by (own := [("_law_span", 11)]) (N := N_L_ndrawn) (sc := defScope s_L_ndrawn) (by decide +kernel)) (by decide) (by decide) (fun _ _ _ _ _ cx => (gN (i := 11) sc_L_ndrawn.nd rfl (.inl rfl))) (fun _ _ _ _ _ cx => (cOne (tCmp cGe (eIx cx (vV 11) eInt (fun _ _ => rfl) (fun _ _ => rfl)) (vV 4) (nomark _)))) (fun _ _ _ _ _ cx => (vV 11)))
  (bCons (sSetLc (i := 6) (own := [("_law_span", 11)])  cx sc_L_ndrawn.nd rfl rfl (sw_true rfl rfl rfl (by decide +kernel)) (iV cx.hK (vV 6)) (blkOk_by (own := [("_law_span", 11)]) (N := N_L_ndrawn) (sc := defScope s_L_ndrawn) (by decide +kernel)) (by decide) (by decide) (fun _ _ _ _ _ cx => (gN (i := 11) sc_L_ndrawn.nd rfl (.inl rfl))) (fun _ _ _ _ _ cx => (cOne (tV cx.hK (eCall cx G_L_nonce (by decide) (by rfl) X_L_nonce.g X_L_nonce.F.kp X_L_nonce.b (pCons (vV 1) (pCons (eIx cx (vV 11) eInt (fun _ _ => rfl) (fun _ _ => rfl)) (pCons (eIx cx (vV 11) eInt (fun _ _ => rfl) (fun _ _ => rfl)) pNil))))))) (fun _ _ _ _ _ cx => (vV 11)))
  (bOne (sIf (tCmp (cNeE cx) (vV 6) (eLst pNil) (nomark _))
  (bCons (sAsg (eCall cx G_L_pick (by decide) (by rfl) X_L_pick.g X_L_pick.F.kp X_L_pick.b (pCons (vV 0) (pCons (eSl cx (vV 6) oN0 (oS (eAdd cx eInt (eCall cx G_L_draw (by decide) (by rfl) X_L_draw.g X_L_draw.F.kp X_L_draw.b (pCons (vV 0) (pCons (eB cx (bLen cx) (by rfl) b_len (by decide +kernel) (pCons (vV 6) pNil)) pNil)))))) pNil))) (gT (n := 2) cx.hK cx.calm (gCons (gN (i := 7) sc_L_ndrawn.nd rfl (.inl rfl)) (gCons (gN (i := 8) sc_L_ndrawn.nd rfl (.inl rfl)) gNil))))
  (bCons (sSet (i := 9) sc_L_ndrawn.nd rfl (.inl rfl) (eSl cx (vV 1) (oS (vV 7)) (oS (vV 8))))
  (bCons (sSet (i := 10) sc_L_ndrawn.nd rfl (.inl rfl) (eLst (pCons (eCall cx G_L_word (by decide) (by rfl) X_L_word.g X_L_word.F.kp X_L_word.b (pCons (vV 0) (pCons (vV 2) (pCons eInt (pCons eInt pNil))))) (pCons (vV 9) (pCons (eAdd cx (eSl cx (vV 9) oN0 (oS eInt)) (eSl cx (vV 9) (oS eInt) oN0)) (pCons (eAdd cx (eSl cx (vV 9) (oS eInt) oN0) eStr) pNil))))))
  (bCons (sX (eML cx mt_append mAppend PySem.F.slot_list_append PySem.F.type_list_append (vV 3) (pCons (eTup (pCons (vV 7) (pCons (vV 8) (pCons (eCall cx G_L_pick (by decide) (by rfl) X_L_pick.g X_L_pick.F.kp X_L_pick.b (pCons (vV 0) (pCons (vV 10) pNil))) pNil)))) pNil)))
  (bOne (sSet (i := 4) sc_L_ndrawn.nd rfl (.inr rfl) (vV 8)))))))
  bNil)))))
  (bOne (sR (eTuple cx (by rfl) b_tuple (vV 3)))))))
theorem ok_L_ncost {G : Gx} {f : Addr} {fd : FuncData} (X_L_ncost : FX G.K G.mg "_law_ncost" s_L_ncost P_L_ncost f fd) (b_len : G.mg "len" = none) (b_sum : G.mg "sum" = none) :
    FnP G 1 f fd P_L_ncost [false, false] F_L_ncost := by
  unfold F_L_ncost
  exact fn_plain X_L_ncost.F sc_L_ncost rfl (by decide) (fun cdv A outer s H E cx =>
  (bOne (sR (eB cx (bSum cx) (by rfl) b_sum (by decide +kernel) (pCons (eLc (own := [("_law_a", 2), ("_law_b", 3), ("_law_fresh", 4)])  cx sc_L_ncost.nd  (iV cx.hK (vV 0)) (blkOk_by (own := [("_law_a", 2), ("_law_b", 3), ("_law_fresh", 4)]) (N := N_L_ncost) (sc := defScope s_L_ncost) (by decide +kernel)) (by decide) (by decide) (fun _ _ _ _ _ cx => (gT (n := 3) cx.hK cx.calm (gCons (gN (i := 2) sc_L_ncost.nd rfl (.inl rfl)) (gCons (gN (i := 3) sc_L_ncost.nd rfl (.inl rfl)) (gCons (gN (i := 4) sc_L_ncost.nd rfl (.inl rfl)) gNil))))) (fun _ _ _ _ _ cx => cNil) (fun _ _ _ _ _ cx => (eAdd cx (eAdd cx (eSub (vV 3) (vV 2)) (eB cx (bLen cx) (by rfl) b_len (by decide +kernel) (pCons (vV 4) pNil))) (vV 1)))) pNil)))))
def catS (s : Stmt) : List Stmt := match defBody s with
  | .Try _ [.ExceptHandler _ _ b _] _ _ _ :: _ => b
  | _ => []
theorem suit_L_nexchanged {G : Gx} {X : Cx} {W : WX} {k : Nat} (c : Cok G X W (k + 2)) {g C : Addr} {cdv : Value} (T : XHd G.K C) (nf_index : PySem.W.findIn G.K (.ref C) "index" = some none) (ki_ValueError : PySem.W.kitOne G.K (.ref C) (.type "ValueError") = some true) (b_ValueError : G.mg "ValueError" = none) (b_isinstance : G.mg "isinstance" = none) : SuitAll G X N_L_nexchanged "_law_nexchanged" (defScope s_L_nexchanged) g cdv 1 C (catS s_L_nexchanged) hd_L_nexchanged := by
  rw [← c.hK] at T nf_index ki_ValueError
  rw [← c.hm] at b_isinstance b_ValueError
  intro s H a dd oe pn fs dv hz hf h
  unfold hd_L_nexchanged at h
  cases e_index : fs.lookup ("index" : Str) with
  | none => rw [e_index] at h; cases h
  | some d_index =>
  rw [e_index] at h
  simp only [Option.bind_some] at h
  cases h
  exact (su_tup (xa_cons (xa_str (by decide +kernel)) (xa_cons (xa_fld (X := (catX X N_L_nexchanged "_law_nexchanged" (defScope s_L_nexchanged) g cdv s H).nox) T nf_index hz hf e_index rfl (.inl rfl)) (xa_cons (xa_isi (X := (catX X N_L_nexchanged "_law_nexchanged" (defScope s_L_nexchanged) g cdv s H).nox) (bn := "ValueError") T hz hf ki_ValueError rfl (.inl rfl) rfl b_isinstance rfl b_ValueError (by decide +kernel)) xa_nil))) (by simp))
theorem cat_L_nexchanged {G : Gx} {X : Cx} {W : WX} {k : Nat} (c : Cok G X W (k + 2)) {g C : Addr} {q : Str} (mC : G.mg "NoExchange" = some (.ref C)) (T : XHd G.K C) (nf_index : PySem.W.findIn G.K (.ref C) "index" = some none) (ki_ValueError : PySem.W.kitOne G.K (.ref C) (.type "ValueError") = some true) (b_ValueError : G.mg "ValueError" = none) (b_isinstance : G.mg "isinstance" = none) (cdv : Value) : GivesTo X N_L_nexchanged "_law_nexchanged" (defScope s_L_nexchanged) g cdv (defBody s_L_nexchanged) "_law_call" q (TTc G X.K 2 1 C hd_L_nexchanged (fun Q v H => [V.str ("told" : Str), v].length ≤ sizeLine ∧ ∀ p, H p = none → Q (.ref p) (upd H p (.tup [.str ("told" : Str), v])))) := by
  exact gives_try (ss := []) (by decide) rfl rfl rfl (by rw [c.hm]; exact mC) (by decide) (fun _ => rfl) (suit_L_nexchanged c T nf_index ki_ValueError b_ValueError b_isinstance) (fun s H pn xe te he => ps_ret (pe_tup (pa_cons pe_str (pa_cons (he _ _) pa_nil))))
theorem ok_L_ncrooked {G : Gx} {f : Addr} {fd : FuncData} (X_L_ncrooked : FX G.K G.mg "_law_ncrooked" s_L_ncrooked P_L_ncrooked f fd)
    {f0 : Addr} {fd0 : FuncData} (X_L_draw : FX G.K G.mg "_law_draw" s_L_draw P_L_draw f0 fd0) (G_L_draw : FnP G 1 f0 fd0 P_L_draw [true, false] F_L_draw)
    {f1 : Addr} {fd1 : FuncData} (X_L_pick : FX G.K G.mg "_law_pick" s_L_pick P_L_pick f1 fd1) (G_L_pick : FnP G 2 f1 fd1 P_L_pick [true, false] F_L_pick)
    {f2 : Addr} {fd2 : FuncData} (X_L_any_value : FX G.K G.mg "_law_any_value" s_L_any_value P_L_any_value f2 fd2) (G_L_any_value : FnP G 3 f2 fd2 P_L_any_value [true] F_L_any_value)
    {f3 : Addr} {fd3 : FuncData} (X_L_nspot : FX G.K G.mg "_law_nspot" s_L_nspot P_L_nspot f3 fd3) (G_L_nspot : FnP G 3 f3 fd3 P_L_nspot [true, false] F_L_nspot) (b_len : G.mg "len" = none) (b_list : G.mg "list" = none) (b_max : G.mg "max" = none) (b_str : G.mg "str" = none) :
    FnP G 4 f fd P_L_ncrooked [true, false, false] F_L_ncrooked := by
  unfold F_L_ncrooked
  exact fn_plain X_L_ncrooked.F sc_L_ncrooked rfl (by decide) (fun cdv A outer s H E cx =>
  (bCons (sPar2 (i := 3) (j := 4) cx sc_L_ncrooked.nd rfl rfl (by decide) rfl rfl (pFCons (eCall cx G_L_draw (by decide) (by rfl) X_L_draw.g X_L_draw.F.kp X_L_draw.b (pCons (vV 0) (pCons eInt pNil))) (pFCons (eB cx (bLen cx) (by rfl) b_len (by decide +kernel) (pCons (vV 1) pNil)) pFNil)) (by rfl))
  (bCons (sSet (i := 5) sc_L_ncrooked.nd rfl (.inl rfl) (eCall cx G_L_draw (by decide) (by rfl) X_L_draw.g X_L_draw.F.kp X_L_draw.b (pCons (vV 0) (pCons (eB cx (bMax cx) (by rfl) b_max (by decide +kernel) (pCons eInt (pCons (eB cx (bLen cx) (by rfl) b_len (by decide +kernel) (pCons (vV 2) pNil)) pNil))) pNil))))
  (bCons (sAsg (eCall cx G_L_nspot (by decide) (by rfl) X_L_nspot.g X_L_nspot.F.kp X_L_nspot.b (pCons (vV 0) (pCons (vV 1) pNil))) (gT (n := 2) cx.hK cx.calm (gCons (gN (i := 6) sc_L_ncrooked.nd rfl (.inl rfl)) (gCons (gN (i := 7) sc_L_ncrooked.nd rfl (.inl rfl)) gNil))))
  (bCons (sIf (tCmp (cEq cx) (vV 3) eInt (nomark _))
  (bOne (sR (eAdd cx (eAdd cx (eSl cx (vV 2) oN0 (oS (vV 5))) (eTup (pCons (eTup (pCons (vV 6) (pCons (vV 7) (pCons eStr pNil)))) pNil))) (eSl cx (vV 2) (oS (vV 5)) oN0))))
  bNil)
  (bCons (sIf (tCmp (cEq cx) (vV 3) eInt (nomark _))
  (bOne (sR (eRevT cx (vV 2))))
  bNil)
  (bCons (sIf (tCmp (cEq cx) (vV 3) eInt (nomark _))
  (bOne (sR (eAdd cx (eAdd cx (eSl cx (vV 2) oN0 (oS (vV 5))) (eSl cx (vV 2) (oS (vV 5)) (oS (eAdd cx (vV 5) eInt)))) (eSl cx (vV 2) (oS (vV 5)) oN0))))
  bNil)
  (bCons (sIf (tCmp (cEq cx) (vV 3) eInt (nomark _))
  (bOne (sR (eT cx (bList cx) (by rfl) b_list (by decide +kernel) (pCons (vV 2) pNil))))
  bNil)
  (bCons (sIf (tW (wAn (tCmp cLt (vV 3) eInt (nomark _)) (wA1 (tCmp (cNeE cx) (vV 2) (eTup pNil) (nomark _)))))
  (bCons (sAsg (eIx cx (vV 2) (vV 5) (fun _ _ => rfl) (fun _ _ => rfl)) (gT (n := 3) cx.hK cx.calm (gCons (gN (i := 8) sc_L_ncrooked.nd rfl (.inl rfl)) (gCons (gN (i := 9) sc_L_ncrooked.nd rfl (.inl rfl)) (gCons (gN (i := 10) sc_L_ncrooked.nd rfl (.inl rfl)) gNil)))))
  (bCons (sSet (i := 11) sc_L_ncrooked.nd rfl (.inl rfl) (eLst (pCons (eTup (pCons (vV 8) (pCons (vV 9) pNil))) (pCons (eTup (pCons (vV 8) (pCons (vV 9) (pCons (vV 10) (pCons eInt pNil))))) (pCons (eLst (pCons (vV 8) (pCons (vV 9) (pCons (vV 10) pNil)))) (pCons (eTup (pCons (vV 8) (pCons (vV 9) (pCons eStr pNil)))) (pCons (eTup (pCons (vV 8) (pCons (vV 9) (pCons eNon pNil)))) (pCons (eTup (pCons (vV 8) (pCons (vV 9) (pCons eInt pNil)))) (pCons (eTup (pCons eBl (pCons (vV 9) (pCons (vV 10) pNil)))) pNil)))))))))
  (bCons (sSet (i := 11) sc_L_ncrooked.nd rfl (.inl rfl) (eAdd cx (vV 11) (eLst (pCons (eTup (pCons (vV 8) (pCons (eAdd cx (vV 4) eInt) (pCons eStr pNil)))) (pCons (eTup (pCons (vV 8) (pCons (vV 8) (pCons (vV 10) pNil)))) (pCons (eTup (pCons (eNeg eInt) (pCons (vV 9) (pCons (vV 10) pNil)))) (pCons (eTup (pCons (eT cx bStr (by rfl) b_str (by decide +kernel) (pCons (vV 8) pNil)) (pCons (vV 9) (pCons (vV 10) pNil)))) pNil)))))))
  (bCons (sSet (i := 12) sc_L_ncrooked.nd rfl (.inl rfl) (eCall cx G_L_pick (by decide) (by rfl) X_L_pick.g X_L_pick.F.kp X_L_pick.b (pCons (vV 0) (pCons (vV 11) pNil))))
  (bOne (sR (eAdd cx (eAdd cx (eSl cx (vV 2) oN0 (oS (vV 5))) (eTup (pCons (vV 12) pNil))) (eSl cx (vV 2) (oS (eAdd cx (vV 5) eInt)) oN0))))))))
  bNil)
  (bOne (sR (eCall cx G_L_pick (by decide) (by rfl) X_L_pick.g X_L_pick.F.kp X_L_pick.b (pCons (vV 0) (pCons (eLst (pCons (vV 2) (pCons (vV 2) (pCons (eCall cx G_L_any_value (by decide) (by rfl) X_L_any_value.g X_L_any_value.F.kp X_L_any_value.b (pCons (vV 0) pNil)) (pCons (eTup (pCons (eCall cx G_L_any_value (by decide) (by rfl) X_L_any_value.g X_L_any_value.F.kp X_L_any_value.b (pCons (vV 0) pNil)) pNil)) (pCons (eAdd cx (vV 2) (eTup (pCons (eCall cx G_L_any_value (by decide) (by rfl) X_L_any_value.g X_L_any_value.F.kp X_L_any_value.b (pCons (vV 0) pNil)) pNil))) pNil)))))) pNil))))))))))))))
theorem ok_law {G : Gx} {f : Addr} {fd : FuncData} (X_law : FX G.K G.mg "law" s_law P_law f fd)
    {f0 : Addr} {fd0 : FuncData} (X_exchanged : FX G.K G.mg "exchanged" s_exchanged P_exchanged f0 fd0) (G_exchanged : FnP G 5 f0 fd0 P_exchanged [false, false] F_exchanged)
    {f1 : Addr} {fd1 : FuncData} (X_is_exchange : FX G.K G.mg "is_exchange" s_is_exchange P_is_exchange f1 fd1) (G_is_exchange : FnP G 5 f1 fd1 P_is_exchange [false, false, false] F_is_exchange)
    {f2 : Addr} {fd2 : FuncData} (X_cost_of : FX0 G.K G.mg "cost_of" s_cost_of f2 fd2) (G_cost_of : FnP G 1 f2 fd2 P_cost_of [false, false] F_cost_of) {ds_cost_of : List Value} (BD_cost_of : Binds G.K fd2 P_cost_of ds_cost_of) (VD_cost_of : Vals [V.int 0] ds_cost_of)
    {f3 : Addr} {fd3 : FuncData} (X_L_pen : FX G.K G.mg "_law_pen" s_L_pen P_L_pen f3 fd3) (G_L_pen : FnP G 1 f3 fd3 P_L_pen [false] F_L_pen)
    {f4 : Addr} {fd4 : FuncData} (X_L_draw : FX G.K G.mg "_law_draw" s_L_draw P_L_draw f4 fd4) (G_L_draw : FnP G 1 f4 fd4 P_L_draw [true, false] F_L_draw)
    {f5 : Addr} {fd5 : FuncData} (X_L_pick : FX G.K G.mg "_law_pick" s_L_pick P_L_pick f5 fd5) (G_L_pick : FnP G 2 f5 fd5 P_L_pick [true, false] F_L_pick)
    {f6 : Addr} {fd6 : FuncData} (X_L_few : FX G.K G.mg "_law_few" s_L_few P_L_few f6 fd6) (G_L_few : FnP G 3 f6 fd6 P_L_few [true] F_L_few)
    {f7 : Addr} {fd7 : FuncData} (X_L_ntext : FX G.K G.mg "_law_ntext" s_L_ntext P_L_ntext f7 fd7) (G_L_ntext : FnP G 4 f7 fd7 P_L_ntext [true, false, false] F_L_ntext)
    {f8 : Addr} {fd8 : FuncData} (X_L_nput : FX G.K G.mg "_law_nput" s_L_nput P_L_nput f8 fd8) (G_L_nput : FnP G 1 f8 fd8 P_L_nput [false, false] F_L_nput)
    {f9 : Addr} {fd9 : FuncData} (X_L_nfault : FX G.K G.mg "_law_nfault" s_L_nfault P_L_nfault f9 fd9) (G_L_nfault : FnP G 3 f9 fd9 P_L_nfault [false, false] F_L_nfault)
    {f10 : Addr} {fd10 : FuncData} (X_L_ndrawn : FX G.K G.mg "_law_ndrawn" s_L_ndrawn P_L_ndrawn f10 fd10) (G_L_ndrawn : FnP G 4 f10 fd10 P_L_ndrawn [true, false, false] F_L_ndrawn)
    {f11 : Addr} {fd11 : FuncData} (X_L_ncost : FX G.K G.mg "_law_ncost" s_L_ncost P_L_ncost f11 fd11) (G_L_ncost : FnP G 1 f11 fd11 P_L_ncost [false, false] F_L_ncost)
    {f12 : Addr} {fd12 : FuncData} (X_L_ncrooked : FX G.K G.mg "_law_ncrooked" s_L_ncrooked P_L_ncrooked f12 fd12) (G_L_ncrooked : FnP G 4 f12 fd12 P_L_ncrooked [true, false, false] F_L_ncrooked)
    (KB_cost_of_0_1_0 : KBinds G.K fd2 P_cost_of ["each", "exchange"] (kperm 0 2 [1, 0]) (kperm 0 2 [1, 0]))
    (KB_is_exchange_0_2_1_0 : KBinds G.K fd1 P_is_exchange ["value", "other", "text"] (kperm 0 3 [2, 1, 0]) (kperm 0 3 [2, 1, 0]))
    (KB_exchanged_0_1_0 : KBinds G.K fd0 P_exchanged ["exchange", "text"] (kperm 0 2 [1, 0]) (kperm 0 2 [1, 0]))
    {g_L_nexchanged : Addr} {gd_L_nexchanged : FuncData} (X_L_nexchanged : FX G.K G.mg "_law_nexchanged" s_L_nexchanged P_L_nexchanged g_L_nexchanged gd_L_nexchanged) {C_NoExchange : Addr} (mc_NoExchange : G.mg "NoExchange" = some (.ref C_NoExchange)) (xh_NoExchange : XHd G.K C_NoExchange) (nf_NoExchange_index : PySem.W.findIn G.K (.ref C_NoExchange) "index" = some none) (ki_NoExchange_ValueError : PySem.W.kitOne G.K (.ref C_NoExchange) (.type "ValueError") = some true)
    {c0 PT : Addr} (TB : LamX.TabB G.base G.mg c0 PT) (hcd : fd.code = .ref c0) (hTq : (PT, Q_law) ∈ G.T) (hu : ∀ p ∈ G.T, p.1 = PT → p.2 = Q_law) (b_ValueError : G.mg "ValueError" = none) (b_isinstance : G.mg "isinstance" = none) (b_len : G.mg "len" = none) (b_min : G.mg "min" = none) (b_range : G.mg "range" = none) (b_repr : G.mg "repr" = none) :
    FnP G 8 f fd P_law [false] F_law := by
  unfold F_law
  exact fn_plainC (k := 7) X_law.F sc_law rfl (by decide) (fun cdv hcode A outer s H E cx =>
  (bCons (sSet (i := 1) sc_law.nd rfl (.inl rfl) (eCall cx G_L_pen (by decide) (by rfl) X_L_pen.g X_L_pen.F.kp X_L_pen.b (pCons (vV 0) pNil)))
  (bCons (sFor cx.po cx.calm (iR1 (by rfl) (by rw [cx.hm]; exact b_range) (pCons (eAdd cx eInt (eB cx (bMin cx) (by rfl) b_min (by decide +kernel) (pCons eInt (pCons (eB cx (bLen cx) (by rfl) b_len (by decide +kernel) (pCons (vV 0) pNil)) pNil)))) pNil)) (gN (i := 2) sc_law.nd rfl (.inl rfl))
  (bCons (sSet (i := 3) sc_law.nd rfl (.inl rfl) (eCall cx G_L_few (by decide) (by rfl) X_L_few.g X_L_few.F.kp X_L_few.b (pCons (vV 1) pNil)))
  (bCons (sSet (i := 4) sc_law.nd rfl (.inr rfl) (eCall cx G_L_ntext (by decide) (by rfl) X_L_ntext.g X_L_ntext.F.kp X_L_ntext.b (pCons (vV 1) (pCons (vV 3) (pCons eInt pNil)))))
  (bCons (sSet (i := 5) sc_law.nd rfl (.inr rfl) (eCall cx G_L_ndrawn (by decide) (by rfl) X_L_ndrawn.g X_L_ndrawn.F.kp X_L_ndrawn.b (pCons (vV 1) (pCons (vV 4) (pCons (vV 3) pNil)))))
  (bCons (sSet (i := 6) sc_law.nd rfl (.inl rfl) (eCall cx G_L_nput (by decide) (by rfl) X_L_nput.g X_L_nput.F.kp X_L_nput.b (pCons (vV 4) (pCons (vV 5) pNil))))
  (bCons (sIf (tCmp (cNe cx) (eCat (k := 5) cx (by rfl) X_L_nexchanged sc_L_nexchanged rfl (.inl rfl) (fun cdv => cat_L_nexchanged cx mc_NoExchange xh_NoExchange nf_NoExchange_index ki_NoExchange_ValueError b_ValueError b_isinstance cdv) (wr_told (by decide +kernel)) mc_NoExchange xh_NoExchange.me (by decide) TB (hcode.trans hcd) (by rfl) hTq hu (LamX.lamS_by (by kernel_rfl)) rfl (fun _ _ _ _ _ => rfl) (fun _ _ _ _ _ _ _ cx => (eCallK0 cx G_exchanged (by decide) (by rfl) X_exchanged.g X_exchanged.F.kp KB_exchanged_0_1_0 (kCons (vV 5) (kCons (vV 4) kNil))))) (eTup (pCons eStr (pCons (vV 6) pNil))) (nomark _))
  (bOne (sR eBl))
  bNil)
  (bCons (sIf (tCmp cIsnt (eCallK0 cx G_is_exchange (by decide) (by rfl) X_is_exchange.g X_is_exchange.F.kp KB_is_exchange_0_2_1_0 (kCons (vV 5) (kCons (vV 6) (kCons (vV 4) kNil)))) eBl (nomark _))
  (bOne (sR eBl))
  bNil)
  (bCons (sIf (tCmp cIsnt (eCall cx G_is_exchange (by decide) (by rfl) X_is_exchange.g X_is_exchange.F.kp X_is_exchange.b (pCons (vV 4) (pCons (eAdd cx (vV 6) eStr) (pCons (vV 5) pNil)))) eBl (nomark _))
  (bOne (sR eBl))
  bNil)
  (bCons (sSet (i := 7) sc_law.nd rfl (.inl rfl) (eCall cx G_L_pick (by decide) (by rfl) X_L_pick.g X_L_pick.F.kp X_L_pick.b (pCons (vV 1) (pCons (eLst (pCons eInt (pCons eInt (pCons eInt (pCons (eCall cx G_L_draw (by decide) (by rfl) X_L_draw.g X_L_draw.F.kp X_L_draw.b (pCons (vV 1) (pCons eInt pNil))) pNil))))) pNil))))
  (bCons (sSet (i := 8) sc_law.nd rfl (.inl rfl) (eLst (pCons (eCall cx G_L_ncost (by decide) (by rfl) X_L_ncost.g X_L_ncost.F.kp X_L_ncost.b (pCons (vV 5) (pCons eInt pNil))) (pCons (eCall cx G_L_ncost (by decide) (by rfl) X_L_ncost.g X_L_ncost.F.kp X_L_ncost.b (pCons (vV 5) (pCons (vV 7) pNil))) pNil))))
  (bCons (sIf (tCmp (cNe cx) (eB cx (bRepr cx) (by rfl) b_repr (by decide +kernel) (pCons (eLst (pCons (eCallD cx G_cost_of (by decide) (by rfl) X_cost_of.g X_cost_of.F.kp BD_cost_of VD_cost_of (pCons (vV 5) pNil)) (pCons (eCallK0 cx G_cost_of (by decide) (by rfl) X_cost_of.g X_cost_of.F.kp KB_cost_of_0_1_0 (kCons (vV 7) (kCons (vV 5) kNil))) pNil))) pNil)) (eB cx (bRepr cx) (by rfl) b_repr (by decide +kernel) (pCons (vV 8) pNil)) (nomark _))
  (bOne (sR eBl))
  bNil)
  (bOne (sFor cx.po cx.calm (iR1 (by rfl) (by rw [cx.hm]; exact b_range) (pCons eInt pNil)) (gN (i := 9) sc_law.nd rfl (.inl rfl))
  (bCons (sSet (i := 10) sc_law.nd rfl (.inr rfl) (eCall cx G_L_ncrooked (by decide) (by rfl) X_L_ncrooked.g X_L_ncrooked.F.kp X_L_ncrooked.b (pCons (vV 1) (pCons (vV 4) (pCons (vV 5) pNil)))))
  (bCons (sPar2 (i := 11) (j := 12) cx sc_law.nd rfl rfl (by decide) rfl rfl (pFCons (eB cx (bRepr cx) (by rfl) b_repr (by decide +kernel) (pCons (vV 10) pNil)) (pFCons (eCall cx G_L_nfault (by decide) (by rfl) X_L_nfault.g X_L_nfault.F.kp X_L_nfault.b (pCons (vV 4) (pCons (vV 10) pNil))) pFNil)) (by rfl))
  (bCons (sSet (i := 8) sc_law.nd rfl (.inl rfl) (eIf (tCmp cIsnt (vV 12) eNon (nomark _)) (eTup (pCons eStr (pCons (vV 12) (pCons eBl pNil)))) (eTup (pCons eStr (pCons (eCall cx G_L_nput (by decide) (by rfl) X_L_nput.g X_L_nput.F.kp X_L_nput.b (pCons (vV 4) (pCons (vV 10) pNil))) pNil)))))
  (bCons (sIf (tW (wOn (tCmp (cNe cx) (eCat (k := 5) cx (by rfl) X_L_nexchanged sc_L_nexchanged rfl (.inl rfl) (fun cdv => cat_L_nexchanged cx mc_NoExchange xh_NoExchange nf_NoExchange_index ki_NoExchange_ValueError b_ValueError b_isinstance cdv) (wr_told (by decide +kernel)) mc_NoExchange xh_NoExchange.me (by decide) TB (hcode.trans hcd) (by rfl) hTq hu (LamX.lamS_by (by kernel_rfl)) rfl (fun _ _ _ _ _ => rfl) (fun _ _ _ _ _ _ _ cx => (eCall cx G_exchanged (by decide) (by rfl) X_exchanged.g X_exchanged.F.kp X_exchanged.b (pCons (vV 4) (pCons (vV 10) pNil))))) (vV 8) (nomark _)) (wO1 (tCmp (cNe cx) (eB cx (bRepr cx) (by rfl) b_repr (by decide +kernel) (pCons (vV 10) pNil)) (vV 11) (nomark _)))))
  (bOne (sR eBl))
  bNil)
  (bCons (sSet (i := 13) sc_law.nd rfl (.inl rfl) (eCall cx G_L_pick (by decide) (by rfl) X_L_pick.g X_L_pick.F.kp X_L_pick.b (pCons (vV 1) (pCons (eLst (pCons (vV 6) (pCons (eIf (tCmp cIs (vV 12) eNon (nomark _)) (eIx cx (vV 8) eInt (fun _ _ => rfl) (fun _ _ => rfl)) (vV 6)) pNil))) pNil))))
  (bOne (sIf (tCmp (cNe cx) (eB cx (bRepr cx) (by rfl) b_repr (by decide +kernel) (pCons (eCall cx G_is_exchange (by decide) (by rfl) X_is_exchange.g X_is_exchange.F.kp X_is_exchange.b (pCons (vV 4) (pCons (vV 13) (pCons (vV 10) pNil)))) pNil)) (eB cx (bRepr cx) (by rfl) b_repr (by decide +kernel) (pCons (eAnd cx.hK (eCmp cIs (vV 12) eNon (nomark _)) (eOne (eCmp (cEq cx) (eIx cx (vV 8) eInt (fun _ _ => rfl) (fun _ _ => rfl)) (vV 13) (nomark _)))) pNil)) (nomark _))
  (bOne (sR eBl))
  bNil))))))))))))))))))))
  (bOne (sR (eAnd cx.hK (eCmp (cEq cx) (eCall cx G_exchanged (by decide) (by rfl) X_exchanged.g X_exchanged.F.kp X_exchanged.b (pCons eStr (pCons (eTup pNil) pNil))) eStr (nomark _)) (eOne (eCmp (cEq cx) (eCallD cx G_cost_of (by decide) (by rfl) X_cost_of.g X_cost_of.F.kp BD_cost_of VD_cost_of (pCons (eTup pNil) pNil)) eInt (nomark _)))))))))
end Law

namespace PL
open PySem PySem.Spec PyProof.Rows L2
open TL (tl)
open AB (sl)
/-! ### the source of draws -/
def penDD (xs : List Int) (t l : Int) : D := .dct [(.inr "cells", .lst (xs.map .int)), (.inr "turn", .int t), (.inr "left", .int l)]
theorem key_tl (s : Str) : keyD (.str (tl s)) = some (.inr s) := by
  show some (Sum.inr (sl (tl s))) = _
  rw [sl_tl]
theorem ix_dct (es : List (Key × D)) (d : D) : ixD (.dct es) d = (keyD d).bind fun k => (valD es k).map .sh := by cases d <;> rfl
section
variable (xs : List Int) (t l : Int)
@[simp] theorem pen_left : ixD (penDD xs t l) (.str (tl (Str.ofString "left"))) = some (.sh (.int l)) := by
  unfold penDD
  rw [ix_dct, key_tl]
  simp [valD, AB.e13, AB.e23]
@[simp] theorem pen_turn : ixD (penDD xs t l) (.str (tl (Str.ofString "turn"))) = some (.sh (.int t)) := by
  unfold penDD
  rw [ix_dct, key_tl]
  simp [valD, AB.e12]
@[simp] theorem pen_cells : ixD (penDD xs t l) (.str (tl (Str.ofString "cells"))) = some (.sh (.lst (xs.map .int))) := by
  unfold penDD
  rw [ix_dct, key_tl]
  simp [valD]
@[simp] theorem pen_setL (v : Int) : setD (penDD xs t l) [.int v, .str (tl (Str.ofString "left"))] = some (penDD xs t v, .non) := by
  unfold penDD setD
  dsimp only
  rw [key_tl]
  simp [putD, AB.e13, AB.e23]
@[simp] theorem pen_setT (v : Int) : setD (penDD xs t l) [.int v, .str (tl (Str.ofString "turn"))] = some (penDD xs v l, .non) := by
  unfold penDD setD
  dsimp only
  rw [key_tl]
  simp [putD, AB.e12, AB.e32]
end
/-! operations on numbers -/
@[simp] theorem addD_int (i j : Int) : addD (.int i) (.int j) = some (.sh (.int (i + j))) := rfl
@[simp] theorem subD_int (i j : Int) : subD (.int i) (.int j) = some (.sh (.int (i - j))) := rfl
theorem modD_int (i j : Int) (h : 0 < j) : modD (.int i) (.int j) = some (.sh (.int (i % j))) := if_pos h
theorem fdivD_int (i j : Int) (h : 0 < j) (h2 : j < 2 ^ 64) : fdivD (.int i) (.int j) = some (.sh (.int (i / j))) := by
  refine if_pos ⟨h, ?_⟩
  have : j.natAbs < 2 ^ 64 := by omega
  exact Nat.lt_trans (AB.log_lt2 (by decide) this) (by decide)
theorem log_lt {m k : Nat} (hk : 0 < k) (h : m < 2 ^ k) : m.log2 < k := AB.log_lt2 hk h
theorem mulD_int (i j : Int) (h : i.natAbs < 2 ^ 400) (h2 : j.natAbs < 2 ^ 400) : mulD (.int i) (.int j) = some (.sh (.int (i * j))) := by
  refine if_pos ?_
  have := log_lt (k := 400) (by decide) h
  have := log_lt (k := 400) (by decide) h2
  omega
@[simp] theorem intD_int (i : Int) : intD [.int i] = some (.sh (.int i)) := rfl
@[simp] theorem intD_bl (b : Bool) : intD [.bl b] = some (.sh (.int (if b then 1 else 0))) := rfl
@[simp] theorem lenD_lst (ds : List D) : lenD [.lst ds] = some (.sh (.int ds.length)) := rfl
@[simp] theorem lenD_flz (ds : List D) : lenD [.flz ds] = some (.sh (.int ds.length)) := rfl
@[simp] theorem lenD_tup (ds : List D) : lenD [.tup ds] = some (.sh (.int ds.length)) := rfl
theorem lenD_str (l : List Nat) (h : l.length ≤ 16000000) : lenD [.str l] = some (.sh (.int l.length)) := if_pos h
@[simp] theorem absD_int (i : Int) : absD [.int i] = some (.sh (.int (if i < 0 then -i else i))) := rfl
@[simp] theorem cmpI_int (g : Int → Int → Bool) (i j : Int) : cmpI g (.int i) (.int j) = some (.sh (.bl (g i j))) := rfl
@[simp] theorem ix_lst (ds : List D) (i : Int) : ixD (.lst ds) (.int i) = (atI ds i).map .sh := rfl
@[simp] theorem ix_tup (ds : List D) (i : Int) : ixD (.tup ds) (.int i) = (atI ds i).map .sh := rfl
@[simp] theorem negD_int (i : Int) : negD (.int i) = some (.sh (.int (-i))) := rfl
end PL
namespace Den
open PySem PySem.Spec PyProof.Rows L2 PL
open TL (tl)
theorem draw_left (xs : List Int) (t l m : Int) (hl : 0 < l) (hm : 0 < m) (h2 : m < 2 ^ 64) : F_L_draw [penDD xs t l, .int m] = .ok (.sh (.int (l % m))) [penDD xs t (l / m)] := by
  simp -implicitDefEqProofs [F_L_draw_ev, hl, modD_int _ _ hm, fdivD_int _ _ hm h2]
end Den

namespace PL
open PySem PySem.Spec PyProof.Rows L2 AB
open TL (tl)
/-! ### loops, in plain words -/
section
variable {g : Tg} {b : Dn Fl}
theorem forD_cons' (d : D) (ds : List D) (ε ε1 : Ev) (h : g d ε = some ε1) : forD g b (d :: ds) ε = (b ε1).bind (loopF (forD g b ds)) := by rw [forD_cons, h]; rfl
/-- a loop without an early end -/
theorem for_inv {P : Nat → Ev → Prop} : ∀ (ds : List D) (i : Nat) (ε : Ev), P i ε → (∀ j d ε, ds[j]? = some d → P (i + j) ε → ∃ ε1 ε2, g d ε = some ε1 ∧ b ε1 = .ok .nx ε2 ∧ P (i + j + 1) ε2) → ∃ ε', forD g b ds ε = .ok .nx ε' ∧ P (i + ds.length) ε'
  | [], i, ε, p, _ => ⟨ε, rfl, p⟩
  | d :: ds, i, ε, p, st => by
    obtain ⟨ε1, ε2, e1, e2, p2⟩ := st 0 d ε rfl p
    obtain ⟨ε', e, q⟩ := for_inv (P := P) ds (i + 1) ε2 p2 fun j d' ε3 hd p3 => by
      have := st (j + 1) d' ε3 (by simpa using hd) (by rw [show i + (j + 1) = i + 1 + j by omega]; exact p3)
      rw [show i + (j + 1) + 1 = i + 1 + j + 1 by omega] at this
      exact this
    refine ⟨ε', ?_, ?_⟩
    · rw [forD_cons' _ _ _ _ e1, e2]; exact e
    · rw [List.length_cons, show i + (ds.length + 1) = i + 1 + ds.length by omega]; exact q
/-- a comprehension without writes -/
theorem comp_inv {vs : List Nat} {c : Dn Bool} {e : Dn Fv} {P : Nat → List D → Ev → Prop} : ∀ (xs acc : List D) (i : Nat) (ε : Ev), P i acc ε →
    (∀ j x acc ε, xs[j]? = some x → P (i + j) acc ε → ∃ ε1 ε2, g x ε = some ε1 ∧ ((∃ fv ε3 d ε4, c ε1 = .ok true ε2 ∧ e ε2 = .ok fv ε3 ∧ shr [fv.old] ε3 = some ([d], ε4) ∧ acc.length < 16000000 ∧ P (i + j + 1) (acc ++ [d]) (wipeE ε4 vs)) ∨ (c ε1 = .ok false ε2 ∧ P (i + j + 1) acc (wipeE ε2 vs)))) →
    ∃ ds ε', compD vs g c e xs acc ε = .ok ds ε' ∧ P (i + xs.length) ds ε'
  | [], acc, i, ε, p, _ => ⟨acc, ε, rfl, p⟩
  | x :: xs, acc, i, ε, p, st => by
    obtain ⟨ε1, ε2, e1, h⟩ := st 0 x acc ε rfl p
    have st' : ∀ j x' acc' ε', xs[j]? = some x' → P (i + 1 + j) acc' ε' → ∃ ε1 ε2, g x' ε' = some ε1 ∧ ((∃ fv ε3 d ε4, c ε1 = .ok true ε2 ∧ e ε2 = .ok fv ε3 ∧ shr [fv.old] ε3 = some ([d], ε4) ∧ acc'.length < 16000000 ∧ P (i + 1 + j + 1) (acc' ++ [d]) (wipeE ε4 vs)) ∨ (c ε1 = .ok false ε2 ∧ P (i + 1 + j + 1) acc' (wipeE ε2 vs))) := fun j x' acc' ε' hx p' => by
      have := st (j + 1) x' acc' ε' (by simpa using hx) (by rw [show i + (j + 1) = i + 1 + j by omega]; exact p')
      rw [show i + (j + 1) + 1 = i + 1 + j + 1 by omega] at this
      exact this
    rw [List.length_cons, show i + (xs.length + 1) = i + 1 + xs.length by omega]
    rcases h with ⟨fv, ε3, d, ε4, hc, he, hs, hl, p2⟩ | ⟨hc, p2⟩
    · obtain ⟨ds, ε', q, r⟩ := comp_inv (P := P) xs (acc ++ [d]) (i + 1) _ p2 st'
      refine ⟨ds, ε', ?_, r⟩
      unfold compD
      simp only [e1, hc, he, hs, if_pos hl]
      exact q
    · obtain ⟨ds, ε', q, r⟩ := comp_inv (P := P) xs acc (i + 1) _ p2 st'
      refine ⟨ds, ε', ?_, r⟩
      unfold compD
      simp only [e1, hc]
      exact q
end
end PL

namespace PL
open PySem PySem.Spec PyProof.Rows L2 AB
open TL (tl)
def PenOk (n : Nat) (p : D) : Prop := ∃ (xs : List Int) (t l : Int), p = penDD xs t l ∧ xs.length ≤ 63 ∧ 0 ≤ t ∧ t ≤ n ∧ 0 ≤ l
theorem PenOk.mono {n m : Nat} {p : D} (h : PenOk n p) (hn : n ≤ m) : PenOk m p := by
  obtain ⟨xs, t, l, e, h1, h2, h3, h4⟩ := h
  exact ⟨xs, t, l, e, h1, h2, by omega, h4⟩
@[simp] theorem neE_lst (ds : List D) : neE (.lst ds) (.lst []) = some (.sh (.bl (!ds.isEmpty))) := rfl
@[simp] theorem neE_tup (ds : List D) : neE (.tup ds) (.tup []) = some (.sh (.bl (!ds.isEmpty))) := rfl
@[simp] theorem eqE_lst (ds : List D) : eqE (.lst ds) (.lst []) = some (.sh (.bl ds.isEmpty)) := rfl
@[simp] theorem eqE_tup (ds : List D) : eqE (.tup ds) (.tup []) = some (.sh (.bl ds.isEmpty)) := rfl
theorem atI_get {α : Type} (ds : List α) (i : Int) (h : 0 ≤ i) (h2 : i < ds.length) : atI ds i = ds[i.toNat]? := by
  obtain ⟨k, rfl⟩ := Int.eq_ofNat_of_zero_le h
  have hk : k < ds.length := by omega
  rw [atI_nat (List.getElem?_eq_getElem hk)]
  simp [hk]
theorem atI_of {α : Type} (ds : List α) (i : Int) (h : 0 ≤ i) (h2 : i < ds.length) : ∃ d, atI ds i = some d ∧ d ∈ ds := by
  have hi : i.toNat < ds.length := by omega
  exact ⟨ds[i.toNat], by rw [atI_get ds i h h2, List.getElem?_eq_getElem hi], List.getElem_mem _⟩
@[simp] theorem pow18 : powD (.int 10) (.int 18) = some (.sh (.int 1000000000000000000)) := by
  have e : ((0 : Int) ≤ 18 ∧ (18 : Int) ≤ 1000000 ∧ (10 : Int).natAbs < 2 ^ 64) := ⟨by decide, by decide, by decide⟩
  have e2 : (10 : Int) ^ (18 : Int).toNat = 1000000000000000000 := by decide +kernel
  unfold powD
  dsimp only
  rw [if_pos e, e2]
theorem mul_lt {a b : Int} {n m : Nat} (hn : 0 < n) (hm : 0 < m) (h : a.natAbs < 2 ^ n) (h2 : b.natAbs < 2 ^ m) (hk : n + m ≤ 900) : mulD (.int a) (.int b) = some (.sh (.int (a * b))) := by
  refine if_pos ?_
  have := log_lt hn h
  have := log_lt hm h2
  omega
theorem mulP {a b : Int} (h : 0 ≤ a) (h2 : a < 1000000000000000000000000) (k : 0 ≤ b) (k2 : b < 1000000000000000000000000) : mulD (.int a) (.int b) = some (.sh (.int (a * b))) :=
  mul_lt (n := 100) (m := 100) (by decide) (by decide) (by omega) (by omega) (by decide)
theorem primeD (t : Int) : ∃ r, atI [D.int 2147483629, D.int 2147483647, D.int 2147483587, D.int 2147483563, D.int 2147483579] (t % 5) = some (.int r) ∧ 0 < r ∧ r < 2147483648 := by
  have h1 := Int.emod_nonneg t (b := 5) (by decide)
  have h2 := Int.emod_lt_of_pos t (b := 5) (by decide)
  generalize t % 5 = k at h1 h2
  have : k = 0 ∨ k = 1 ∨ k = 2 ∨ k = 3 ∨ k = 4 := by omega
  rcases this with rfl | rfl | rfl | rfl | rfl
  all_goals exact ⟨_, rfl, by decide, by decide⟩
end PL
namespace Den
open PySem PySem.Spec PyProof.Rows L2 PL
open TL (tl)
theorem tail_facts (c t : Int) (ht : 0 ≤ t) (htn : t < 2 ^ 61) : ∃ r q x y, atI [D.int 2147483629, D.int 2147483647, D.int 2147483587, D.int 2147483563, D.int 2147483579] (t % 5) = some (.int r) ∧ 0 < r ∧
    atI [D.int 2147483629, D.int 2147483647, D.int 2147483587, D.int 2147483563, D.int 2147483579] ((t + 2) % 5) = some (.int q) ∧ 0 < q ∧
    mulD (.int 43) (.int t) = some (.sh (.int (43 * t))) ∧ mulD (.int (c % r)) (.int 39373) = some (.sh (.int (c % r * 39373))) ∧ mulD (.int 30011) (.int t) = some (.sh (.int (30011 * t))) ∧
    mulD (.int t) (.int (30011 * t + 8117)) = some (.sh (.int (t * (30011 * t + 8117)))) ∧ (c % r * 39373 + t * (30011 * t + 8117) + 23) % r = x ∧ mulD (.int x) (.int (x + 69621)) = some (.sh (.int (x * (x + 69621)))) ∧
    x * (x + 69621) % q = y ∧ mulD (.int y) (.int y) = some (.sh (.int (y * y))) ∧ mulD (.int 16807) (.int y) = some (.sh (.int (16807 * y))) := by
  obtain ⟨r, hr, r0, r1⟩ := primeD t
  obtain ⟨q, hq, q0, q1⟩ := primeD (t + 2)
  have a0 := Int.emod_nonneg c (b := r) (by omega)
  have a1 := Int.emod_lt_of_pos c r0
  have x0 := Int.emod_nonneg (c % r * 39373 + t * (30011 * t + 8117) + 23) (b := r) (by omega)
  have x1 := Int.emod_lt_of_pos (c % r * 39373 + t * (30011 * t + 8117) + 23) r0
  generalize hx : (c % r * 39373 + t * (30011 * t + 8117) + 23) % r = x at x0 x1
  have y0 := Int.emod_nonneg (x * (x + 69621)) (b := q) (by omega)
  have y1 := Int.emod_lt_of_pos (x * (x + 69621)) q0
  generalize hy : x * (x + 69621) % q = y at y0 y1
  exact ⟨r, q, x, y, hr, r0, hq, q0, mulP (by omega) (by omega) (by omega) (by omega), mulP (by omega) (by omega) (by omega) (by omega), mulP (by omega) (by omega) (by omega) (by omega), mulP (by omega) (by omega) (by omega) (by omega), hx,
    mulP (by omega) (by omega) (by omega) (by omega), hy, mulP (by omega) (by omega) (by omega) (by omega), mulP (by omega) (by omega) (by omega) (by omega)⟩
theorem draw_ok {n : Nat} {p : D} {m : Int} (hp : PenOk n p) (hn : n < 2 ^ 60) (hm : 0 < m) (h2 : m < 2 ^ 60) : ∃ i p', F_L_draw [p, .int m] = .ok (.sh (.int i)) [p'] ∧ 0 ≤ i ∧ i < m ∧ PenOk (n + 1) p' := by
  obtain ⟨xs, t, l, rfl, hxs, ht, htn, hl⟩ := hp
  by_cases l0 : 0 < l
  · exact ⟨_, _, draw_left xs t l m l0 hm (by omega), Int.emod_nonneg _ (by omega), Int.emod_lt_of_pos _ hm, xs, t, l / m, rfl, hxs, ht, by omega, Int.ediv_nonneg hl (by omega)⟩
  · have hm5 : (0 : Int) < 5 := by decide
    by_cases e : xs = []
    · subst e
      obtain ⟨c, hc⟩ : ∃ c, c = 43 * t + 19 := ⟨_, rfl⟩
      obtain ⟨r, q, x, y, hr, r0, hq, q0, m1, m2, m3, m4, hx, m5, hy, m6, m7⟩ := tail_facts c t ht (by omega)
      have t0 : ¬ t < 0 := by omega
      refine ⟨_, _, ?_, Int.emod_nonneg ((y * y + 16807 * y + t) % 2147483549 / 64) (b := m) (by omega), Int.emod_lt_of_pos _ hm, [], t + 1, l, rfl, by decide, by omega, by omega, hl⟩
      simp -implicitDefEqProofs [F_L_draw_ev, l0, m1, ← hc, t0, hr, hq, m2, m3, m4, m5, m6, m7, hx, hy, modD_int _ _ r0, modD_int _ _ q0, modD_int _ _ hm, modD_int _ 5 (by decide), modD_int _ 2147483549 (by decide), fdivD_int _ 64 (by decide) (by decide)]
    · have xl : 0 < xs.length := List.length_pos_iff.mpr e
      have hxe : xs.isEmpty = false := by cases xs <;> simp_all
      obtain ⟨d, hd, hmem⟩ := atI_of (xs.map D.int) (t % (xs.length : Int)) (Int.emod_nonneg _ (by omega)) (by rw [List.length_map]; exact Int.emod_lt_of_pos _ (by omega))
      obtain ⟨c, _, rfl⟩ := List.mem_map.mp hmem
      have xl' : (0 : Int) < xs.length := by omega
      by_cases big : t < xs.length ∧ 1000000000000000000 ≤ (if c < 0 then -c else c)
      · obtain ⟨b1, b2⟩ := big
        have m1 : mulD (.int 43) (.int t) = some (.sh (.int (43 * t))) := mulP (by omega) (by omega) (by omega) (by omega)
        refine ⟨_, _, ?_, Int.emod_nonneg ((if c < 0 then -c else c) - 1000000000000000000) (b := m) (by omega), Int.emod_lt_of_pos _ hm, xs, t + 1, ((if c < 0 then -c else c) - 1000000000000000000) / m, rfl, hxs, by omega, by omega, Int.ediv_nonneg (by omega) (by omega)⟩
        simp -implicitDefEqProofs [F_L_draw_ev, l0, m1, hxe, hd, b1, b2, modD_int _ _ hm, modD_int _ _ xl', fdivD_int _ _ hm (by omega)]
      · obtain ⟨r, q, x, y, hr, r0, hq, q0, m1, m2, m3, m4, hx, m5, hy, m6, m7⟩ := tail_facts c t ht (by omega)
        refine ⟨_, _, ?_, Int.emod_nonneg ((y * y + 16807 * y + t) % 2147483549 / 64) (b := m) (by omega), Int.emod_lt_of_pos _ hm, xs, t + 1, l, rfl, hxs, by omega, by omega, hl⟩
        by_cases b1 : t < xs.length
        · have b2 : ¬ 1000000000000000000 ≤ (if c < 0 then -c else c) := fun z => big ⟨b1, z⟩
          simp -implicitDefEqProofs [F_L_draw_ev, l0, m1, hxe, hd, b1, b2, hr, hq, m2, m3, m4, m5, m6, m7, hx, hy, modD_int _ _ xl', modD_int _ _ r0, modD_int _ _ q0, modD_int _ _ hm, modD_int _ 5 (by decide), modD_int _ 2147483549 (by decide), fdivD_int _ 64 (by decide) (by decide)]
        · simp -implicitDefEqProofs [F_L_draw_ev, l0, m1, hxe, hd, b1, hr, hq, m2, m3, m4, m5, m6, m7, hx, hy, modD_int _ _ xl', modD_int _ _ r0, modD_int _ _ q0, modD_int _ _ hm, modD_int _ 5 (by decide), modD_int _ 2147483549 (by decide), fdivD_int _ 64 (by decide) (by decide)]
end Den

namespace PL
open PySem PySem.Spec PyProof.Rows L2 AB
open TL (tl)
/-! ### comprehensions, read step by step -/
section
variable (vs : List Nat) (g : Tg) (c : Dn Bool) (e : Dn Fv) (xs acc : List D)
def cKe : Option (List D × Ev) → Re (List D)
  | some ([d], ε4) => if acc.length < 16000000 then compD vs g c e xs (acc ++ [d]) (wipeE ε4 vs) else .no
  | _ => .no
def cKd : Re Fv → Re (List D)
  | .ok fv ε3 => cKe vs g c e xs acc (shr [fv.old] ε3)
  | _ => .no
def cKc : Re Bool → Re (List D)
  | .ok true ε2 => cKd vs g c e xs acc (e ε2)
  | .ok false ε2 => compD vs g c e xs acc (wipeE ε2 vs)
  | _ => .no
def cKg : Option Ev → Re (List D)
  | some ε1 => cKc vs g c e xs acc (c ε1)
  | none => .no
@[simp] theorem cKe_some (d : D) (ε : Ev) : cKe vs g c e xs acc (some ([d], ε)) = if acc.length < 16000000 then compD vs g c e xs (acc ++ [d]) (wipeE ε vs) else .no := rfl
@[simp] theorem cKd_ok (fv : Fv) (ε : Ev) : cKd vs g c e xs acc (.ok fv ε) = cKe vs g c e xs acc (shr [fv.old] ε) := rfl
@[simp] theorem cKc_t (ε : Ev) : cKc vs g c e xs acc (.ok true ε) = cKd vs g c e xs acc (e ε) := rfl
@[simp] theorem cKc_f (ε : Ev) : cKc vs g c e xs acc (.ok false ε) = compD vs g c e xs acc (wipeE ε vs) := rfl
@[simp] theorem cKg_some (ε : Ev) : cKg vs g c e xs acc (some ε) = cKc vs g c e xs acc (c ε) := rfl
@[simp] theorem compD_nil (ε : Ev) : compD vs g c e [] acc ε = .ok acc ε := rfl
theorem compD_cons (x : D) (ε : Ev) : compD vs g c e (x :: xs) acc ε = cKg vs g c e xs acc (g x ε) := by
  conv => lhs; unfold compD
  cases g x ε with
  | none => rfl
  | some ε1 =>
    dsimp only [cKg]
    cases c ε1 with
    | no => rfl
    | exc _ _ => rfl
    | ok b ε2 =>
      cases b with
      | false => rfl
      | true =>
        dsimp only [cKc]
        cases e ε2 with
        | no => rfl
        | exc _ _ => rfl
        | ok fv ε3 =>
          dsimp only [cKd]
          cases shr [fv.old] ε3 with
          | none => rfl
          | some r =>
            obtain ⟨ds, ε4⟩ := r
            match ds with
            | [] => rfl
            | [d] => rfl
            | _ :: _ :: _ => rfl
end
@[simp] theorem wipeE_nil (ε : Ev) : wipeE ε [] = ε := rfl
@[simp] theorem wipeE_cons (ε : Ev) (v : Nat) (vs : List Nat) : wipeE ε (v :: vs) = (wipeE ε vs).set v .no := rfl
def slotAt (ε : Ev) (v : Nat) : Sl := match ε[v]? with
  | some s => s
  | none => .no
@[simp] theorem slotAt_0 (s : Sl) (ε : Ev) : slotAt (s :: ε) 0 = s := rfl
@[simp] theorem slotAt_s (s : Sl) (ε : Ev) (v : Nat) : slotAt (s :: ε) (v + 1) = slotAt ε v := rfl
@[simp] theorem resE_nil (ε' ε1 : Ev) : resE ε' ε1 [] = ε' := rfl
@[simp] theorem resE_cons (ε' ε1 : Ev) (v : Nat) (vs : List Nat) : resE ε' ε1 (v :: vs) = resE (ε'.set v (slotAt ε1 v)) ε1 vs := rfl
def mutAt (ε : Ev) (v : Nat) : Bool := match ε[v]? with
  | some s => !s.mut
  | none => false
@[simp] theorem mutAt_0no (ε : Ev) : mutAt (.no :: ε) 0 = true := rfl
@[simp] theorem mutAt_0sh (d : D) (ε : Ev) : mutAt (.sh d :: ε) 0 = true := rfl
@[simp] theorem mutAt_s (s : Sl) (ε : Ev) (v : Nat) : mutAt (s :: ε) (v + 1) = mutAt ε v := rfl
@[simp] theorem noMut_nil (ε : Ev) : noMut ε [] = true := rfl
@[simp] theorem noMut_cons (ε : Ev) (v : Nat) (vs : List Nat) : noMut ε (v :: vs) = (mutAt ε v && noMut ε vs) := rfl
def kLc2 (ε1 : Ev) (vs : List Nat) (ds : List D) (ε2 : Ev) : Re Fv := .ok (.fr (.lst ds)) (resE ε2 ε1 vs)
@[simp] theorem kLc2_ev (ε1 : Ev) (vs : List Nat) (ds : List D) (ε2 : Ev) : kLc2 ε1 vs ds ε2 = .ok (.fr (.lst ds)) (resE ε2 ε1 vs) := rfl
def kLc (vs : List Nat) (g : Tg) (c : Dn Bool) (e : Dn Fv) (xs : List D) (ε1 : Ev) : Re Fv := if noMut ε1 vs = true then (compD vs g c e xs [] (wipeE ε1 vs)).bind (kLc2 ε1 vs) else .no
@[simp] theorem kLc_ev (vs : List Nat) (g : Tg) (c : Dn Bool) (e : Dn Fv) (xs : List D) (ε1 : Ev) : kLc vs g c e xs ε1 = if noMut ε1 vs = true then (compD vs g c e xs [] (wipeE ε1 vs)).bind (kLc2 ε1 vs) else .no := rfl
@[simp] theorem dLc_ev (di : Dn (List D)) (vs : List Nat) (g : Tg) (c : Dn Bool) (e : Dn Fv) (ε : Ev) : dLc di vs g c e ε = (di ε).bind (kLc vs g c e) := rfl
/-! slices -/
theorem sIx_none (n d : Nat) : HT.sIx n d none = d := rfl
theorem sIx_nat (n d k : Nat) : HT.sIx n d (some (k : Int)) = min k n := by
  show (if ((k : Int) < 0) then ((k : Int) + (n : Int)).toNat else min (k : Int).toNat n) = _
  rw [if_neg (by omega), Int.toNat_natCast]
theorem cut_take {α : Type} (l : List α) (k : Nat) : cutL l none (some (k : Int)) = l.take k := by
  unfold cutL
  rw [sIx_none, sIx_nat, List.drop_zero, Nat.sub_zero]
  by_cases h : k ≤ l.length
  · rw [Nat.min_eq_left h]
  · rw [Nat.min_eq_right (by omega), List.take_of_length_le (Nat.le_refl _), List.take_of_length_le (by omega)]
theorem cut_drop {α : Type} (l : List α) (k : Nat) : cutL l (some (k : Int)) none = l.drop k := by
  unfold cutL
  rw [sIx_none, sIx_nat]
  by_cases h : k ≤ l.length
  · rw [Nat.min_eq_left h, List.take_of_length_le (by rw [List.length_drop]; omega)]
  · rw [Nat.min_eq_right (by omega), Nat.sub_self, List.take_zero, List.drop_of_length_le (by omega)]
theorem strsOf_chars (cs : List Nat) : strsOf (cs.map fun c => D.str [c]) = some (cs.map fun c => [c]) := by
  induction cs with
  | nil => rfl
  | cons c cs ih => rw [List.map_cons, strsOf, ih]; rfl
theorem flat_chars (cs : List Nat) : (cs.map fun c => [c]).flatten = cs := by
  induction cs with
  | nil => rfl
  | cons c cs ih => rw [List.map_cons, List.flatten_cons, ih]; rfl
theorem sum_chars (cs : List Nat) : ((cs.map fun c => [c]).map (·.length)).sum = cs.length := by
  induction cs with
  | nil => rfl
  | cons c cs ih => simp only [List.map_cons, List.sum_cons, ih, List.length_cons, List.length_nil]; omega
theorem join_chars (cs : List Nat) (h : cs.length ≤ 16000000) : joinE [] [.lst (cs.map fun c => D.str [c])] = some (.sh (.str cs)) := by
  show (if ([] : List Nat) = [] then (strsOf _).bind _ else none) = _
  rw [if_pos rfl, strsOf_chars, Option.bind_some, if_pos (by rw [sum_chars]; exact h), flat_chars]
@[simp] theorem tl_nil : tl (Str.ofString "") = [] := by decide +kernel
end PL
namespace Den
open PySem PySem.Spec PyProof.Rows L2 PL AB
open TL (tl)
theorem pick_lst {n : Nat} {p : D} {ds : List D} (hp : PenOk n p) (hn : n < 2 ^ 60) (h0 : 0 < ds.length) (h1 : ds.length < 2 ^ 60) : ∃ d p', F_L_pick [p, .lst ds] = .ok (.sh d) [p'] ∧ d ∈ ds ∧ PenOk (n + 1) p' := by
  obtain ⟨i, p', e, i0, i1, hp'⟩ := draw_ok (m := (ds.length : Int)) hp hn (by omega) (by omega)
  obtain ⟨d, hd, hm⟩ := atI_of ds i i0 i1
  exact ⟨d, p', by simp -implicitDefEqProofs [F_L_pick_ev, e, hd], hm, hp'⟩
@[simp] theorem ix_str (l : List Nat) (i : Int) (h : l.length ≤ 16000000) : ixD (.str l) (.int i) = (atI l i).map fun c => .sh (.str [c]) := if_pos h
theorem pick_str {n : Nat} {p : D} {l : List Nat} (hp : PenOk n p) (hn : n < 2 ^ 60) (h0 : 0 < l.length) (h1 : l.length ≤ 16000000) : ∃ c p', F_L_pick [p, .str l] = .ok (.sh (.str [c])) [p'] ∧ c ∈ l ∧ PenOk (n + 1) p' := by
  obtain ⟨i, p', e, i0, i1, hp'⟩ := draw_ok (m := (l.length : Int)) hp hn (by omega) (by omega)
  obtain ⟨c, hd, hm⟩ := atI_of l i i0 i1
  exact ⟨c, p', by simp -implicitDefEqProofs [F_L_pick_ev, lenD_str _ h1, e, ix_str _ _ h1, hd], hm, hp'⟩
theorem word_ok {n : Nat} {p : D} {s : List Nat} {a b : Nat} (hp : PenOk n p) (hn : n < 2 ^ 50) (h0 : 0 < s.length) (h1 : s.length ≤ 16000000) (hab : a ≤ b) (hb : b ≤ 1000) :
    ∃ l p', F_L_word [p, .str s, .int a, .int b] = .ok (.sh (.str l)) [p'] ∧ a ≤ l.length ∧ l.length ≤ b ∧ (∀ c ∈ l, c ∈ s) ∧ PenOk (n + 1 + b) p' := by
  obtain ⟨i, p1, e, i0, i1, hp1⟩ := draw_ok (m := (b : Int) - a + 1) hp (by omega) (by omega) (by omega)
  obtain ⟨m, hm⟩ : ∃ m : Nat, (a : Int) + i = m := ⟨((a : Int) + i).toNat, by omega⟩
  have hr : rngD 0 m = (List.range m).map fun (k : Nat) => D.int (0 + (k : Int)) := rfl
  obtain ⟨ds, ε', ec, p', cs, rfl, rfl, hl, hcs, hp'⟩ := comp_inv (vs := [5]) (g := tgN 5) (c := fun ε => .ok true ε) (e := dCall [true, false] F_L_pick (aCons (dV 0) (aCons (dV 1) aNil)))
    (P := fun i acc ε => ∃ p' cs, ε = [.io p', .sh (.str s), .sh (.int a), .sh (.int b), .sh (.int m), .no] ∧ acc = cs.map (fun c => D.str [c]) ∧ cs.length = i ∧ (∀ c ∈ cs, c ∈ s) ∧ PenOk (n + 1 + i) p')
    (rngD 0 m) [] 0 [.io p1, .sh (.str s), .sh (.int a), .sh (.int b), .sh (.int m), .no] ⟨p1, [], rfl, rfl, rfl, fun c h => by simp at h, hp1⟩
    (fun j x acc ε hx ⟨p', cs, e1, e2, e3, e4, e5⟩ => by
      subst e1 e2
      have hj : j < m := by
        have := (List.getElem?_eq_some_iff.mp hx).1
        simpa [rngD] using this
      obtain ⟨c, p2, e6, hc, hp2⟩ := pick_str (l := s) e5 (by omega) h0 h1
      refine ⟨[.io p', .sh (.str s), .sh (.int a), .sh (.int b), .sh (.int m), .sh x], [.io p', .sh (.str s), .sh (.int a), .sh (.int b), .sh (.int m), .sh x], by simp -implicitDefEqProofs [tgN], .inl ⟨.sh (.str [c]), [.io p2, .sh (.str s), .sh (.int a), .sh (.int b), .sh (.int m), .sh x], .str [c], [.io p2, .sh (.str s), .sh (.int a), .sh (.int b), .sh (.int m), .sh x], rfl, ?_, by simp -implicitDefEqProofs, ?_, p2, cs ++ [c], by simp -implicitDefEqProofs, by simp -implicitDefEqProofs, ?_, ?_, ?_⟩⟩
      · simp -implicitDefEqProofs [e6]
      · simp; omega
      · simp; omega
      · intro c' h'
        rcases List.mem_append.mp h' with h' | h'
        · exact e4 c' h'
        · simp at h'; subst h'; exact hc
      · exact hp2.mono (by omega))
  have hlen : (rngD 0 m).length = m := by simp [rngD]
  rw [hlen] at hl hp'
  refine ⟨cs, p', ?_, by omega, by omega, hcs, hp'.mono (by omega)⟩
  have hm2 : (m : Int) < 4611686018427387904 := by omega
  simp -implicitDefEqProofs [F_L_word_ev, e, hm, hm2, ec, join_chars cs (by omega)]
end Den

namespace PL
open PySem PySem.Spec PyProof.Rows L2 AB
open TL (tl)
@[simp] theorem rngD_3 : rngD 0 3 = [.int 0, .int 1, .int 2] := by simp [rngD, List.range, List.range.loop]
theorem any_chars (a : Nat) (ds : List Nat) : ((ds.map fun c => D.str [c]).any fun z => eqD z (.str [a])) = decide (a ∈ ds) := by
  induction ds with
  | nil => rfl
  | cons c ds ih =>
    rw [List.map_cons, List.any_cons, ih]
    show (([c] : List Nat) == [a] || decide (a ∈ ds)) = _
    by_cases e : c = a
    · subst e; simp
    · have : a ≠ c := fun z => e z.symm
      simp [e, this]
theorem in_lst1 (neg : Bool) (a : Nat) (ds : List Nat) : inO neg (.str [a]) (.lst (ds.map fun c => D.str [c])) = some (.sh (.bl (if neg = true then !decide (a ∈ ds) else decide (a ∈ ds)))) := by
  have h1 : pl 50 (.str [a]) = true := rfl
  have h2 : (ds.map fun c => D.str [c]).all (pl 50) = true := by
    rw [List.all_eq_true]
    intro d hd
    obtain ⟨c, _, rfl⟩ := List.mem_map.mp hd
    rfl
  show (if pl 50 (.str [a]) = true ∧ _ then some _ else none) = _
  rw [if_pos ⟨h1, h2⟩, any_chars]
end PL
namespace Den
open PySem PySem.Spec PyProof.Rows L2 PL AB
open TL (tl)
def ltr (l : List Nat) : Prop := ∀ c ∈ l, c ∈ tl lettersS
theorem sgn_len : 0 < (tl (Txt.replace lettersS "q" "")).length ∧ (tl (Txt.replace lettersS "q" "")).length ≤ 16000000 := by decide +kernel
theorem sgn_in : ltr (tl (Txt.replace lettersS "q" "")) := by
  have : (tl (Txt.replace lettersS "q" "")).all (fun c => decide (c ∈ tl lettersS)) = true := by decide +kernel
  intro c hc
  simpa using List.all_eq_true.mp this c hc
theorem yz_in : ltr (tl ("yz" : Str)) := by
  have : (tl ("yz" : Str)).all (fun c => decide (c ∈ tl lettersS)) = true := by decide +kernel
  intro c hc
  simpa using List.all_eq_true.mp this c hc
theorem nl_in : ltr (tl ("(\x0a" : Str)) := by
  have : (tl ("(\x0a" : Str)).all (fun c => decide (c ∈ tl lettersS)) = true := by decide +kernel
  intro c hc
  simpa using List.all_eq_true.mp this c hc
def fewK : List (List Nat) := [tl ("ab" : Str), tl ("ab" : Str), tl ("abc" : Str), tl ("abc" : Str), tl ("a b" : Str), tl ("a\x0a" : Str), tl ("\"\\" : Str), tl ("x~" : Str), tl ("01" : Str)]
theorem fewK_ok : ∀ l ∈ fewK, 0 < l.length ∧ l.length ≤ 3 ∧ ltr l := by
  have : fewK.all (fun l => decide (0 < l.length) && decide (l.length ≤ 3) && l.all (fun c => decide (c ∈ tl lettersS))) = true := by decide +kernel
  intro l hl
  have := List.all_eq_true.mp this l hl
  simp only [Bool.and_eq_true, decide_eq_true_eq, List.all_eq_true] at this
  exact ⟨this.1.1, this.1.2, this.2⟩
theorem few_ok {n : Nat} {p : D} (hp : PenOk n p) (hn : n < 2 ^ 50) : ∃ l p', F_L_few [p] = .ok (.sh (.str l)) [p'] ∧ 0 < l.length ∧ l.length ≤ 3 ∧ ltr l ∧ PenOk (n + 4) p' := by
  obtain ⟨a, p1, e1, ha, hp1⟩ := pick_str (l := tl (Txt.replace lettersS "q" "")) hp (by omega) sgn_len.1 sgn_len.2
  obtain ⟨b, p2, e2, hb, hp2⟩ := pick_str (l := tl ("yz" : Str)) hp1 (by omega) (by decide +kernel) (by decide +kernel)
  obtain ⟨c, p3, e3, hc, hp3⟩ := pick_str (l := tl ("(\x0a" : Str)) hp2 (by omega) (by decide +kernel) (by decide +kernel)
  have h0 : cutL [D.str [a], D.str [b], D.str [c]] none (some 0) = [] := cut_take _ 0
  have h1 : cutL [D.str [a], D.str [b], D.str [c]] none (some 1) = [D.str [a]] := cut_take _ 1
  have h2 : cutL [D.str [a], D.str [b], D.str [c]] none (some 2) = [D.str [a], D.str [b]] := cut_take _ 2
  have i0 := in_lst1 true a []
  have i1 := in_lst1 true b [a]
  have i2 := in_lst1 true c [a, b]
  have a0 : atI [D.str [a], D.str [b], D.str [c]] 0 = some (.str [a]) := rfl
  have a1 : atI [D.str [a], D.str [b], D.str [c]] 1 = some (.str [b]) := rfl
  have a2 : atI [D.str [a], D.str [b], D.str [c]] 2 = some (.str [c]) := rfl
  simp only [List.map_cons, List.map_nil] at i0 i1 i2
  have fin : ∀ r : List Nat, 0 < r.length → r.length ≤ 3 → ltr r → ∃ l p', F_L_pick [p3, .lst (fewK.map D.str ++ [.str r])] = .ok (.sh (.str l)) [p'] ∧ 0 < l.length ∧ l.length ≤ 3 ∧ ltr l ∧ PenOk (n + 4) p' := by
    intro r r0 r1 r2
    obtain ⟨d, p4, e4, hd, hp4⟩ := pick_lst (ds := fewK.map D.str ++ [.str r]) hp3 (by omega) (by simp) (by simp [fewK])
    rcases List.mem_append.mp hd with hd | hd
    · obtain ⟨l, hl, rfl⟩ := List.mem_map.mp hd
      obtain ⟨q1, q2, q3⟩ := fewK_ok l hl
      exact ⟨l, p4, e4, q1, q2, q3, hp4⟩
    · simp at hd; subst hd
      exact ⟨r, p4, e4, r0, r1, r2, hp4⟩
  have la : a ∈ tl lettersS := sgn_in a ha
  have lb : b ∈ tl lettersS := yz_in b hb
  have lc : c ∈ tl lettersS := nl_in c hc
  simp only [fewK, List.map_cons, List.map_nil, List.cons_append, List.nil_append] at fin
  by_cases q1 : a = b
  · subst q1
    by_cases q2 : a = c
    · subst q2
      obtain ⟨l, p', e, r⟩ := fin [a] (by simp) (by simp) (by intro x hx; simp at hx; subst hx; exact la)
      refine ⟨l, p', ?_, r⟩
      have j := join_chars [a] (by simp)
      simp only [List.map_cons, List.map_nil] at j
      simp -implicitDefEqProofs [F_L_few_ev, e1, e2, e3, compD_cons, tgN, slO_lst, h0, h1, h2, i0, i1, i2, a0, a1, a2, j, e]
    · have q3 : ¬ c = a := fun z => q2 z.symm
      obtain ⟨l, p', e, r⟩ := fin [a, c] (by simp) (by simp) (by intro x hx; simp at hx; rcases hx with rfl | rfl; exact la; exact lc)
      refine ⟨l, p', ?_, r⟩
      have j := join_chars [a, c] (by simp)
      simp only [List.map_cons, List.map_nil] at j
      simp -implicitDefEqProofs [F_L_few_ev, e1, e2, e3, compD_cons, tgN, slO_lst, h0, h1, h2, i0, i1, i2, a0, a1, a2, j, e, q3]
  · have q3 : ¬ b = a := fun z => q1 z.symm
    by_cases q2 : a = c
    · subst q2
      obtain ⟨l, p', e, r⟩ := fin [a, b] (by simp) (by simp) (by intro x hx; simp at hx; rcases hx with rfl | rfl; exact la; exact lb)
      refine ⟨l, p', ?_, r⟩
      have j := join_chars [a, b] (by simp)
      simp only [List.map_cons, List.map_nil] at j
      simp -implicitDefEqProofs [F_L_few_ev, e1, e2, e3, compD_cons, tgN, slO_lst, h0, h1, h2, i0, i1, i2, a0, a1, a2, j, e, q3]
    · have q4 : ¬ c = a := fun z => q2 z.symm
      by_cases q5 : b = c
      · subst q5
        obtain ⟨l, p', e, r⟩ := fin [a, b] (by simp) (by simp) (by intro x hx; simp at hx; rcases hx with rfl | rfl; exact la; exact lb)
        refine ⟨l, p', ?_, r⟩
        have j := join_chars [a, b] (by simp)
        simp only [List.map_cons, List.map_nil] at j
        simp -implicitDefEqProofs [F_L_few_ev, e1, e2, e3, compD_cons, tgN, slO_lst, h0, h1, h2, i0, i1, i2, a0, a1, a2, j, e, q3]
      · have q6 : ¬ c = b := fun z => q5 z.symm
        obtain ⟨l, p', e, r⟩ := fin [a, b, c] (by simp) (by simp) (by intro x hx; simp at hx; rcases hx with rfl | rfl | rfl; exact la; exact lb; exact lc)
        refine ⟨l, p', ?_, r⟩
        have j := join_chars [a, b, c] (by simp)
        simp only [List.map_cons, List.map_nil] at j
        simp -implicitDefEqProofs [F_L_few_ev, e1, e2, e3, compD_cons, tgN, slO_lst, h0, h1, h2, i0, i1, i2, a0, a1, a2, j, e, q3, q4, q6]
theorem ntext_ok {n : Nat} {p : D} {s : List Nat} {m : Nat} (hp : PenOk n p) (hn : n < 2 ^ 40) (h0 : 0 < s.length) (h1 : s.length ≤ 1000) (hm : m ≤ 1000) :
    ∃ l p', F_L_ntext [p, .str s, .int m] = .ok (.sh (.str l)) [p'] ∧ l.length ≤ m ∧ (∀ c ∈ l, c ∈ s) ∧ PenOk (n + 40) p' := by
  obtain ⟨w1, p1, e1, _, l1, m1, hp1⟩ := word_ok (s := s) (a := 1) (b := 4) hp (by omega) h0 (by omega) (by decide) (by decide)
  obtain ⟨w2, p2, e2, _, l2, m2, hp2⟩ := word_ok (s := s) (a := 1) (b := 3) hp1 (by omega) h0 (by omega) (by decide) (by decide)
  obtain ⟨i, p3, e3, i0, i1, hp3⟩ := draw_ok (m := 9) hp2 (by omega) (by omega) (by omega)
  obtain ⟨k, rfl⟩ := Int.eq_ofNat_of_zero_le i0
  obtain ⟨ε', ef, p4, f, s5, rfl, _, hf, hfm, hp4⟩ := for_inv (g := tgN 5) (b := B_L_ntext_1)
    (P := fun j ε => ∃ p' f s5, ε = [.io p', .sh (.str s), .sh (.int m), .ow (.lst [.str w1, .str w2]), .sh (.str f), s5] ∧ (s5 = .no ∨ ∃ d, s5 = .sh d) ∧ f.length ≤ 4 * j ∧ (∀ c ∈ f, c ∈ s) ∧ PenOk (n + 12 + 2 * j) p')
    (rngD 0 k) 0 [.io p3, .sh (.str s), .sh (.int m), .ow (.lst [.str w1, .str w2]), .sh (.str []), .no] ⟨p3, [], .no, rfl, .inl rfl, by simp, fun c h => by simp at h, hp3.mono (by omega)⟩
    (fun j x ε hx ⟨p', f, s5, e, hs, hf, hfm, hp'⟩ => by
      subst e
      have hj : j < k := by
        have := (List.getElem?_eq_some_iff.mp hx).1
        simpa [rngD] using this
      obtain ⟨c, q1, e4, hc, hq1⟩ := pick_str (l := s) hp' (by omega) h0 (by omega)
      obtain ⟨d, q2, e5, hd, hq2⟩ := pick_lst (ds := [.str w1, .str w2, .str [c]]) hq1 (by omega) (by simp) (by simp)
      have hd' : ∃ w, d = .str w ∧ w.length ≤ 4 ∧ ∀ c ∈ w, c ∈ s := by
        simp at hd
        rcases hd with rfl | rfl | rfl
        · exact ⟨_, rfl, l1, m1⟩
        · exact ⟨_, rfl, by omega, m2⟩
        · exact ⟨_, rfl, by simp, fun c' h => by simp at h; subst h; exact hc⟩
      obtain ⟨w, rfl, hw, hwm⟩ := hd'
      have ad : addD (.lst [.str w1, .str w2]) (.lst [.str [c]]) = some (.fr (.lst [.str w1, .str w2, .str [c]])) := rfl
      have ad2 : addD (.str f) (.str w) = some (.sh (.str (f ++ w))) := if_pos (by omega)
      refine ⟨[.io p', .sh (.str s), .sh (.int m), .ow (.lst [.str w1, .str w2]), .sh (.str f), .sh x], [.io q2, .sh (.str s), .sh (.int m), .ow (.lst [.str w1, .str w2]), .sh (.str (f ++ w)), .sh x], ?_, ?_, q2, f ++ w, .sh x, rfl, .inr ⟨x, rfl⟩, by simp; omega, ?_, hq2.mono (by omega)⟩
      · rcases hs with rfl | ⟨d, rfl⟩ <;> simp -implicitDefEqProofs [tgN]
      · simp -implicitDefEqProofs [e4, e5, ad, ad2]
      · intro c' h'
        rcases List.mem_append.mp h' with h' | h'
        · exact hfm c' h'
        · exact hwm c' h')
  have hlen : (rngD 0 k).length = k := by simp [rngD]
  rw [hlen] at hf hp4
  have hk : (k : Int) < 4611686018427387904 := by omega
  refine ⟨f.take m, p4, ?_, by rw [List.length_take]; omega, fun c h => hfm c (List.mem_of_mem_take h), hp4.mono (by omega)⟩
  simp -implicitDefEqProofs [F_L_ntext_ev, show F_L_word [p, D.str s, D.int 1, D.int 4] = _ from e1, show F_L_word [p1, D.str s, D.int 1, D.int 3] = _ from e2, e3, hk, ef, slO_str, show f.length ≤ 16000000 by omega, cut_take]
end Den

/-! PF1: loops and comprehensions in plain words -/
namespace PL
open PySem PySem.Spec PyProof.Rows L2 AB
open TL (tl)
theorem for_inv0 {g : Tg} {b : Dn Fl} {P : Nat → Ev → Prop} (ds : List D) (ε : Ev) (p : P 0 ε) (st : ∀ j d ε, ds[j]? = some d → P j ε → ∃ ε1 ε2, g d ε = some ε1 ∧ b ε1 = .ok .nx ε2 ∧ P (j + 1) ε2) : ∃ ε', forD g b ds ε = .ok .nx ε' ∧ P ds.length ε' := by
  have := for_inv (g := g) (b := b) (P := P) ds 0 ε p fun j d ε hd p => by
    rw [Nat.zero_add] at p ⊢
    exact st j d ε hd p
  rwa [Nat.zero_add] at this
/-- a comprehension that writes nothing -/
theorem comp_pure {g : Tg} {vs : List Nat} {c : Dn Bool} {e : Dn Fv} {ε : Ev} (f : D → Bool) (h : D → D) : ∀ (xs acc : List D), acc.length + xs.length ≤ 16000000 →
    (∀ x ∈ xs, ∃ ε1, g x ε = some ε1 ∧ c ε1 = .ok (f x) ε1 ∧ (f x = true → ∃ fv, e ε1 = .ok fv ε1 ∧ shr [fv.old] ε1 = some ([h x], ε1)) ∧ wipeE ε1 vs = ε) → compD vs g c e xs acc ε = .ok (acc ++ (xs.filter f).map h) ε
  | [], acc, _, _ => by simp
  | x :: xs, acc, hl, st => by
    obtain ⟨ε1, e1, e2, e3, e4⟩ := st x List.mem_cons_self
    have st' := fun y hy => st y (List.mem_cons_of_mem _ hy)
    rw [List.length_cons] at hl
    rw [compD_cons, e1, cKg_some, e2]
    cases hf : f x with
    | false =>
      rw [cKc_f, e4, comp_pure f h xs acc (by omega) st', List.filter_cons_of_neg (by simp [hf])]
    | true =>
      obtain ⟨fv, e5, e6⟩ := e3 hf
      rw [cKc_t, e5, cKd_ok, e6, cKe_some, if_pos (by omega), e4, comp_pure f h xs (acc ++ [h x]) (by rw [List.length_append]; simp; omega) st', List.filter_cons_of_pos hf]
      simp
/-- while, with a measure -/
theorem while_inv {c : Dn Bool} {b : Dn Fl} {P : Nat → Ev → Prop} (Q : Ev → Prop) : ∀ (n m : Nat) (ε : Ev), n < m → P n ε →
    (∀ n ε, P n ε → (∃ ε1, c ε = .ok false ε1 ∧ Q ε1) ∨ ∃ ε1 ε2 k, c ε = .ok true ε1 ∧ b ε1 = .ok .nx ε2 ∧ k < n ∧ P k ε2) → ∃ ε', whileD c b m ε = .ok .nx ε' ∧ Q ε'
  | n, 0, ε, h, _, _ => absurd h (Nat.not_lt_zero _)
  | n, m + 1, ε, h, p, st => by
    have ev : whileD c b (m + 1) ε = (c ε).bind fun t ε1 => if t = true then (b ε1).bind (loopF (whileD c b m)) else .ok .nx ε1 := rfl
    rcases st n ε p with ⟨ε1, e1, q⟩ | ⟨ε1, ε2, k, e1, e2, hk, p2⟩
    · exact ⟨ε1, by rw [ev, e1]; rfl, q⟩
    · obtain ⟨ε', e, q⟩ := while_inv Q k m ε2 (by omega) p2 st
      refine ⟨ε', ?_, q⟩
      rw [ev, e1]
      show (if (true : Bool) = true then (b ε1).bind (loopF (whileD c b m)) else Re.ok Fl.nx ε1) = _
      rw [if_pos rfl, e2]
      exact e
theorem while_fuel {c : Dn Bool} {b : Dn Fl} {P : Nat → Ev → Prop} (Q : Ev → Prop) (n : Nat) (ε : Ev) (hn : n < 1000000) (p : P n ε)
    (st : ∀ n ε, P n ε → (∃ ε1, c ε = .ok false ε1 ∧ Q ε1) ∨ ∃ ε1 ε2 k, c ε = .ok true ε1 ∧ b ε1 = .ok .nx ε2 ∧ k < n ∧ P k ε2) : ∃ ε', sDW c b ε = .ok .nx ε' ∧ Q ε' :=
  while_inv Q n fuel ε (by unfold fuel; omega) p st
/-- a slot that may be written -/
def Fs (s : Sl) : Prop := s = .no ∨ ∃ d, s = .sh d
theorem Fs.no : Fs .no := .inl rfl
theorem Fs.sh (d : D) : Fs (.sh d) := .inr ⟨d, rfl⟩
theorem setS_fs {s : Sl} (h : Fs s) (d : D) (ε : Ev) : setS (s :: ε) 0 (.sh d) = some (.sh d :: ε) := by
  rcases h with rfl | ⟨e, rfl⟩ <;> rfl
theorem setS_fsf {s : Sl} (h : Fs s) (d : D) (ε : Ev) : setS (s :: ε) 0 (.fr d) = some (.ow d :: ε) := by
  rcases h with rfl | ⟨e, rfl⟩ <;> rfl
theorem mutAt_fs {s : Sl} (h : Fs s) (ε : Ev) : mutAt (s :: ε) 0 = true := by
  rcases h with rfl | ⟨e, rfl⟩ <;> rfl
theorem enumD_gt (ds : List D) (j : Nat) : (enumD ds)[j]? = (ds[j]?).map fun d => D.tup [.int (j : Int), d] := by
  unfold enumD
  rw [List.getElem?_zipWith]
  by_cases h : j < ds.length
  · rw [List.getElem?_range h, List.getElem?_eq_getElem h]; rfl
  · rw [List.getElem?_eq_none (l := ds) (by omega)]
    cases (List.range ds.length)[j]? <;> rfl
theorem rngD_gt (lo : Int) (n j : Nat) (d : D) (h : (rngD lo n)[j]? = some d) : j < n ∧ d = .int (lo + (j : Int)) := by
  unfold rngD at h
  rw [List.getElem?_map] at h
  have hj : j < n := by
    by_cases q : j < n
    · exact q
    · rw [List.getElem?_eq_none (by simp; omega)] at h; cases h
  rw [List.getElem?_range hj] at h
  simp at h
  exact ⟨hj, h.symm⟩
@[simp] theorem rngD_len (lo : Int) (n : Nat) : (rngD lo n).length = n := by simp [rngD]
theorem rngD_map (a n : Nat) : rngD (a : Int) n = (List.range n).map fun k => D.int ((a + k : Nat) : Int) := by
  unfold rngD
  refine List.map_congr_left fun k _ => ?_
  rw [Int.natCast_add]
theorem rngD_map0 (n : Nat) : rngD 0 n = (List.range n).map fun k => D.int ((k : Nat) : Int) := by
  have := rngD_map 0 n
  simpa using this
theorem mem_rng {x : D} {n : Nat} (h : x ∈ rngD 0 n) : ∃ k, k < n ∧ x = .int ((k : Nat) : Int) := by
  rw [rngD_map0] at h
  obtain ⟨k, hk, rfl⟩ := List.mem_map.mp h
  exact ⟨k, List.mem_range.mp hk, rfl⟩
@[simp] theorem ne_int (i j : Int) : neO (.int i) (.int j) = some (.sh (.bl (!decide (i = j)))) := by
  show (if pl 60 (.int i) = true ∧ pl 60 (.int j) = true then some (Fv.sh (.bl (!(i == j)))) else none) = _
  rw [if_pos ⟨rfl, rfl⟩]
  by_cases h : i = j <;> simp [h]
@[simp] theorem eq_int (i j : Int) : eqO (.int i) (.int j) = some (.sh (.bl (decide (i = j)))) := by
  show (if pl 60 (.int i) = true ∧ pl 60 (.int j) = true then some (Fv.sh (.bl ((i == j)))) else none) = _
  rw [if_pos ⟨rfl, rfl⟩]
  by_cases h : i = j <;> simp [h]
@[simp] theorem eq_str (x y : List Nat) : eqO (.str x) (.str y) = some (.sh (.bl (x == y))) := rfl
@[simp] theorem ne_str (x y : List Nat) : neO (.str x) (.str y) = some (.sh (.bl (!(x == y)))) := rfl
@[simp] theorem minD_2 (i j : Int) : minD [.int i, .int j] = some (.sh (.int (if j < i then j else i))) := rfl
@[simp] theorem maxD_2 (i j : Int) : maxD [.int i, .int j] = some (.sh (.int (if j > i then j else i))) := rfl
@[simp] theorem tru_bl (b : Bool) : tru (.bl b) = some b := rfl
@[simp] theorem tru_int (i : Int) : tru (.int i) = some (i != 0) := rfl
theorem appD_ok (ds : List D) (d : D) (h : ds.length < 16000000) : appD (.lst ds) [d] = some (.lst (ds ++ [d]), .non) := if_pos h
def nD (l : List Nat) : List D := l.map fun (k : Nat) => D.int (k : Int)
theorem nD_len (l : List Nat) : (nD l).length = l.length := by simp [nD]
theorem nD_snoc (l : List Nat) (k : Nat) : nD (l ++ [k]) = nD l ++ [.int (k : Int)] := by simp [nD]
theorem cut_mid {α : Type} (l : List α) (a b : Nat) : cutL l (some (a : Int)) (some (b : Int)) = (l.drop a).take (b - a) := by
  unfold cutL
  rw [sIx_nat, sIx_nat]
  by_cases h : a ≤ l.length
  · rw [Nat.min_eq_left h]
    by_cases h2 : b ≤ l.length
    · rw [Nat.min_eq_left h2]
    · rw [Nat.min_eq_right (by omega), List.take_of_length_le (by rw [List.length_drop]; omega), List.take_of_length_le (by rw [List.length_drop]; omega)]
  · rw [Nat.min_eq_right (a := a) (by omega), List.drop_of_length_le (by omega), List.drop_of_length_le (by omega)]
    simp
theorem atI_n {α : Type} {l : List α} {k : Nat} {d : α} (h : l[k]? = some d) : atI l ((k : Nat) : Int) = some d := atI_nat h
/-- two readings of one list are alike -/
theorem filter_map_congr {α : Type} {l : List α} {p q : α → Bool} (h : ∀ x ∈ l, p x = q x) : l.filter p = l.filter q := List.filter_congr h
end PL

/-! PFK: values of known kind, numbers within bounds (needs is_integer, is_within, _law_is_number) -/
namespace Den
open PySem PySem.Spec PyProof.Rows L2 PL AB
open TL (tl)
def isI : D → Bool
  | .int _ => true
  | _ => false
def inB (lo hi : Int) : D → Bool
  | .int i => decide (lo ≤ i) && decide (i ≤ hi)
  | _ => false
/-- a value of which the kind is known -/
def Kn (d : D) : Prop := ∃ s, tyN d = some s
theorem isi_int {d : D} (h : Kn d) : ∃ b, isiD [d, .ty "int"] = some (.sh (.bl b)) ∧ (b = false → isI d = false) ∧ (b = true → ∃ c, isiD [d, .ty "bool"] = some (.sh (.bl c)) ∧ isI d = !c) := by
  obtain ⟨s, hs⟩ := h
  have e : ∀ (n : String) (s : String), tyN d = some s → n ∈ typesD → isiD [d, .ty n] = some (.sh (.bl (isB s n))) := fun n s hs hn => by
    show (tyN d).bind _ = _
    rw [hs, Option.bind_some, if_pos hn]
  have d1 : "int" ∈ typesD := by decide
  have d2 : "bool" ∈ typesD := by decide
  cases d with
  | non => exact ⟨_, e _ _ rfl d1, fun _ => rfl, fun z => absurd z (by decide)⟩
  | bl b => exact ⟨_, e _ _ rfl d1, fun _ => rfl, fun _ => ⟨_, e _ _ rfl d2, by simp [isI, isB]⟩⟩
  | int i => exact ⟨_, e _ _ rfl d1, fun z => absurd z (by decide), fun _ => ⟨_, e _ _ rfl d2, by simp [isI, isB]⟩⟩
  | str l => exact ⟨_, e _ _ rfl d1, fun _ => rfl, fun z => absurd z (by decide)⟩
  | tup l => exact ⟨_, e _ _ rfl d1, fun _ => rfl, fun z => absurd z (by decide)⟩
  | lst l => exact ⟨_, e _ _ rfl d1, fun _ => rfl, fun z => absurd z (by decide)⟩
  | dct l => exact ⟨_, e _ _ rfl d1, fun _ => rfl, fun z => absurd z (by decide)⟩
  | dcT l => exact ⟨_, e _ _ rfl d1, fun _ => rfl, fun z => absurd z (by decide)⟩
  | ins c f => cases hs
  | ty n => cases hs
  | ref a => cases hs
  | flz xs => cases hs
theorem is_integer_ok {d : D} (h : Kn d) : F_is_integer [d] = .ok (.sh (.bl (isI d))) [] := by
  obtain ⟨b, e, h1, h2⟩ := isi_int h
  cases b with
  | false => simp -implicitDefEqProofs [F_is_integer_ev, e, h1 rfl]
  | true =>
    obtain ⟨c, e2, h3⟩ := h2 rfl
    simp -implicitDefEqProofs [F_is_integer_ev, e, e2, h3]
theorem is_within_ok {d : D} (h : Kn d) (lo hi : Int) : F_is_within [d, .int lo, .int hi] = .ok (.sh (.bl (inB lo hi d))) [] := by
  have e := is_integer_ok h
  cases d with
  | int i =>
    by_cases q : lo ≤ i
    · simp -implicitDefEqProofs [F_is_within_ev, e, isI, inB, q]
    · simp -implicitDefEqProofs [F_is_within_ev, e, isI, inB, q]
  | _ => simp -implicitDefEqProofs [F_is_within_ev, e, isI, inB]
theorem is_number_ok {d : D} (h : Kn d) (lo hi : Int) : F_L_is_number [d, .int lo, .int hi] = .ok (.sh (.bl (inB lo hi d))) [] := by
  obtain ⟨b, e, h1, h2⟩ := isi_int h
  cases b with
  | false =>
    have q := h1 rfl
    have : inB lo hi d = false := by cases d <;> first | rfl | cases q
    simp -implicitDefEqProofs [F_L_is_number_ev, e, this]
  | true =>
    obtain ⟨c, e2, h3⟩ := h2 rfl
    cases d with
    | int i =>
      have : c = false := by simpa [isI] using h3
      subst this
      by_cases q : lo ≤ i
      · simp -implicitDefEqProofs [F_L_is_number_ev, e, e2, inB, q]
      · simp -implicitDefEqProofs [F_L_is_number_ev, e, e2, inB, q]
    | _ =>
      have : c = true := by simpa [isI] using h3
      subst this
      simp -implicitDefEqProofs [F_L_is_number_ev, e, e2, inB]
end Den

/-! PFV: the pen, any value -/
namespace PL
open PySem PySem.Spec PyProof.Rows L2 AB
open TL (tl)
theorem addD_lst (a b : List D) (h : a.length + b.length ≤ 16000000) : addD (.lst a) (.lst b) = some (.fr (.lst (a ++ b))) := if_pos h
theorem addD_tup (a b : List D) (h : a.length + b.length ≤ 16000000) : addD (.tup a) (.tup b) = some (.sh (.tup (a ++ b))) := if_pos h
theorem addD_str (a b : List Nat) (h : a.length + b.length ≤ 16000000) : addD (.str a) (.str b) = some (.sh (.str (a ++ b))) := if_pos h
end PL
namespace Den
open PySem PySem.Spec PyProof.Rows L2 PL AB
open TL (tl)
theorem pen_ok (ns : List Int) (h : ns.length ≤ 63) : ∃ p, F_L_pen [.flz (ns.map .int)] = .ok (.fr p) [] ∧ PenOk 0 p := by
  refine ⟨penDD ns 0 0, ?_, ns, 0, 0, rfl, h, by omega, by omega, by omega⟩
  have c : cutL (ns.map D.int) none (some 63) = ns.map D.int := by
    rw [show (some (63 : Int)) = some ((63 : Nat) : Int) from rfl, cut_take, List.take_of_length_le (by simp; omega)]
  have e : (dN listD (aCons (dSl (dV 0) none (some (dC (.int 63)))) aNil)) [.sh (.flz (ns.map D.int))] = .ok (.fr (.lst (ns.map D.int))) [.sh (.flz (ns.map D.int))] := by
    simp -implicitDefEqProofs [slO_flz, c, listD]
  have pr : dDisp [((dC (.str (tl (Str.ofString "cells")))), (dN listD (aCons (dSl (dV 0) none (some (dC (.int 63)))) aNil))), ((dC (.str (tl (Str.ofString "turn")))), (dC (.int 0))), ((dC (.str (tl (Str.ofString "left")))), (dC (.int 0)))] [.sh (.flz (ns.map D.int))] = .ok (.fr (penDD ns 0 0)) [.sh (.flz (ns.map D.int))] := by
    unfold dDisp PL.prD
    simp only [dC_ev, Re.bind, e, PL.prD, Fv.old, dispF, List.map_cons, List.map_nil]
    have k1 : (rds [Sl.sh (D.flz (ns.map D.int))] [Fv.sh (D.str (tl (Str.ofString "cells"))), Fv.sh (D.str (tl (Str.ofString "turn"))), Fv.sh (D.str (tl (Str.ofString "left")))]).bind keysOf = some [.inr "cells", .inr "turn", .inr "left"] := by
      show keysOf [D.str (tl (Str.ofString "cells")), D.str (tl (Str.ofString "turn")), D.str (tl (Str.ofString "left"))] = _
      simp only [keysOf, key_tl]
    rw [k1]
    have k2 : shr [Fv.sh (D.lst (ns.map D.int)), Fv.sh (D.int 0), Fv.sh (D.int 0)] [Sl.sh (D.flz (ns.map D.int))] = some ([D.lst (ns.map D.int), .int 0, .int 0], [Sl.sh (D.flz (ns.map D.int))]) := by
      simp -implicitDefEqProofs
    rw [k2]
    simp [mergeD, putD, penDD, AB.e12, AB.e13, AB.e23]
  simp -implicitDefEqProofs [F_L_pen_ev, pr]
def aS (s : String) : D := .str (tl (Str.ofString s))
def aM (s : String) (n : Nat) : D := .str (List.replicate n (tl (Str.ofString s))).flatten
theorem mul_a {s : String} (n : Nat) (hs : (tl (Str.ofString s)).length = 1) (hn : n < 1000) : mulD (.str (tl (Str.ofString s))) (.int (n : Int)) = some (.sh (aM s n)) := by
  have h : (0 : Int) ≤ (n : Int) ∧ (n : Int) < 1000000 ∧ (tl (Str.ofString s)).length * (n : Int).toNat ≤ 1000000 := ⟨by omega, by omega, by rw [hs]; omega⟩
  simp only [mulD]
  rw [if_pos h, Int.toNat_natCast]
  rfl
def p59 : Int := 10 ^ 59
theorem pow59 : powD (.int 10) (.int 59) = some (.sh (.int p59)) := by
  have h : (0 : Int) ≤ 59 ∧ (59 : Int) ≤ 1000000 ∧ (10 : Int).natAbs < 2 ^ 64 := by decide
  simp only [powD]
  rw [if_pos h]
  rfl
theorem disp_ab (ε : Ev) : dDisp [((dC (.str (tl (Str.ofString "a")))), (dC (.str (tl (Str.ofString "b")))))] ε = .ok (.fr (.dct [(.inr (sl (tl (Str.ofString "a"))), aS "b")])) ε := rfl
def anyL : List D := [.non, .bl true, .bl false, .int 0, .int 1, .int (-1),   .int p59, .str [], aS "a", aS "\t", aS "a\t", aS "ab", .tup [], .tup [aS "a"], .tup [aS "a", aS "b"], .lst [aS "a", aS "b"], .dct [],
  .lst [.int 1], .tup [aS "a", .int 1], .tup [.str [], aS "a"], .tup [aS "a", aS "\t"], .tup [aS "a", aS "b", aS "c"], .dct [(.inr (sl (tl (Str.ofString "a"))), aS "b")], aS "once", .tup [aM "a" 41, .str []],
  .tup [aS "a", aM "b" 41], aM "a" 41, aM "b" 50, .tup [.int 0, .int 1], .lst [], .tup [aS "a", .non]]
theorem any_value_eq {n : Nat} {p : D} (hp : PenOk n p) (hn : n < 2 ^ 50) : ∃ d p', F_L_any_value [p] = .ok (.sh d) [p'] ∧ d ∈ anyL ∧ PenOk (n + 1) p' := by
  obtain ⟨d, p', e, hd, hp'⟩ := pick_lst (ds := anyL) hp (by omega) (by decide) (by decide)
  refine ⟨d, p', ?_, hd, hp'⟩
  have m1 : mulD (.str (tl (Str.ofString "a"))) (.int 41) = some (.sh (aM "a" 41)) := mul_a 41 (by decide +kernel) (by decide)
  have m2 : mulD (.str (tl (Str.ofString "b"))) (.int 41) = some (.sh (aM "b" 41)) := mul_a 41 (by decide +kernel) (by decide)
  have m3 : mulD (.str (tl (Str.ofString "b"))) (.int 50) = some (.sh (aM "b" 50)) := mul_a 50 (by decide +kernel) (by decide)
  unfold anyL aS at e
  simp -implicitDefEqProofs [F_L_any_value_ev, m1, m2, m3, pow59, disp_ab, aS, addD_lst, e]
end Den

/-! PFG: slots that may own -/
namespace PL
open PySem PySem.Spec PyProof.Rows L2 AB
open TL (tl)
/-- a slot that may be written, also one that owns -/
def Gs (s : Sl) : Prop := s = .no ∨ (∃ d, s = .sh d) ∨ ∃ d, s = .ow d
theorem Gs.no : Gs .no := .inl rfl
theorem Gs.sh (d : D) : Gs (.sh d) := .inr (.inl ⟨d, rfl⟩)
theorem Gs.ow (d : D) : Gs (.ow d) := .inr (.inr ⟨d, rfl⟩)
theorem setS_gsf {s : Sl} (h : Gs s) (d : D) (ε : Ev) : setS (s :: ε) 0 (.fr d) = some (.ow d :: ε) := by
  rcases h with rfl | ⟨e, rfl⟩ | ⟨e, rfl⟩ <;> rfl
theorem setS_gs {s : Sl} (h : Gs s) (d : D) (ε : Ev) : setS (s :: ε) 0 (.sh d) = some (.sh d :: ε) := by
  rcases h with rfl | ⟨e, rfl⟩ | ⟨e, rfl⟩ <;> rfl
theorem okRep_int {i : Int} (h : i.natAbs < 2 ^ 300) : okRep (.int i) := by
  have s := Show.int h
  exact ⟨rfl, s.ok, Nat.le_trans s.sz (by decide)⟩
theorem repD_ok {d : D} (h : okRep d) : repD [d] = some (.sh (.str (repL d))) := if_pos h
theorem mutAt_gs {s : Sl} (h : Fs s) (ε : Ev) : mutAt (s :: ε) 0 = true := mutAt_fs h ε
end PL

/-! PF2: places of words; windows that stand once -/
namespace Den
open PySem PySem.Spec PyProof.Rows L2 PL AB
open TL (tl)
theorem places_ok (t w : List Nat) (hw : w ≠ []) (ht : t.length ≤ 100000) : F_places [.str t, .str w] = .ok (.fr (.lst (nD (plc t w)))) [] := by
  have e1 : tl (sl t) = t := tl_sl t
  have e2 : tl (sl w) = w := tl_sl w
  have ff := fun lo => find_from (x := sl t) (y := sl w) (by rw [e2]; exact hw) lo
  simp only [e1, e2] at ff
  -- the loop, from any place that is one
  have loop : ∀ (f : List Nat) (pl : Int), (pl = -1 ∧ f = plc t w ∨ ∃ k : Nat, pl = k ∧ isAt t w k = true ∧ f = plcN t w k) →
      ∃ ε', sDW (bT (d2 geD (dV 3) (dC (.int 0)))) B_places_2 [.sh (.str t), .sh (.str w), .ow (.lst (nD f)), .sh (.int pl)] = .ok .nx ε' ∧ ∃ q, ε' = [.sh (.str t), .sh (.str w), .ow (.lst (nD (plc t w))), .sh (.int q)] := by
    intro f pl h
    refine while_fuel (P := fun n ε => ∃ (f : List Nat) (pl : Int), ε = [.sh (.str t), .sh (.str w), .ow (.lst (nD f)), .sh (.int pl)] ∧ (pl = -1 ∧ f = plc t w ∨ ∃ k : Nat, pl = k ∧ isAt t w k = true ∧ f = plcN t w k ∧ n + k = t.length + 1))
      _ (match pl with | .ofNat k => t.length + 1 - k | _ => 0) _ (by split <;> omega) ⟨f, pl, rfl, ?_⟩ ?_
    · rcases h with ⟨rfl, h⟩ | ⟨k, rfl, h1, h2⟩
      · exact .inl ⟨rfl, h⟩
      · have := isAt_le hw h1
        exact .inr ⟨k, rfl, h1, h2, by show t.length + 1 - k + k = _; omega⟩
    · rintro n ε ⟨f, pl, rfl, h⟩
      rcases h with ⟨rfl, rfl⟩ | ⟨k, rfl, h1, rfl, hn⟩
      · exact .inl ⟨[.sh (.str t), .sh (.str w), .ow (.lst (nD (plc t w))), .sh (.int (-1))], by simp -implicitDefEqProofs, -1, rfl⟩
      · have hk := isAt_le hw h1
        have hl := plcN_len t w k
        have e3 : nD (plcN t w k) ++ [.int (k : Int)] = nD (plcN t w (k + 1)) := by rw [plcN_succ, if_pos h1, nD_snoc]
        have ap : appD (.lst (nD (plcN t w k))) [.int (k : Int)] = some (.lst (nD (plcN t w (k + 1))), .non) := by rw [appD_ok _ _ (by rw [nD_len]; omega), e3]
        have e4 : ((k : Int) + 1) = ((k + 1 : Nat) : Int) := by omega
        obtain ⟨r, hr, hrest⟩ : ∃ r : Int, Txt.find3 (sl t) (sl w) ((k + 1 : Nat) : Int) = r ∧ (r = -1 ∧ plcN t w (k + 1) = plc t w ∨ ∃ j : Nat, r = j ∧ k < j ∧ isAt t w j = true ∧ plcN t w (k + 1) = plcN t w j) := by
          rcases ff (k + 1) with ⟨a, b⟩ | ⟨j, r, a, b, c, d⟩
          · refine ⟨-1, by rw [find3_nat, a], .inl ⟨rfl, ?_⟩⟩
            unfold plc
            rw [plcN_skip' (a := k + 1) (b := t.length + 1) (by omega) fun j h1 _ => b j h1]
          · exact ⟨j, by rw [find3_nat, a], .inr ⟨j, rfl, by omega, c, (plcN_skip' (a := k + 1) (b := j) b fun i h1 h2 => d i h1 h2).symm⟩⟩
        have fd : findD t [.str w, .int ((k : Int) + 1)] = some (.sh (.int r)) := by show some (Fv.sh (.int (Txt.find3 (sl t) (sl w) ((k : Int) + 1)))) = _; rw [e4, hr]
        have st : B_places_2 [.sh (.str t), .sh (.str w), .ow (.lst (nD (plcN t w k))), .sh (.int (k : Int))] = .ok .nx [.sh (.str t), .sh (.str w), .ow (.lst (nD (plcN t w (k + 1)))), .sh (.int r)] := by
          simp -implicitDefEqProofs [isLst, ap, fd]
        have c1 : bT (d2 geD (dV 3) (dC (.int 0))) [.sh (.str t), .sh (.str w), .ow (.lst (nD (plcN t w k))), .sh (.int (k : Int))] = .ok true [.sh (.str t), .sh (.str w), .ow (.lst (nD (plcN t w k))), .sh (.int (k : Int))] := by
          simp -implicitDefEqProofs
        rcases hrest with ⟨rfl, h3⟩ | ⟨j, rfl, hj, h4, h5⟩
        · exact .inr ⟨_, _, 0, c1, st, by omega, _, _, rfl, .inl ⟨rfl, h3⟩⟩
        · have := isAt_le hw h4
          exact .inr ⟨_, _, t.length + 1 - j, c1, st, by omega, _, _, rfl, .inr ⟨j, rfl, h4, h5, by omega⟩⟩
  obtain ⟨r, hr, hrest⟩ : ∃ r : Int, Txt.find (sl t) (sl w) = r ∧ (r = -1 ∧ [] = plc t w ∨ ∃ k : Nat, r = k ∧ isAt t w k = true ∧ [] = plcN t w k) := by
    rcases ff 0 with ⟨a, b⟩ | ⟨k, r, a, b, c, d⟩
    · refine ⟨-1, by unfold Txt.find; rw [a], .inl ⟨rfl, ?_⟩⟩
      unfold plc
      rw [plcN_skip' (a := 0) (Nat.zero_le _) fun j h1 _ => b j h1]
      rfl
    · exact ⟨k, by unfold Txt.find; rw [a], .inr ⟨k, rfl, c, (plcN_skip' (a := 0) (Nat.zero_le _) fun j h1 h2 => d j h1 h2).symm⟩⟩
  have fd : findD t [.str w] = some (.sh (.int r)) := by show some (Fv.sh (.int (Txt.find (sl t) (sl w)))) = _; rw [hr]
  obtain ⟨ε', ew, q, rfl⟩ := loop [] r hrest
  have ew : sDW (bT (d2 geD (dV 3) (dC (.int 0)))) B_places_2 [.sh (.str t), .sh (.str w), .ow (.lst []), .sh (.int r)] = _ := ew
  simp -implicitDefEqProofs [F_places_ev, fd, ew]
/-- the law's own places -/
theorem lplaces_ok (t w : List Nat) (hw : w ≠ []) (ht : t.length ≤ 100000) (hw2 : w.length ≤ 100000) : F_L_places [.str t, .str w] = .ok (.fr (.lst (nD (plc t w)))) [] := by
  obtain ⟨m, hm⟩ : ∃ m, m = t.length + 1 - w.length := ⟨_, rfl⟩
  have hm2 : ((t.length : Int) - w.length + 1).toNat = m := by omega
  have ec : compD [3] (tgN 3) (bT (d2 eqO (dSl (dV 0) (some (dV 3)) (some (d2 addD (dV 3) (dV 2)))) (dV 1))) (dV 3) (rngD 0 m) [] [.sh (.str t), .sh (.str w), .sh (.int w.length), .no] = .ok (nD (plc t w)) [.sh (.str t), .sh (.str w), .sh (.int w.length), .no] := by
    have := comp_pure (g := tgN 3) (vs := [3]) (c := bT (d2 eqO (dSl (dV 0) (some (dV 3)) (some (d2 addD (dV 3) (dV 2)))) (dV 1))) (e := dV 3) (ε := [.sh (.str t), .sh (.str w), .sh (.int w.length), .no])
      (fun d => match d with | .int k => isAt t w k.toNat | _ => false) id (rngD 0 m) [] (by simp; omega) (fun x hx => by
        obtain ⟨k, hk, rfl⟩ := mem_rng hx
        have c : cutL t (some (k : Int)) (some ((k : Int) + w.length)) = (t.drop k).take w.length := by
          have := cut_mid t k (k + w.length)
          rw [Nat.add_sub_cancel_left, Int.natCast_add] at this
          exact this
        have b : ((t.drop k).take w.length == w) = isAt t w k := by
          unfold isAt TL.pre
          rfl
        refine ⟨[.sh (.str t), .sh (.str w), .sh (.int w.length), .sh (.int k)], by simp -implicitDefEqProofs [tgN], ?_, fun _ => ⟨.at 3, by simp -implicitDefEqProofs, by simp -implicitDefEqProofs⟩, by simp⟩
        simp -implicitDefEqProofs [slO_str, show t.length ≤ 16000000 by omega, c, b])
    rw [this, List.nil_append, List.map_id, rngD_map0, List.filter_map, ← plcN_end (a := m) (by omega) hw]
    rfl
  have h1 : (t.length : Int) - w.length + 1 < 4611686018427387904 := by omega
  have h2 : -4611686018427387904 ≤ (t.length : Int) - w.length + 1 := by omega
  simp -implicitDefEqProofs [F_L_places_ev, lenD_str w (by omega), lenD_str t (by omega), h1, h2, hm2, ec]
end Den

/-! PF3: windows that stand once, in plain words -/
namespace WN
open PySem AB
/-- lists in strict order with the same members are the same -/
theorem eq_of_mem {α : Type} {lt : α → α → Prop} (asym : ∀ a b, lt a b → ¬lt b a) : ∀ (l1 l2 : List α), l1.Pairwise lt → l2.Pairwise lt → (∀ x, x ∈ l1 ↔ x ∈ l2) → l1 = l2
  | [], [], _, _, _ => rfl
  | [], y :: l2, _, _, h => by have := (h y).mpr List.mem_cons_self; simp at this
  | x :: l1, [], _, _, h => by have := (h x).mp List.mem_cons_self; simp at this
  | x :: l1, y :: l2, h1, h2, h => by
    rw [List.pairwise_cons] at h1 h2
    have irr : ∀ a, ¬lt a a := fun a z => asym a a z z
    have hxy : x = y := by
      rcases List.mem_cons.mp ((h x).mp List.mem_cons_self) with e | e
      · exact e
      · rcases List.mem_cons.mp ((h y).mpr List.mem_cons_self) with e2 | e2
        · exact e2.symm
        · exact absurd (h1.1 y e2) (asym _ _ (h2.1 x e))
    subst hxy
    refine congrArg _ (eq_of_mem asym l1 l2 h1.2 h2.2 fun z => ⟨fun hz => ?_, fun hz => ?_⟩)
    · rcases List.mem_cons.mp ((h z).mp (List.mem_cons_of_mem _ hz)) with e | e
      · subst e; exact absurd (h1.1 z hz) (irr z)
      · exact e
    · rcases List.mem_cons.mp ((h z).mpr (List.mem_cons_of_mem _ hz)) with e | e
      · subst e; exact absurd (h2.1 z hz) (irr z)
      · exact e
def ltP (a b : Nat × Nat) : Prop := a.1 < b.1 ∨ a.1 = b.1 ∧ a.2 < b.2
theorem ltP_asym (a b : Nat × Nat) (h : ltP a b) : ¬ltP b a := by unfold ltP at *; omega
def win (t : List Nat) (i j : Nat) : List Nat := (t.drop i).take (j - i)
def u1 (t : List Nat) (i j : Nat) : Bool := decide (i < j) && ((plc t (win t i j)).length == 1)
def onceP (t : List Nat) (i j : Nat) : Prop := ∀ p, isAt t (win t i j) p = true → p = i
theorem isAt_iff {t w : List Nat} {a : Nat} : isAt t w a = true ↔ (t.drop a).take w.length = w := by
  unfold isAt TL.pre
  exact beq_iff_eq
theorem win_len {t : List Nat} {i j : Nat} (h : j ≤ t.length) : (win t i j).length = j - i := by
  unfold win
  rw [List.length_take, List.length_drop]; omega
theorem win_ne {t : List Nat} {i j : Nat} (h : i < j) (hj : j ≤ t.length) : win t i j ≠ [] := fun e => by
  have := win_len (t := t) (i := i) hj
  rw [e] at this
  simp at this
  omega
theorem win_self {t : List Nat} {i j : Nat} (hj : j ≤ t.length) : isAt t (win t i j) i = true := by
  rw [isAt_iff, win_len hj]; rfl
theorem filter_one {p : Nat → Bool} {k0 : Nat} : ∀ n, (∀ k, k < n → (p k = true ↔ k = k0)) → (List.range n).filter p = if k0 < n then [k0] else []
  | 0, _ => by simp
  | n + 1, h => by
    rw [List.range_succ, List.filter_append, filter_one n fun k hk => h k (by omega)]
    have hn := h n (by omega)
    by_cases e : n = k0
    · subst e
      have : p n = true := hn.mpr rfl
      simp [this]
    · have : p n = false := by
        cases q : p n with
        | false => rfl
        | true => exact absurd (hn.mp q) e
      simp only [List.filter_cons, this, List.filter_nil]
      by_cases h2 : k0 < n
      · simp [h2]; omega
      · simp [h2]; omega
theorem u1_iff {t : List Nat} {i j : Nat} (h : i < j) (hj : j ≤ t.length) : u1 t i j = true ↔ onceP t i j := by
  have hw := win_ne h hj
  have self := win_self (t := t) (i := i) hj
  unfold u1
  rw [Bool.and_eq_true, beq_iff_eq, decide_eq_true_eq]
  constructor
  · rintro ⟨_, hl⟩ p hp
    obtain ⟨a, ha⟩ := List.length_eq_one_iff.mp hl
    have h1 := (mem_plc hw).mpr hp
    have h2 := (mem_plc hw).mpr self
    rw [ha] at h1 h2
    simp at h1 h2
    omega
  · intro ho
    refine ⟨h, ?_⟩
    have : plc t (win t i j) = if i < t.length + 1 then [i] else [] := by
      unfold plc plcN
      exact filter_one _ fun k _ => ⟨fun z => ho k z, fun z => z ▸ self⟩
    rw [this, if_pos (by omega)]; rfl
theorem once_mono {t : List Nat} {i j i' j' : Nat} (ho : onceP t i j) (hi : i' ≤ i) (h : i < j) (hj : j ≤ j') (hn : j' ≤ t.length) : onceP t i' j' := by
  intro p hp
  rw [isAt_iff, win_len hn] at hp
  have key : isAt t (win t i j) (p + (i - i')) = true := by
    rw [isAt_iff, win_len (by omega)]
    have e1 : (t.drop (p + (i - i'))).take (j - i) = (((t.drop p).take (j' - i')).drop (i - i')).take (j - i) := by
      rw [List.drop_take, List.drop_drop, List.take_take, Nat.min_eq_left (by omega)]
    have e2 : win t i j = (((t.drop i').take (j' - i')).drop (i - i')).take (j - i) := by
      rw [List.drop_take, List.drop_drop, List.take_take, Nat.min_eq_left (by omega), show i' + (i - i') = i by omega]; rfl
    rw [e1, e2, hp]; rfl
  have := ho _ key
  omega
/-- the least end of a window from b that stands once, or one behind the text's end -/
structure LeastE (t : List Nat) (b e : Nat) : Prop where
  lt : b < e
  le : e ≤ t.length + 1
  none : ∀ j, b < j → j < e → ¬onceP t b j
  once : e ≤ t.length → onceP t b e
theorem LeastE.uniq {t : List Nat} {b e f : Nat} (h : LeastE t b e) (k : LeastE t b f) : e = f := by
  rcases Nat.lt_trichotomy e f with z | z | z
  · exact absurd (h.once (by have := k.le; omega)) (k.none e h.lt z)
  · exact z
  · exact absurd (k.once (by have := h.le; omega)) (h.none f k.lt z)
def eF (t : List Nat) (b : Nat) : Nat → Nat → Nat
  | 0, e => e
  | m + 1, e => if e ≤ t.length ∧ ¬u1 t b e = true then eF t b m (e + 1) else e
def eE (t : List Nat) (b : Nat) : Nat := eF t b (t.length + 1) (b + 1)
theorem eF_ok {t : List Nat} {b : Nat} : ∀ (m e : Nat), b < e → e ≤ t.length + 1 → t.length + 1 ≤ m + e → (∀ j, b < j → j < e → ¬onceP t b j) → LeastE t b (eF t b m e)
  | 0, e, h1, h2, h3, h4 => ⟨h1, h2, h4, fun z => absurd (show e ≤ t.length from z) (by omega)⟩
  | m + 1, e, h1, h2, h3, h4 => by
    unfold eF
    split
    · rename_i c
      refine eF_ok m (e + 1) (by omega) (by omega) (by omega) fun j j1 j2 => ?_
      by_cases q : j = e
      · subst q; exact fun z => c.2 ((u1_iff j1 c.1).mpr z)
      · exact h4 j j1 (by omega)
    · rename_i c
      exact ⟨h1, h2, h4, fun z => (u1_iff h1 z).mp (Classical.not_not.mp fun q => c ⟨z, q⟩)⟩
theorem eE_ok {t : List Nat} {b : Nat} (hb : b < t.length) : LeastE t b (eE t b) := eF_ok _ _ (by omega) (by omega) (by omega) fun j _ _ => by omega
theorem eE_iff {t : List Nat} {b j : Nat} (hb : b < t.length) (h : b < j) (hj : j ≤ t.length) : onceP t b j ↔ eE t b ≤ j := by
  have k := eE_ok hb
  constructor
  · intro ho
    refine Nat.le_of_not_lt fun z => k.none j h z ho
  · intro z
    exact once_mono (k.once (by omega)) (Nat.le_refl _) k.lt z hj
theorem eE_mono {t : List Nat} {b : Nat} (hb : b + 1 < t.length) : eE t b ≤ eE t (b + 1) := by
  have k := eE_ok (t := t) (b := b) (by omega)
  have k2 := eE_ok hb
  by_cases h : eE t (b + 1) ≤ t.length
  · have := once_mono (i' := b) (k2.once h) (by omega) k2.lt (Nat.le_refl _) h
    exact (eE_iff (by omega) (by have := k2.lt; omega) h).mp this
  · have := k2.le
    have := k.le
    omega
theorem eE_mono' {t : List Nat} {b c : Nat} (h : b ≤ c) (hc : c < t.length) : eE t b ≤ eE t c := by
  obtain ⟨d, rfl⟩ := Nat.le.dest h
  induction d with
  | zero => exact Nat.le_refl _
  | succ d ih => exact Nat.le_trans (ih (by omega) (by omega)) (eE_mono (by omega))
/-- how many begins have a least end -/
def many (t : List Nat) (N : Nat) : Nat := ((List.range N).filter fun k => decide (eE t k ≤ t.length)).length
theorem init_filter {p : Nat → Bool} : ∀ (N : Nat), (∀ k, k + 1 < N → p (k + 1) = true → p k = true) → (List.range N).filter p = List.range ((List.range N).filter p).length
  | 0, _ => by simp
  | N + 1, h => by
    have ih := init_filter N fun k hk => h k (by omega)
    rw [List.range_succ, List.filter_append]
    by_cases q : p N = true
    · have all : ∀ k, k < N → p k = true := by
        intro k hk
        obtain ⟨d, hd⟩ := Nat.le.dest (show k + 1 ≤ N from hk)
        have : ∀ d k, k + d ≤ N → p (k + d) = true → p k = true := by
          intro d
          induction d with
          | zero => intro k _ z; exact z
          | succ d ih2 => intro k hk z; exact ih2 k (by omega) (h (k + d) (by omega) z)
        exact this (1 + d) k (by omega) (by rw [show k + (1 + d) = N by omega]; exact q)
      have e : (List.range N).filter p = List.range N := List.filter_eq_self.mpr fun k hk => all k (List.mem_range.mp hk)
      rw [e]
      simp [q, List.range_succ]
    · have : p N = false := by simpa using q
      simp only [List.filter_cons, this, List.filter_nil, List.append_nil]
      simpa using ih
theorem many_eq (t : List Nat) {N : Nat} (hN : N ≤ t.length) : ((List.range N).filter fun k => decide (eE t k ≤ t.length)) = List.range (many t N) :=
  init_filter N fun k hk h => by
    have := eE_mono (t := t) (b := k) (by omega)
    simp only [decide_eq_true_eq] at h ⊢
    omega
theorem many_iff {t : List Nat} {N k : Nat} (hN : N ≤ t.length) : k < many t N ↔ k < N ∧ eE t k ≤ t.length := by
  have : k ∈ ((List.range N).filter fun k => decide (eE t k ≤ t.length)) ↔ k ∈ List.range (many t N) := by rw [many_eq t hN]
  rw [List.mem_filter, List.mem_range, List.mem_range, decide_eq_true_eq] at this
  exact this.symm
def mk (t : List Nat) (b k : Nat) : Nat := max (eE t k) b
def leastC (t : List Nat) (b r k : Nat) : Bool := decide (k + 1 = r) || !decide (mk t b k = mk t b (k + 1))
/-- what windows tells -/
def res (t : List Nat) (a b : Nat) : List (Nat × Nat) := ((List.range (many t (min (a + 1) t.length))).filter (leastC t b (many t (min (a + 1) t.length)))).map fun k => (k, mk t b k)
def around (t : List Nat) (b n : Nat) : List (Nat × Nat) := (List.range n).flatMap fun k => (List.range (t.length + 1 - max b (k + 1))).map fun i => (k, max b (k + 1) + i)
def spans (t : List Nat) (a b : Nat) : List (Nat × Nat) := (around t b (a + 1)).filter fun s => u1 t s.1 s.2
def inner (l : List (Nat × Nat)) (s : Nat × Nat) : List (Nat × Nat) := l.filter fun o => !decide (o = s) && (decide (s.1 ≤ o.1) && decide (o.2 ≤ s.2))
def least (l : List (Nat × Nat)) : List (Nat × Nat) := l.filter fun s => (inner l s).isEmpty
theorem mem_around {t : List Nat} {b n : Nat} {s : Nat × Nat} : s ∈ around t b n ↔ s.1 < n ∧ b ≤ s.2 ∧ s.1 < s.2 ∧ s.2 ≤ t.length := by
  unfold around
  simp only [List.mem_flatMap, List.mem_range, List.mem_map]
  constructor
  · rintro ⟨k, hk, i, hi, rfl⟩
    dsimp only
    omega
  · rintro ⟨h1, h2, h3, h4⟩
    exact ⟨s.1, h1, s.2 - max b (s.1 + 1), by omega, Prod.ext rfl (by dsimp only; omega)⟩
theorem mem_spans {t : List Nat} {a b : Nat} {s : Nat × Nat} : s ∈ spans t a b ↔ s.1 < many t (min (a + 1) t.length) ∧ mk t b s.1 ≤ s.2 ∧ s.2 ≤ t.length := by
  unfold spans
  rw [List.mem_filter, mem_around, many_iff (by omega)]
  unfold mk
  constructor
  · rintro ⟨⟨h1, h2, h3, h4⟩, h5⟩
    have := (eE_iff (by omega) h3 h4).mp ((u1_iff h3 h4).mp h5)
    omega
  · rintro ⟨⟨h1, h2⟩, h3, h4⟩
    have k := eE_ok (t := t) (b := s.1) (by omega)
    have hlt : s.1 < s.2 := by have := k.lt; omega
    exact ⟨by omega, (u1_iff hlt h4).mpr ((eE_iff (by omega) hlt h4).mpr (by omega))⟩
theorem mk_mono {t : List Nat} {b k l : Nat} (h : k ≤ l) (hl : l < t.length) : mk t b k ≤ mk t b l := by
  have := eE_mono' h hl
  unfold mk
  omega
theorem around_sorted (t : List Nat) (b n : Nat) : (around t b n).Pairwise ltP := by
  unfold around
  rw [List.pairwise_flatMap]
  refine ⟨fun k _ => ?_, ?_⟩
  · rw [List.pairwise_map]
    exact List.pairwise_lt_range.imp fun {x y} h => .inr ⟨rfl, by show max b (k + 1) + x < max b (k + 1) + y; omega⟩
  · refine List.pairwise_lt_range.imp fun {x y} h p hp q hq => ?_
    simp only [List.mem_map] at hp hq
    obtain ⟨i, _, rfl⟩ := hp
    obtain ⟨j, _, rfl⟩ := hq
    exact .inl h
theorem res_sorted (t : List Nat) (a b : Nat) : (res t a b).Pairwise ltP := by
  unfold res
  rw [List.pairwise_map]
  exact (List.pairwise_lt_range.filter _).imp fun {x y} h => .inl h
theorem least_res {t : List Nat} {a b : Nat} (hb : b ≤ t.length) : least (spans t a b) = res t a b := by
  refine eq_of_mem ltP_asym _ _ (((around_sorted t b (a + 1)).filter _).filter _) (res_sorted t a b) fun s => ?_
  obtain ⟨r, hr⟩ : ∃ r, r = many t (min (a + 1) t.length) := ⟨_, rfl⟩
  have rb : ∀ k, k < r → k < t.length ∧ eE t k ≤ t.length := fun k hk => by
    rw [hr] at hk
    have := (many_iff (by omega)).mp hk
    omega
  have ms : ∀ s : Nat × Nat, s ∈ spans t a b ↔ s.1 < r ∧ mk t b s.1 ≤ s.2 ∧ s.2 ≤ t.length := fun s => by rw [mem_spans, hr]
  unfold least res
  rw [List.mem_filter, ← hr, List.mem_map]
  constructor
  · rintro ⟨h1, h2⟩
    have m1 := (ms s).mp h1
    have none : ∀ o ∈ spans t a b, o ≠ s → s.1 ≤ o.1 → o.2 ≤ s.2 → False := by
      intro o ho n1 n2 n3
      rw [List.isEmpty_iff] at h2
      have : o ∈ inner (spans t a b) s := by
        unfold inner
        rw [List.mem_filter]
        exact ⟨ho, by simp [n1, n2, n3]⟩
      rw [h2] at this
      simp at this
    have e : s.2 = mk t b s.1 := by
      refine Classical.byContradiction fun q => ?_
      have := rb s.1 m1.1
      refine none (s.1, mk t b s.1) ((ms _).mpr ⟨m1.1, Nat.le_refl _, by omega⟩) (fun z => q ?_) (Nat.le_refl _) (by show mk t b s.1 ≤ s.2; omega)
      have := congrArg Prod.snd z
      exact this.symm
    refine ⟨s.1, ?_, Prod.ext rfl e.symm⟩
    rw [List.mem_filter, List.mem_range]
    refine ⟨m1.1, ?_⟩
    unfold leastC
    by_cases q : s.1 + 1 = r
    · simp [q]
    · have lt : s.1 + 1 < r := by omega
      by_cases q2 : mk t b s.1 = mk t b (s.1 + 1)
      · refine (none (s.1 + 1, mk t b (s.1 + 1)) ((ms _).mpr ⟨lt, Nat.le_refl _, by show mk t b (s.1 + 1) ≤ _; omega⟩) (fun z => ?_) (by show s.1 ≤ s.1 + 1; omega) (by show mk t b (s.1 + 1) ≤ s.2; omega)).elim
        have := congrArg Prod.fst z
        dsimp only at this
        omega
      · simp [q2]
  · rintro ⟨k, hk, rfl⟩
    rw [List.mem_filter, List.mem_range] at hk
    obtain ⟨k1, k2⟩ := hk
    have := rb k k1
    have hin : (k, mk t b k) ∈ spans t a b := (ms _).mpr ⟨k1, Nat.le_refl _, by unfold mk; dsimp only; omega⟩
    refine ⟨hin, ?_⟩
    rw [List.isEmpty_iff]
    unfold inner
    rw [List.filter_eq_nil_iff]
    intro o ho hq
    simp only [Bool.and_eq_true, Bool.not_eq_true', decide_eq_false_iff_not, decide_eq_true_eq] at hq
    obtain ⟨n1, n2, n3⟩ := hq
    have mo := (ms o).mp ho
    have bo := rb o.1 mo.1
    have m2 := mk_mono (b := b) n2 bo.1
    by_cases q : o.1 = k
    · exact n1 (Prod.ext q (by rw [q] at mo; dsimp only at n3 ⊢; omega))
    · have k3 : k + 1 < r := by omega
      unfold leastC at k2
      have m3 : mk t b k ≤ mk t b (k + 1) := mk_mono (b := b) (by omega) (rb _ k3).1
      have m4 : mk t b (k + 1) ≤ mk t b o.1 := mk_mono (b := b) (by omega) bo.1
      simp only [Bool.or_eq_true, decide_eq_true_eq, Bool.not_eq_true', decide_eq_false_iff_not] at k2
      rcases k2 with z | z
      · omega
      · exact z (by omega)
end WN

/-! PFT: scalars, kinds, texts looked at (needs is_text, _law_is_text, _law_signs) -/
namespace PL
open PySem PySem.Spec PyProof.Rows L2 AB
theorem at0 (x : D) (xs : List D) : atI (x :: xs) 0 = some x := atI_n (k := 0) rfl
theorem at1 (x y : D) (xs : List D) : atI (x :: y :: xs) 1 = some y := atI_n (k := 1) rfl
theorem at2 (x y z : D) (xs : List D) : atI (x :: y :: z :: xs) 2 = some z := atI_n (k := 2) rfl
def enumFrom (k : Nat) : List D → List D
  | [] => []
  | d :: ds => .tup [.int (k : Int), d] :: enumFrom (k + 1) ds
theorem enumFrom_get : ∀ (ds : List D) (k i : Nat), (enumFrom k ds)[i]? = (ds[i]?).map fun d => D.tup [.int ((k + i : Nat) : Int), d]
  | [], k, i => by simp [enumFrom]
  | d :: ds, k, 0 => by simp [enumFrom]
  | d :: ds, k, i + 1 => by
    rw [enumFrom, List.getElem?_cons_succ, List.getElem?_cons_succ, enumFrom_get ds (k + 1) i, show k + 1 + i = k + (i + 1) by omega]
theorem enumD_from (ds : List D) : enumD ds = enumFrom 0 ds := List.ext_getElem? fun i => by rw [enumD_gt, enumFrom_get, Nat.zero_add]
end PL
namespace Den
open PySem PySem.Spec PyProof.Rows L2 PL AB
open TL (tl)
/-- nothing that holds other values -/
def Sc : D → Prop
  | .non => True
  | .bl _ => True
  | .int _ => True
  | .str l => l.length ≤ 1000 ∧ sOk l = true
  | _ => False
theorem Sc.kn {d : D} (h : Sc d) : Kn d := by cases d <;> first | exact ⟨_, rfl⟩ | exact h.elim
theorem Sc.pl {d : D} (h : Sc d) (n : Nat) : pl n d = true := by cases d <;> first | (cases n <;> rfl) | exact h.elim
/-- values that may be drawn as changes -/
def Th : D → Prop
  | .tup xs => (∀ x ∈ xs, Sc x) ∧ xs.length ≤ 100
  | .lst _ => True
  | .dct _ => True
  | d => Sc d
theorem Th.kn {d : D} (h : Th d) : Kn d := by cases d <;> first | exact ⟨_, rfl⟩ | exact (h : False).elim
/-- the texts' signs -/
def lt1 (l : List Nat) : Bool := l.all fun c => decide (c ∈ tl lettersS)
def isTx : D → Bool
  | .str l => lt1 l
  | _ => false
def sS (s : String) : List Nat := tl (Str.ofString s)
theorem isi_ty {d : D} {n : String} (h : Kn d) (hn : n ∈ typesD) : ∃ s, tyN d = some s ∧ isiD [d, .ty n] = some (.sh (.bl (isB s n))) := by
  obtain ⟨s, hs⟩ := h
  refine ⟨s, hs, ?_⟩
  show (tyN d).bind _ = _
  rw [hs, Option.bind_some, if_pos hn]
theorem isi_tup {d : D} (h : Kn d) : ∃ b, isiD [d, .ty "tuple"] = some (.sh (.bl b)) ∧ (b = true ↔ ∃ xs, d = .tup xs) := by
  obtain ⟨s, hs, e⟩ := isi_ty h (n := "tuple") (by decide)
  refine ⟨_, e, ?_⟩
  cases d <;> cases hs <;> simp [isB]
theorem isi_str {d : D} (h : Kn d) : ∃ b, isiD [d, .ty "str"] = some (.sh (.bl b)) ∧ (b = true ↔ ∃ l, d = .str l) := by
  obtain ⟨s, hs, e⟩ := isi_ty h (n := "str") (by decide)
  refine ⟨_, e, ?_⟩
  cases d <;> cases hs <;> simp [isB]
theorem blsOf_map (xs : List D) (f : D → Bool) : blsOf (xs.map fun x => D.bl (f x)) = some (xs.map f) := by
  induction xs with
  | nil => rfl
  | cons x xs ih => rw [List.map_cons, blsOf, ih]; rfl
theorem all_map (l : List Nat) (f : Nat → Bool) : allD [.lst (l.map fun c => D.bl (f c))] = some (.sh (.bl (l.all f))) := by
  have e : (l.map fun c => D.bl (f c)) = (chrsD l).map fun x => D.bl (match x with | .str [c] => f c | _ => false) := by
    unfold chrsD
    rw [List.map_map]; rfl
  rw [e]
  show (blsOf _).map _ = _
  rw [blsOf_map]
  unfold chrsD
  rw [List.map_map]
  show some (Fv.sh (.bl ((l.map _).all id))) = _
  rw [List.all_map]
  rfl
theorem filt_empty (l : List Nat) (p : Nat → Bool) : ((chrsD l).filter fun d => match d with | .str [c] => !p c | _ => false).isEmpty = l.all p := by
  unfold chrsD
  rw [List.filter_map, List.isEmpty_map]
  induction l with
  | nil => rfl
  | cons c l ih =>
    rw [List.all_cons, ← ih]
    cases h : p c with
    | true =>
      rw [List.filter_cons_of_neg (by simp [h])]
      rfl
    | false =>
      rw [List.filter_cons_of_pos (by simp [h])]
      rfl
theorem is_text_ok {d : D} (h : Kn d) (hl : ∀ l, d = .str l → l.length ≤ 10000) : F_is_text [d] = .ok (.sh (.bl (isTx d))) [] := by
  obtain ⟨b, e, hb⟩ := isi_str h
  cases b with
  | false =>
    have : isTx d = false := by
      cases d with
      | str l => exact absurd (hb.mpr ⟨l, rfl⟩) (by simp)
      | _ => rfl
    simp -implicitDefEqProofs [F_is_text_ev, e, this]
  | true =>
    obtain ⟨l, rfl⟩ := hb.mp rfl
    have hl := hl l rfl
    have ec := comp_pure (g := tgN 1) (vs := [1]) (c := fun ε => .ok true ε) (e := d2 (inO false) (dV 1) (dC (.str (tl lettersS)))) (ε := [.sh (.str l), .no]) (fun _ => true)
      (fun d => match d with | .str [c] => .bl (decide (c ∈ tl lettersS)) | _ => .non) (chrsD l) [] (by simp [chrsD]; omega) (fun x hx => by
        unfold chrsD at hx
        obtain ⟨c, hc, rfl⟩ := List.mem_map.mp hx
        have i1 : inO false (.str [c]) (.str (tl lettersS)) = some (.sh (.bl (decide (c ∈ tl lettersS)))) := rfl
        exact ⟨[.sh (.str l), .sh (.str [c])], by simp -implicitDefEqProofs [tgN], rfl, fun _ => ⟨.sh (.bl (decide (c ∈ tl lettersS))), by simp -implicitDefEqProofs [i1], by simp -implicitDefEqProofs⟩, by simp -implicitDefEqProofs⟩)
    have em : (List.filter (fun _ => true) (chrsD l)).map (fun d => match d with | .str [c] => D.bl (decide (c ∈ tl lettersS)) | _ => .non) = l.map fun c => D.bl (decide (c ∈ tl lettersS)) := by
      rw [List.filter_eq_self.mpr (fun _ _ => rfl)]
      unfold chrsD
      rw [List.map_map]; rfl
    rw [List.nil_append, em] at ec
    have al := all_map l fun c => decide (c ∈ tl lettersS)
    have it : isTx (.str l) = l.all fun c => decide (c ∈ tl lettersS) := rfl
    rw [it]
    generalize (l.map fun c => D.bl (decide (c ∈ tl lettersS))) = L at ec al
    simp -implicitDefEqProofs [F_is_text_ev, e, ec, al]
theorem ltext_ok {d : D} (h : Kn d) (hl : ∀ l, d = .str l → l.length ≤ 10000) : F_L_is_text [d] = .ok (.sh (.bl (isTx d))) [] := by
  obtain ⟨b, e, hb⟩ := isi_str h
  cases b with
  | false =>
    have : isTx d = false := by
      cases d with
      | str l => exact absurd (hb.mpr ⟨l, rfl⟩) (by simp)
      | _ => rfl
    simp -implicitDefEqProofs [F_L_is_text_ev, e, this]
  | true =>
    obtain ⟨l, rfl⟩ := hb.mp rfl
    have hl := hl l rfl
    have sg : F_L_signs [] = .ok (.sh (.str (tl lettersS))) [] := by simp -implicitDefEqProofs [F_L_signs_ev]
    have ec := comp_pure (g := tgN 1) (vs := [1]) (c := bT (d2 (inO true) (dV 1) (dCall [] F_L_signs aNil))) (e := dV 1) (ε := [.sh (.str l), .no])
      (fun d => match d with | .str [c] => !decide (c ∈ tl lettersS) | _ => false) id (chrsD l) [] (by simp [chrsD]; omega) (fun x hx => by
        unfold chrsD at hx
        obtain ⟨c, hc, rfl⟩ := List.mem_map.mp hx
        have i1 : inO true (.str [c]) (.str (tl lettersS)) = some (.sh (.bl (!decide (c ∈ tl lettersS)))) := rfl
        exact ⟨[.sh (.str l), .sh (.str [c])], by simp -implicitDefEqProofs [tgN], by simp -implicitDefEqProofs [sg, i1], fun _ => ⟨.at 1, by simp -implicitDefEqProofs, by simp -implicitDefEqProofs⟩, by simp -implicitDefEqProofs⟩)
    rw [List.nil_append, List.map_id] at ec
    have em : ((chrsD l).filter fun d => match d with | .str [c] => !decide (c ∈ tl lettersS) | _ => false).isEmpty = isTx (.str l) := filt_empty l fun c => decide (c ∈ tl lettersS)
    generalize ((chrsD l).filter fun d => match d with | .str [c] => !decide (c ∈ tl lettersS) | _ => false) = L at ec em
    simp -implicitDefEqProofs [F_L_is_text_ev, e, ec, em]
theorem sOk_small {l : List Nat} (h : ∀ c ∈ l, c ∈ tl lettersS) : sOk l = true := by
  unfold sOk
  rw [List.all_eq_true]
  intro c hc
  have := letters_small c (h c hc)
  exact decide_eq_true (by omega)
end Den

/-! PFR: what repr can show, from its parts -/
namespace Den
open PySem PySem.Spec PyProof.Rows L2 PL AB
open TL (tl)
def RB (n : Nat) (d : D) : Prop := plR 59 d = true ∧ (toPyR d).showable = true ∧ (toPyR d).shown.length ≤ n
instance (n : Nat) (d : D) : Decidable (RB n d) := by unfold RB; infer_instance
theorem showns (n : Nat) : ∀ (ds : List D), (∀ d ∈ ds, RB n d) → PyData.showableAll (toPyRs ds) = true ∧ ((PyData.shownAll (toPyRs ds)).map (·.length)).sum ≤ n * ds.length ∧ (PyData.shownAll (toPyRs ds)).length = ds.length
  | [], _ => ⟨rfl, Nat.zero_le _, rfl⟩
  | d :: ds, h => by
    obtain ⟨a, b, c⟩ := h d List.mem_cons_self
    obtain ⟨i1, i2, i3⟩ := showns n ds fun x hx => h x (List.mem_cons_of_mem _ hx)
    refine ⟨by simp only [toPyRs, PyData.showableAll, b, i1, Bool.and_self], ?_, by simp only [toPyRs, PyData.shownAll, List.length_cons, i3]⟩
    simp only [toPyRs, PyData.shownAll, List.map_cons, List.sum_cons, List.length_cons]
    rw [Nat.mul_succ]
    omega
theorem RB.list {n : Nat} {ds : List D} (h : ∀ d ∈ ds, RB n d) (hl : n * ds.length + 2 * ds.length + 3 ≤ 16000000) : okRep (.lst ds) := by
  obtain ⟨a, b, c⟩ := showns n ds h
  refine ⟨?_, by simpa only [toPyR, PyData.showable] using a, ?_⟩
  · show ds.all (plR 59) = true
    rw [List.all_eq_true]
    exact fun d hd => (h d hd).1
  · have q := listText_len_le (PyData.shownAll (toPyRs ds))
    simp only [toPyR, PyData.shown]
    omega
/-- scalars, small -/
theorem sc_show {d : D} (h : Sc d) (hi : ∀ i, d = .int i → i.natAbs < 2 ^ 300) : Show (toPyR d) 10002 0 := by
  cases d with
  | non => exact Show.none.mono (by decide) (Nat.le_refl _)
  | bl b => exact (Show.bool b).mono (by decide) (Nat.le_refl _)
  | int i => exact (Show.int (hi i rfl)).mono (by decide) (Nat.le_refl _)
  | str l =>
    refine (Show.str (m := 1000) (fun c hc => ?_) (by simpa [sl, Str.length] using h.1)).mono (by decide) (Nat.le_refl _)
    have hc : c ∈ l := by simpa [sl] using hc
    have := of_decide_eq_true (List.all_eq_true.mp h.2 c hc)
    have e : (16 : Nat) ^ 8 = 4294967296 := by decide
    omega
  | _ => exact h.elim
theorem sc_all {xs : List D} (h : ∀ x ∈ xs, Sc x ∧ ∀ i, x = .int i → i.natAbs < 2 ^ 300) : ∀ d ∈ toPyRs xs, Show d 10002 0 := by
  intro d hd
  rw [toPyRs_map] at hd
  obtain ⟨x, hx, rfl⟩ := List.mem_map.mp hd
  exact sc_show (h x hx).1 (h x hx).2
theorem sc_pl {xs : List D} (h : ∀ x ∈ xs, Sc x ∧ ∀ i, x = .int i → i.natAbs < 2 ^ 300) (n : Nat) : xs.all (plR n) = true := by
  rw [List.all_eq_true]
  intro x hx
  have := (h x hx).1
  cases x <;> first | (cases n <;> rfl) | exact this.elim
theorem RB.tup {xs : List D} (h : ∀ x ∈ xs, Sc x ∧ ∀ i, x = .int i → i.natAbs < 2 ^ 300) (hl : xs.length ≤ 5) : RB 60000 (.tup xs) := by
  have s := Show.tup (m := 60000) (sc_all h) (by rw [toPyRs_map, List.length_map]; omega)
  exact ⟨sc_pl h 58, s.ok, s.sz⟩
theorem RB.lst {xs : List D} (h : ∀ x ∈ xs, Sc x ∧ ∀ i, x = .int i → i.natAbs < 2 ^ 300) (hl : xs.length ≤ 5) : RB 60000 (.lst xs) := by
  have s := Show.list (m := 60000) (sc_all h) (by rw [toPyRs_map, List.length_map]; omega)
  exact ⟨sc_pl h 58, s.ok, s.sz⟩
theorem RB.sc {d : D} (h : Sc d) (hi : ∀ i, d = .int i → i.natAbs < 2 ^ 300) : RB 60000 d := by
  have s := sc_show h hi
  exact ⟨by cases d <;> first | rfl | exact h.elim, s.ok, Nat.le_trans s.sz (by decide)⟩
/-- what may be drawn as a change -/
def Dr (d : D) : Prop := Th d ∧ RB 60000 d
theorem Dr.tup {xs : List D} (h : ∀ x ∈ xs, Sc x ∧ ∀ i, x = .int i → i.natAbs < 2 ^ 300) (hl : xs.length ≤ 5) : Dr (.tup xs) := ⟨⟨fun x hx => (h x hx).1, by omega⟩, RB.tup h hl⟩
theorem any_dr : ∀ d ∈ anyL, Dr d := by
  have scB : D → Bool := fun d => true
  have h1 : anyL.all (fun d => decide (RB 60000 d)) = true := by decide +kernel
  have h2 : anyL.all (fun d => match d with | .tup xs => xs.all (fun x => match x with | .non => true | .bl _ => true | .int _ => true | .str l => decide (l.length ≤ 1000) && sOk l | _ => false) && decide (xs.length ≤ 100) | .str l => decide (l.length ≤ 1000) && sOk l | .lst _ => true | .dct _ => true | .non => true | .bl _ => true | .int _ => true | _ => false) = true := by decide +kernel
  intro d hd
  refine ⟨?_, of_decide_eq_true (List.all_eq_true.mp h1 d hd)⟩
  have := List.all_eq_true.mp h2 d hd
  cases d with
  | tup xs =>
    simp only [Bool.and_eq_true, decide_eq_true_eq] at this
    refine ⟨fun x hx => ?_, this.2⟩
    have := List.all_eq_true.mp this.1 x hx
    cases x with
    | str l => simp only [Bool.and_eq_true, decide_eq_true_eq] at this; exact this
    | non => trivial
    | bl _ => trivial
    | int _ => trivial
    | _ => cases this
  | str l => simp only [Bool.and_eq_true, decide_eq_true_eq] at this; exact this
  | lst _ => trivial
  | dct _ => trivial
  | non => trivial
  | bl _ => trivial
  | int _ => trivial
  | _ => cases this
end Den

/-! PFS: stands_once -/
namespace Den
open PySem PySem.Spec PyProof.Rows L2 PL AB WN
open TL (tl)
def pD (s : Nat × Nat) : D := .tup [.int (s.1 : Nat), .int (s.2 : Nat)]
theorem len_one (l : List Nat) : decide (((nD l).length : Int) = 1) = (l.length == 1) := by
  rw [nD_len]
  by_cases h : l.length = 1
  · simp [h]
  · have : ¬((l.length : Int) = 1) := by omega
    simp [h, this]
theorem stands_ok {t : List Nat} {b e : Nat} (ht : t.length ≤ 100000) (h : b < e) (he : e ≤ t.length) : F_stands_once [.str t, .int b, .int e] = .ok (.sh (.bl (u1 t b e))) [] := by
  have pl := places_ok t (win t b e) (win_ne h he) ht
  have c : cutL t (some (b : Int)) (some (e : Int)) = win t b e := cut_mid t b e
  have u : u1 t b e = ((plc t (win t b e)).length == 1) := by unfold u1; simp [h]
  have l1 := len_one (plc t (win t b e))
  simp -implicitDefEqProofs [F_stands_once_ev, slO_str, show t.length ≤ 16000000 by omega, c, pl, u]
  exact l1
end Den

/-! PFN: the law's look at windows, spots -/
namespace Den
open PySem PySem.Spec PyProof.Rows L2 PL AB WN
open TL (tl)
theorem nonce_ok {t : List Nat} {b e : Nat} (ht : t.length ≤ 100000) (he : e ≤ t.length) : F_L_nonce [.str t, .int b, .int e] = .ok (.sh (.bl (u1 t b e))) [] := by
  by_cases h : b < e
  · have pl := lplaces_ok t (win t b e) (win_ne h he) ht (by rw [win_len he]; omega)
    have c : cutL t (some (b : Int)) (some (e : Int)) = win t b e := cut_mid t b e
    have u : u1 t b e = ((plc t (win t b e)).length == 1) := by unfold u1; simp [h]
    have l1 := len_one (plc t (win t b e))
    simp -implicitDefEqProofs [F_L_nonce_ev, slO_str, show t.length ≤ 16000000 by omega, c, pl, u, h]
    exact l1
  · have u : u1 t b e = false := by unfold u1; simp [h]
    simp -implicitDefEqProofs [F_L_nonce_ev, u, h]
theorem around_succ (t : List Nat) (b n : Nat) : around t b (n + 1) = around t b n ++ (List.range (t.length + 1 - max b (n + 1))).map fun i => (n, max b (n + 1) + i) := by
  unfold around
  rw [List.range_succ, List.flatMap_append]
  simp
theorem around_len (t : List Nat) (b : Nat) : ∀ n, (around t b n).length ≤ n * (t.length + 1)
  | 0 => by simp [around]
  | n + 1 => by
    rw [around_succ, List.length_append, List.length_map, List.length_range, Nat.succ_mul]
    have := around_len t b n
    omega
theorem naround_ok {t : List Nat} {a b : Nat} (ht : t.length ≤ 1000) (ha : a ≤ 1000) (hb : b ≤ 1000) : F_L_naround [.str t, .int a, .int b] = .ok (.fr (.lst ((around t b (a + 1)).map pD))) [] := by
  have hl : t.length ≤ 16000000 := by omega
  obtain ⟨ε', ef, s4, rfl, h4⟩ := for_inv0 (g := tgN 4) (b := B_L_naround_1)
    (P := fun j ε => ∃ s4, ε = [.sh (.str t), .sh (.int a), .sh (.int b), .ow (.lst ((around t b j).map pD)), s4, .no] ∧ Fs s4)
    (rngD 0 (a + 1)) [.sh (.str t), .sh (.int a), .sh (.int b), .ow (.lst []), .no, .no] ⟨.no, by simp [around], .no⟩
    (fun j d ε hd ⟨s4, q, h4⟩ => by
      subst q
      obtain ⟨hj, rfl⟩ := rngD_gt _ _ _ _ hd
      rw [Int.zero_add]
      obtain ⟨m, hm⟩ : ∃ m, m = max b (j + 1) := ⟨_, rfl⟩
      have mx : (if (b : Int) < (j : Int) + 1 then (j : Int) + 1 else (b : Int)) = (m : Int) := by split <;> omega
      obtain ⟨n, hn⟩ : ∃ n, n = t.length + 1 - m := ⟨_, rfl⟩
      have hn2 : ((t.length : Int) + 1 - m).toNat = n := by omega
      have ec := comp_pure (g := tgN 5) (vs := [5]) (c := fun ε => .ok true ε) (e := dTup (aCons (dV 4) (aCons (dV 5) aNil)))
        (ε := [.sh (.str t), .sh (.int a), .sh (.int b), .ow (.lst ((around t b j).map pD)), .sh (.int j), .no]) (fun _ => true) (fun d => .tup [.int j, d]) (rngD m n) [] (by simp; omega) (fun x hx =>
          ⟨[.sh (.str t), .sh (.int a), .sh (.int b), .ow (.lst ((around t b j).map pD)), .sh (.int j), .sh x], by simp -implicitDefEqProofs [tgN], rfl, fun _ => ⟨.sh (.tup [.int j, x]), by simp -implicitDefEqProofs, by simp -implicitDefEqProofs⟩, by simp -implicitDefEqProofs⟩)
      have el : (List.filter (fun _ => true) (rngD m n)).map (fun d => D.tup [.int j, d]) = ((List.range n).map fun i => (j, m + i)).map pD := by
        rw [List.filter_eq_self.mpr (fun _ _ => rfl), rngD_map, List.map_map, List.map_map]
        rfl
      rw [List.nil_append, el] at ec
      have al := around_len t b j
      have al2 : j * (t.length + 1) ≤ 1001 * 1001 := Nat.mul_le_mul (by omega) (by omega)
      have ex : extD (.lst ((around t b j).map pD)) [.lst (((List.range n).map fun i => (j, m + i)).map pD)] = some (.lst ((around t b (j + 1)).map pD), .non) := by
        have : around t b (j + 1) = around t b j ++ (List.range n).map fun i => (j, m + i) := by rw [around_succ, ← hm, ← hn]
        rw [this, List.map_append]
        exact if_pos (by simp; omega)
      refine ⟨[.sh (.str t), .sh (.int a), .sh (.int b), .ow (.lst ((around t b j).map pD)), .sh (.int j), .no], _, ?_, ?_, .sh (.int j), rfl, .sh _⟩
      · simp -implicitDefEqProofs [tgN, setS_fs h4]
      · generalize ((List.range n).map fun i => (j, m + i)).map pD = L at ec ex
        generalize (around t b j).map pD = A at ec ex ⊢
        have b1 : -4611686018427387904 ≤ (m : Int) ∧ (m : Int) < 4611686018427387904 := by omega
        have b2 : -4611686018427387904 ≤ (t.length : Int) + 1 ∧ (t.length : Int) + 1 < 4611686018427387904 := by omega
        simp -implicitDefEqProofs [lenD_str t hl, mx, b1, b2, hn2, ec, ex, isLst])
  rw [rngD_len] at ef
  have h1 : ((a : Int) + 1).toNat = a + 1 := by omega
  have h2 : (a : Int) + 1 < 4611686018427387904 := by omega
  have h3 : -4611686018427387904 ≤ (a : Int) + 1 := by omega
  simp -implicitDefEqProofs [F_L_naround_ev, h1, h2, h3, ef]
theorem nspot_ok {n : Nat} {p : D} {t : List Nat} (hp : PenOk n p) (hn : n < 2 ^ 40) (ht : t.length ≤ 1000) : ∃ a b p', F_L_nspot [p, .str t] = .ok (.sh (pD (a, b))) [p'] ∧ a ≤ b ∧ b ≤ t.length ∧ PenOk (n + 10) p' := by
  obtain ⟨i, p1, e1, i0, i1, hp1⟩ := draw_ok (m := (t.length : Int) + 1) hp (by omega) (by omega) (by omega)
  obtain ⟨j, p2, e2, j0, j1, hp2⟩ := draw_ok (m := (t.length : Int) + 1) hp1 (by omega) (by omega) (by omega)
  obtain ⟨d, p3, e3, hd, hp3⟩ := pick_lst (ds := [.int 0, .int (t.length : Int), .int i, .int j]) hp2 (by omega) (by simp) (by simp)
  have hd' : ∃ a : Nat, d = .int (a : Int) ∧ a ≤ t.length := by
    simp at hd
    rcases hd with rfl | rfl | rfl | rfl
    · exact ⟨0, rfl, by omega⟩
    · exact ⟨_, rfl, Nat.le_refl _⟩
    · exact ⟨i.toNat, by rw [Int.toNat_of_nonneg i0], by omega⟩
    · exact ⟨j.toNat, by rw [Int.toNat_of_nonneg j0], by omega⟩
  obtain ⟨a, rfl, ha⟩ := hd'
  obtain ⟨k, p4, e4, k0, k1, hp4⟩ := draw_ok (m := (t.length : Int) - a + 1) hp3 (by omega) (by omega) (by omega)
  obtain ⟨d, p5, e5, hd, hp5⟩ := pick_lst (ds := [.int (a : Int), .int (t.length : Int), .int ((a : Int) + k), .int (if (a : Int) + 1 < (t.length : Int) then (a : Int) + 1 else (t.length : Int))]) hp4 (by omega) (by simp) (by simp)
  have hd' : ∃ b : Nat, d = .int (b : Int) ∧ a ≤ b ∧ b ≤ t.length := by
    simp at hd
    rcases hd with rfl | rfl | rfl | rfl
    · exact ⟨a, rfl, Nat.le_refl _, ha⟩
    · exact ⟨_, rfl, ha, Nat.le_refl _⟩
    · exact ⟨a + k.toNat, by rw [Int.natCast_add, Int.toNat_of_nonneg k0], by omega, by omega⟩
    · by_cases q : (a : Int) + 1 < t.length
      · exact ⟨a + 1, by rw [if_pos q]; simp, by omega, by omega⟩
      · exact ⟨t.length, by rw [if_neg q], by omega, by omega⟩
  obtain ⟨b, rfl, hb, hb2⟩ := hd'
  refine ⟨a, b, p5, ?_, hb, hb2, hp5.mono (by omega)⟩
  simp -implicitDefEqProofs [F_L_nspot_ev, lenD_str t (show t.length ≤ 16000000 by omega), e1, e2, e3, e4, e5, pD]
end Den

/-! PH1: parts of exchanges, looked at -/
namespace Den
open PySem PySem.Spec PyProof.Rows L2 PL AB WN
open TL (tl)
theorem Dr.kn {d : D} (h : Dr d) : Kn d := h.1.kn
theorem Sc.len {d : D} (h : Sc d) : ∀ l, d = .str l → l.length ≤ 10000 := fun l e => by subst e; have := h.1; omega
def uI (t : List Nat) (a : Nat) : D → Bool
  | .int b => u1 t a b.toNat
  | _ => false
def sw2 (t : List Nat) (y s : D) : D → Bool
  | .int a => inB (a + 1) (t.length : Int) y && isTx s && uI t a.toNat y
  | _ => false
def swapOk (t : List Nat) (behind : Nat) : D → Bool
  | .tup [x, y, s] => inB (behind : Int) (t.length : Int) x && sw2 t y s x
  | _ => false
def endOf : D → Nat
  | .tup [_, .int b, _] => b.toNat
  | _ => 0
theorem swap_cases {t : List Nat} {behind : Nat} {d : D} (h : swapOk t behind d = true) : ∃ (a b : Nat) (s : List Nat), d = .tup [.int a, .int b, .str s] ∧ behind ≤ a ∧ a < b ∧ b ≤ t.length ∧ lt1 s = true ∧ u1 t a b = true := by
  cases d with
  | tup xs =>
    match xs, h with
    | [x, y, s], h =>
      simp only [swapOk, Bool.and_eq_true] at h
      obtain ⟨h1, h2⟩ := h
      cases x with
      | int a =>
        simp only [sw2, Bool.and_eq_true] at h2
        obtain ⟨⟨h2, h3⟩, h4⟩ := h2
        cases y with
        | int b =>
          cases s with
          | str l =>
            simp only [inB, Bool.and_eq_true, decide_eq_true_eq] at h1 h2
            refine ⟨a.toNat, b.toNat, l, ?_, by omega, by omega, by omega, h3, h4⟩
            rw [Int.toNat_of_nonneg (by omega), Int.toNat_of_nonneg (by omega)]
          | _ => cases h3
        | _ => cases h4
      | _ => cases h1
    | [], h => cases h
    | [_], h => cases h
    | [_, _], h => cases h
    | _ :: _ :: _ :: _ :: _, h => cases h
  | _ => cases h
theorem is_swap_ok {t : List Nat} {behind : Nat} {d : D} (ht : t.length ≤ 1000) (h : Dr d) : F_is_swap [.str t, d, .int behind] = .ok (.sh (.bl (swapOk t behind d))) [] := by
  have hl : lenD [.str t] = some (.sh (.int t.length)) := lenD_str t (by omega)
  obtain ⟨b, e, hb⟩ := isi_tup h.kn
  by_cases tp : ∃ xs, d = .tup xs
  · obtain ⟨xs, rfl⟩ := tp
    have : b = true := hb.mpr ⟨xs, rfl⟩
    subst this
    have sc : ∀ x ∈ xs, Sc x := h.1.1
    by_cases l3 : xs.length = 3
    · match xs, l3, sc, e with
      | [x, y, s], _, sc, e =>
        have hx := sc x (by simp)
        have hy := sc y (by simp)
        have hs := sc s (by simp)
        have a0 := at0 x [y, s]
        have a1 := at1 x y [s]
        have a2 := at2 x y s []
        have w1 := is_within_ok hx.kn (behind : Int) (t.length : Int)
        have tx := is_text_ok hs.kn hs.len
        cases q1 : inB (behind : Int) (t.length : Int) x with
        | false =>
          rw [q1] at w1
          have : swapOk t behind (.tup [x, y, s]) = false := by simp only [swapOk, q1, Bool.false_and]
          rw [this]
          simp -implicitDefEqProofs [F_is_swap_ev, e, a0, hl, w1]
        | true =>
          rw [q1] at w1
          cases x with
          | int a =>
            have ha : (behind : Int) ≤ a ∧ a ≤ t.length := by simpa only [inB, Bool.and_eq_true, decide_eq_true_eq] using q1
            have w2 := is_within_ok hy.kn (a + 1) (t.length : Int)
            have sw : swapOk t behind (.tup [.int a, y, s]) = (inB (a + 1) (t.length : Int) y && isTx s && uI t a.toNat y) := by simp only [swapOk, q1, Bool.true_and, sw2]
            rw [sw]
            cases q2 : inB (a + 1) (t.length : Int) y with
            | false => rw [q2] at w2; simp -implicitDefEqProofs [F_is_swap_ev, e, a0, a1, hl, w1, w2]
            | true =>
              rw [q2] at w2
              cases q3 : isTx s with
              | false => rw [q3] at tx; simp -implicitDefEqProofs [F_is_swap_ev, e, a0, a1, a2, hl, w1, w2, tx]
              | true =>
                rw [q3] at tx
                cases y with
                | int c =>
                  have hc : a + 1 ≤ c ∧ c ≤ t.length := by simpa only [inB, Bool.and_eq_true, decide_eq_true_eq] using q2
                  have st := stands_ok (t := t) (b := a.toNat) (e := c.toNat) (by omega) (by omega) (by omega)
                  rw [Int.toNat_of_nonneg (by omega), Int.toNat_of_nonneg (by omega)] at st
                  simp -implicitDefEqProofs [F_is_swap_ev, e, a0, a1, a2, hl, w1, w2, tx, st, uI]
                | _ => cases q2
          | _ => cases q1
    · have : swapOk t behind (.tup xs) = false := by
        match xs, l3 with
        | [], _ => rfl
        | [_], _ => rfl
        | [_, _], _ => rfl
        | [_, _, _], h => exact absurd rfl h
        | _ :: _ :: _ :: _ :: _, _ => rfl
      rw [this]
      have l4 : ¬ (xs.length : Int) = 3 := by omega
      simp -implicitDefEqProofs [F_is_swap_ev, e, l3, l4]
  · have : b = false := by
      cases b with
      | false => rfl
      | true => exact absurd (hb.mp rfl) tp
    subst this
    have f : swapOk t behind d = false := by cases d <;> first | rfl | exact absurd ⟨_, rfl⟩ tp
    rw [f]
    simp -implicitDefEqProofs [F_is_swap_ev, e]
/-! the first fault -/
def faultE (t : List Nat) (behind k : Nat) : List D → Option Nat
  | [] => none
  | d :: ds => if swapOk t behind d = true then faultE t (endOf d) (k + 1) ds else some k
def fault (t : List Nat) : D → Option Nat
  | .tup xs => faultE t 0 0 xs
  | _ => some 0
def oD : Option Nat → D
  | none => .non
  | some k => .int k
def lastB (behind : Nat) : List D → Nat
  | [] => behind
  | d :: ds => lastB (endOf d) ds
theorem fault_snoc (t : List Nat) (d : D) : ∀ (ds : List D) (b k : Nat), faultE t b k (ds ++ [d]) = match faultE t b k ds with
    | some i => some i
    | none => if swapOk t (lastB b ds) d = true then none else some (k + ds.length)
  | [], b, k => rfl
  | e :: ds, b, k => by
    rw [List.cons_append, faultE, faultE, lastB]
    by_cases h : swapOk t b e = true
    · rw [if_pos h, if_pos h, fault_snoc t d ds, List.length_cons, show k + 1 + ds.length = k + (ds.length + 1) by omega]
    · rw [if_neg h, if_neg h]
theorem lastB_snoc (d : D) : ∀ (ds : List D) (b : Nat), lastB b (ds ++ [d]) = endOf d
  | [], b => rfl
  | e :: ds, b => by rw [List.cons_append, lastB, lastB_snoc d ds]
theorem end_at {t : List Nat} {b : Nat} {d : D} (h : swapOk t b d = true) : ixD d (.int 1) = some (.sh (.int (endOf d : Nat))) := by
  obtain ⟨x, y, s, rfl, _⟩ := swap_cases h
  rfl
theorem fault_loop {t : List Nat} {L : D} (ht : t.length ≤ 1000) : ∀ (ds : List D) (b k : Nat) (s3 s4 : Sl), (∀ d ∈ ds, Dr d) → Fs s3 → Fs s4 →
    match faultE t b k ds with
    | none => ∃ u t3 t4, forD (tgT 2 (tgsC (tgN 3) (tgsC (tgN 4) tgsN))) B_first_fault_2 (enumFrom k ds) [.sh (.str t), .sh L, .sh (.int b), s3, s4] = .ok .nx [.sh (.str t), .sh L, .sh (.int u), t3, t4]
    | some i => ∃ u t3 t4, forD (tgT 2 (tgsC (tgN 3) (tgsC (tgN 4) tgsN))) B_first_fault_2 (enumFrom k ds) [.sh (.str t), .sh L, .sh (.int b), s3, s4] = .ok (.rt (.sh (.int i))) [.sh (.str t), .sh L, .sh (.int u), t3, t4]
  | [], b, k, s3, s4, _, _, _ => ⟨b, s3, s4, rfl⟩
  | d :: ds, b, k, s3, s4, h, h3, h4 => by
    have ic := is_swap_ok (behind := b) ht (h d List.mem_cons_self)
    have g : tgT 2 (tgsC (tgN 3) (tgsC (tgN 4) tgsN)) (.tup [.int (k : Int), d]) [.sh (.str t), .sh L, .sh (.int b), s3, s4] = some [.sh (.str t), .sh L, .sh (.int b), .sh (.int k), .sh d] := by
      simp -implicitDefEqProofs [tgT, tgsC, tgN, tgsN, setS_fs h3, setS_fs h4]
    rw [faultE]
    by_cases ok : swapOk t b d = true
    · rw [if_pos ok]
      rw [ok] at ic
      have ea := end_at ok
      have bb : B_first_fault_2 [.sh (.str t), .sh L, .sh (.int b), .sh (.int k), .sh d] = .ok .nx [.sh (.str t), .sh L, .sh (.int (endOf d : Nat)), .sh (.int k), .sh d] := by
        simp -implicitDefEqProofs [ic, ea]
      have ih := fault_loop (L := L) ht ds (endOf d) (k + 1) (.sh (.int k)) (.sh d) (fun x hx => h x (List.mem_cons_of_mem _ hx)) (.sh _) (.sh _)
      have st : forD (tgT 2 (tgsC (tgN 3) (tgsC (tgN 4) tgsN))) B_first_fault_2 (enumFrom k (d :: ds)) [.sh (.str t), .sh L, .sh (.int b), s3, s4] = forD (tgT 2 (tgsC (tgN 3) (tgsC (tgN 4) tgsN))) B_first_fault_2 (enumFrom (k + 1) ds) [.sh (.str t), .sh L, .sh (.int (endOf d : Nat)), .sh (.int k), .sh d] := by
        rw [enumFrom, forD_cons' _ _ _ _ g, bb]; rfl
      rw [st]
      exact ih
    · rw [if_neg ok]
      rw [show swapOk t b d = false by simpa using ok] at ic
      have bb : B_first_fault_2 [.sh (.str t), .sh L, .sh (.int b), .sh (.int k), .sh d] = .ok (.rt (.sh (.int k))) [.sh (.str t), .sh L, .sh (.int b), .sh (.int k), .sh d] := by
        simp -implicitDefEqProofs [ic]
      exact ⟨b, _, _, by rw [enumFrom, forD_cons' _ _ _ _ g, bb]; rfl⟩
theorem first_fault_ok {t : List Nat} {d : D} (ht : t.length ≤ 1000) (h : ∀ xs, d = .tup xs → ∀ x ∈ xs, Dr x) (hk : Kn d) : F_first_fault [.str t, d] = .ok (.sh (oD (fault t d))) [] := by
  obtain ⟨b, e, hb⟩ := isi_tup hk
  by_cases tp : ∃ xs, d = .tup xs
  · obtain ⟨xs, rfl⟩ := tp
    have : b = true := hb.mpr ⟨xs, rfl⟩
    subst this
    have lp := fault_loop (t := t) (L := .tup xs) ht xs 0 0 .no .no (h xs rfl) .no .no
    have fe : fault t (.tup xs) = faultE t 0 0 xs := rfl
    rw [fe]
    cases q : faultE t 0 0 xs with
    | none =>
      rw [q] at lp
      obtain ⟨u, t3, t4, el⟩ := lp
      have el : forD (tgT 2 (tgsC (tgN 3) (tgsC (tgN 4) tgsN))) B_first_fault_2 (enumFrom 0 xs) [.sh (.str t), .sh (.tup xs), .sh (.int 0), .no, .no] = _ := el
      simp -implicitDefEqProofs [F_first_fault_ev, e, enumD_from, el, oD]
    | some i =>
      rw [q] at lp
      obtain ⟨u, t3, t4, el⟩ := lp
      have el : forD (tgT 2 (tgsC (tgN 3) (tgsC (tgN 4) tgsN))) B_first_fault_2 (enumFrom 0 xs) [.sh (.str t), .sh (.tup xs), .sh (.int 0), .no, .no] = _ := el
      simp -implicitDefEqProofs [F_first_fault_ev, e, enumD_from, el, oD]
  · have : b = false := by
      cases b with
      | false => rfl
      | true => exact absurd (hb.mp rfl) tp
    subst this
    have f : fault t d = some 0 := by cases d <;> first | rfl | exact absurd ⟨_, rfl⟩ tp
    rw [f]
    simp -implicitDefEqProofs [F_first_fault_ev, e, oD]
/-! the law's own look -/
theorem nfault_loop {t : List Nat} {xs : List D} (ht : t.length ≤ 1000) (hx : ∀ d ∈ xs, Dr d) : ∀ (n k b : Nat) (s3 s4 : Sl), n + k = xs.length → Fs s3 → Fs s4 →
    match faultE t b k (xs.drop k) with
    | none => ∃ u t3 t4, forD (tgN 3) B_L_nfault_5 ((List.range n).map fun i => .int ((k + i : Nat) : Int)) [.sh (.str t), .sh (.tup xs), .sh (.int b), s3, s4] = .ok .nx [.sh (.str t), .sh (.tup xs), .sh (.int u), t3, t4]
    | some i => ∃ u t3 t4, forD (tgN 3) B_L_nfault_5 ((List.range n).map fun i => .int ((k + i : Nat) : Int)) [.sh (.str t), .sh (.tup xs), .sh (.int b), s3, s4] = .ok (.rt (.sh (.int i))) [.sh (.str t), .sh (.tup xs), .sh (.int u), t3, t4]
  | 0, k, b, s3, s4, hn, _, _ => by
    have : xs.drop k = [] := List.drop_of_length_le (by omega)
    rw [this]
    exact ⟨b, s3, s4, rfl⟩
  | n + 1, k, b, s3, s4, hn, h3, h4 => by
    have hk : k < xs.length := by omega
    have dr : xs.drop k = xs[k] :: xs.drop (k + 1) := List.drop_eq_getElem_cons hk
    have ak : atI xs (k : Int) = some xs[k] := atI_n (List.getElem?_eq_getElem hk)
    have hd := hx xs[k] (List.getElem_mem hk)
    rw [dr, faultE]
    generalize xs[k] = d at ak hd ⊢
    have rg : ((List.range (n + 1)).map fun i => D.int ((k + i : Nat) : Int)) = .int (k : Int) :: (List.range n).map fun i => .int ((k + 1 + i : Nat) : Int) := by
      rw [List.range_succ_eq_map, List.map_cons, List.map_map]
      simp [Function.comp_def, Nat.add_assoc, Nat.add_comm 1]
    rw [rg]
    have g : tgN 3 (.int (k : Int)) [.sh (.str t), .sh (.tup xs), .sh (.int b), s3, s4] = some [.sh (.str t), .sh (.tup xs), .sh (.int b), .sh (.int k), s4] := by
      simp -implicitDefEqProofs [tgN, setS_fs h3]
    have hl : lenD [.str t] = some (.sh (.int t.length)) := lenD_str t (by omega)
    -- what a turn does
    have turn : B_L_nfault_5 [.sh (.str t), .sh (.tup xs), .sh (.int b), .sh (.int k), s4] = if swapOk t b d = true then .ok .nx [.sh (.str t), .sh (.tup xs), .sh (.int (endOf d : Nat)), .sh (.int k), .sh d] else .ok (.rt (.sh (.int k))) [.sh (.str t), .sh (.tup xs), .sh (.int b), .sh (.int k), .sh d] := by
      obtain ⟨c, e, hc⟩ := isi_tup hd.kn
      by_cases tp : ∃ ys, d = .tup ys
      · obtain ⟨ys, rfl⟩ := tp
        have : c = true := hc.mpr ⟨ys, rfl⟩
        subst this
        have sc : ∀ x ∈ ys, Sc x := hd.1.1
        by_cases l3 : ys.length = 3
        · match ys, l3, sc, e, ak with
          | [x, y, s], _, sc, e, ak =>
            have hx := sc x (by simp)
            have hy := sc y (by simp)
            have hs := sc s (by simp)
            have a0 := at0 x [y, s]
            have a1 := at1 x y [s]
            have a2 := at2 x y s []
            have w1 := is_number_ok hx.kn (b : Int) (t.length : Int)
            have tx := ltext_ok hs.kn hs.len
            cases q1 : inB (b : Int) (t.length : Int) x with
            | false =>
              rw [q1] at w1
              have : swapOk t b (.tup [x, y, s]) = false := by simp only [swapOk, q1, Bool.false_and]
              rw [if_neg (by rw [this]; simp)]
              simp -implicitDefEqProofs [ak, setS_fs h4, e, a0, hl, w1]
            | true =>
              rw [q1] at w1
              cases x with
              | int a =>
                have ha : (b : Int) ≤ a ∧ a ≤ t.length := by simpa only [inB, Bool.and_eq_true, decide_eq_true_eq] using q1
                have w2 := is_number_ok hy.kn (a + 1) (t.length : Int)
                have sw : swapOk t b (.tup [.int a, y, s]) = (inB (a + 1) (t.length : Int) y && isTx s && uI t a.toNat y) := by simp only [swapOk, q1, Bool.true_and, sw2]
                rw [sw]
                cases q2 : inB (a + 1) (t.length : Int) y with
                | false => rw [q2] at w2; simp -implicitDefEqProofs [ak, setS_fs h4, e, a0, a1, hl, w1, w2]
                | true =>
                  rw [q2] at w2
                  cases q3 : isTx s with
                  | false => rw [q3] at tx; simp -implicitDefEqProofs [ak, setS_fs h4, e, a0, a1, a2, hl, w1, w2, tx]
                  | true =>
                    rw [q3] at tx
                    cases y with
                    | int c =>
                      have hc : a + 1 ≤ c ∧ c ≤ t.length := by simpa only [inB, Bool.and_eq_true, decide_eq_true_eq] using q2
                      have st := nonce_ok (t := t) (b := a.toNat) (e := c.toNat) (by omega) (by omega)
                      rw [Int.toNat_of_nonneg (by omega), Int.toNat_of_nonneg (by omega)] at st
                      have en : ((endOf (.tup [.int a, .int c, s]) : Nat) : Int) = c := by show ((c.toNat : Nat) : Int) = c; omega
                      rw [en]
                      cases q4 : u1 t a.toNat c.toNat with
                      | false => rw [q4] at st; simp -implicitDefEqProofs [ak, setS_fs h4, e, a0, a1, a2, hl, w1, w2, tx, st, uI, q4]
                      | true => rw [q4] at st; simp -implicitDefEqProofs [ak, setS_fs h4, e, a0, a1, a2, hl, w1, w2, tx, st, uI, q4]
                    | _ => cases q2
              | _ => cases q1
        · have : swapOk t b (.tup ys) = false := by
            match ys, l3 with
            | [], _ => rfl
            | [_], _ => rfl
            | [_, _], _ => rfl
            | [_, _, _], h => exact absurd rfl h
            | _ :: _ :: _ :: _ :: _, _ => rfl
          rw [if_neg (by rw [this]; simp)]
          have l4 : ¬ (ys.length : Int) = 3 := by omega
          simp -implicitDefEqProofs [ak, setS_fs h4, e, l3, l4]
      · have : c = false := by
          cases c with
          | false => rfl
          | true => exact absurd (hc.mp rfl) tp
        subst this
        have f : swapOk t b d = false := by cases d <;> first | rfl | exact absurd ⟨_, rfl⟩ tp
        rw [if_neg (by rw [f]; simp)]
        simp -implicitDefEqProofs [ak, setS_fs h4, e]
    by_cases ok : swapOk t b d = true
    · rw [if_pos ok]
      rw [if_pos ok] at turn
      have ih := nfault_loop ht hx n (k + 1) (endOf d) (.sh (.int k)) (.sh d) (by omega) (.sh _) (.sh _)
      have st : forD (tgN 3) B_L_nfault_5 (.int (k : Int) :: (List.range n).map fun i => .int ((k + 1 + i : Nat) : Int)) [.sh (.str t), .sh (.tup xs), .sh (.int b), s3, s4] = forD (tgN 3) B_L_nfault_5 ((List.range n).map fun i => .int ((k + 1 + i : Nat) : Int)) [.sh (.str t), .sh (.tup xs), .sh (.int (endOf d : Nat)), .sh (.int k), .sh d] := by
        rw [forD_cons' _ _ _ _ g, turn]; rfl
      rw [st]
      exact ih
    · rw [if_neg ok]
      rw [if_neg ok] at turn
      exact ⟨b, _, _, by rw [forD_cons' _ _ _ _ g, turn]; rfl⟩
theorem nfault_ok {t : List Nat} {d : D} (ht : t.length ≤ 1000) (h : ∀ xs, d = .tup xs → (∀ x ∈ xs, Dr x) ∧ xs.length ≤ 1000) (hk : Kn d) : F_L_nfault [.str t, d] = .ok (.sh (oD (fault t d))) [] := by
  obtain ⟨b, e, hb⟩ := isi_tup hk
  by_cases tp : ∃ xs, d = .tup xs
  · obtain ⟨xs, rfl⟩ := tp
    have : b = true := hb.mpr ⟨xs, rfl⟩
    subst this
    obtain ⟨hx, hl⟩ := h xs rfl
    have lp := nfault_loop (t := t) ht hx xs.length 0 0 .no .no (by omega) .no .no
    rw [List.drop_zero] at lp
    have fe : fault t (.tup xs) = faultE t 0 0 xs := rfl
    have rg : ((List.range xs.length).map fun i => D.int ((0 + i : Nat) : Int)) = rngD 0 xs.length := by rw [rngD_map0]; simp
    rw [rg] at lp
    rw [fe]
    have h1 : (xs.length : Int) < 4611686018427387904 := by omega
    cases q : faultE t 0 0 xs with
    | none =>
      rw [q] at lp
      obtain ⟨u, t3, t4, el⟩ := lp
      have el : forD (tgN 3) B_L_nfault_5 (rngD 0 xs.length) [.sh (.str t), .sh (.tup xs), .sh (.int 0), .no, .no] = _ := el
      simp -implicitDefEqProofs [F_L_nfault_ev, e, h1, el, oD]
    | some i =>
      rw [q] at lp
      obtain ⟨u, t3, t4, el⟩ := lp
      have el : forD (tgN 3) B_L_nfault_5 (rngD 0 xs.length) [.sh (.str t), .sh (.tup xs), .sh (.int 0), .no, .no] = _ := el
      simp -implicitDefEqProofs [F_L_nfault_ev, e, h1, el, oD]
  · have : b = false := by
      cases b with
      | false => rfl
      | true => exact absurd (hb.mp rfl) tp
    subst this
    have f : fault t d = some 0 := by cases d <;> first | rfl | exact absurd ⟨_, rfl⟩ tp
    rw [f]
    simp -implicitDefEqProofs [F_L_nfault_ev, e, oD]
end Den

/-! PH2: put in, exchanged, the cost -/
namespace Den
open PySem PySem.Spec PyProof.Rows L2 PL AB WN
open TL (tl)
abbrev Rw := Nat × Nat × List Nat
def rD (r : Rw) : D := .tup [.int (r.1 : Nat), .int (r.2.1 : Nat), .str r.2.2]
def rOf : D → Rw
  | .tup [.int a, .int b, .str s] => (a.toNat, b.toNat, s)
  | _ => (0, 0, [])
def putE (t : List Nat) (b : Nat) : List Rw → List Nat
  | [] => t.drop b
  | r :: rs => (t.drop b).take (r.1 - b) ++ r.2.2 ++ putE t r.2.1 rs
def rowsOf : D → List Rw
  | .tup xs => xs.map rOf
  | _ => []
theorem rows_of {t : List Nat} : ∀ (ds : List D) (b k : Nat), (∀ d ∈ ds, Dr d) → faultE t b k ds = none → (ds.map rOf).map rD = ds ∧ ∀ r ∈ ds.map rOf, r.1 < r.2.1 ∧ r.2.1 ≤ t.length ∧ r.2.2.length ≤ 1000
  | [], _, _, _, _ => ⟨rfl, fun r h => by simp at h⟩
  | d :: ds, b, k, hd, h => by
    rw [faultE] at h
    by_cases o : swapOk t b d = true
    · rw [if_pos o] at h
      obtain ⟨h1, h2⟩ := rows_of ds _ _ (fun x hx => hd x (List.mem_cons_of_mem _ hx)) h
      obtain ⟨x, y, s, rfl, _, hxy, hy, _, _⟩ := swap_cases o
      have sc : Sc (.str s) := (hd _ List.mem_cons_self).1.1 _ (by simp)
      refine ⟨?_, fun r hr => ?_⟩
      · rw [List.map_cons, List.map_cons, h1]; rfl
      · rcases List.mem_cons.mp hr with rfl | hr
        · exact ⟨hxy, hy, sc.1⟩
        · exact h2 r hr
    · rw [if_neg o] at h; cases h
theorem fault_rows {t : List Nat} {d : D} (h : ∀ xs, d = .tup xs → ∀ x ∈ xs, Dr x) (e : fault t d = none) : d = .tup ((rowsOf d).map rD) ∧ ∀ r ∈ rowsOf d, r.1 < r.2.1 ∧ r.2.1 ≤ t.length ∧ r.2.2.length ≤ 1000 := by
  cases d with
  | tup xs =>
    obtain ⟨h1, h2⟩ := rows_of xs 0 0 (h xs rfl) e
    exact ⟨congrArg D.tup h1.symm, h2⟩
  | _ => cases e
theorem put_len (t : List Nat) : ∀ (R : List Rw) (b : Nat), (∀ r ∈ R, r.2.2.length ≤ 1000) → (putE t b R).length ≤ t.length + (t.length + 1000) * R.length
  | [], b, _ => by rw [putE]; simp
  | r :: R, b, h => by
    have := put_len t R r.2.1 (fun x hx => h x (List.mem_cons_of_mem _ hx))
    have h1 := h r List.mem_cons_self
    rw [putE, List.length_append, List.length_append, List.length_take, List.length_drop, List.length_cons]
    rw [Nat.mul_add]
    omega
theorem addS_ok (a b : List Nat) (h : a.length + b.length ≤ 16000000) : addD (.str a) (.str b) = some (.sh (.str (a ++ b))) := if_pos h
theorem slS_mid {t : List Nat} (ht : t.length ≤ 1000) (a b : Nat) : slO (some (a : Int)) (some (b : Int)) (.str t) = some (.sh (.str ((t.drop a).take (b - a)))) := by
  rw [slO_str, if_pos (by omega), cut_mid]
theorem slS_drop {t : List Nat} (ht : t.length ≤ 1000) (a : Nat) : slO (some (a : Int)) none (.str t) = some (.sh (.str (t.drop a))) := by
  rw [slO_str, if_pos (by omega), cut_drop]
theorem slS_take {t : List Nat} (ht : t.length ≤ 1000) (a : Nat) : slO none (some (a : Int)) (.str t) = some (.sh (.str (t.take a))) := by
  rw [slO_str, if_pos (by omega), cut_take]
abbrev tgP : Tg := tgT 3 (tgsC (tgN 4) (tgsC (tgN 5) (tgsC (tgN 6) tgsN)))
theorem tgP_ok {a b c d : Sl} {x y z : D} {s4 s5 s6 : Sl} (h4 : Fs s4) (h5 : Fs s5) (h6 : Fs s6) : tgP (.tup [x, y, z]) [a, b, c, d, s4, s5, s6] = some [a, b, c, d, .sh x, .sh y, .sh z] := by
  simp -implicitDefEqProofs [tgN, setS_fs h4, setS_fs h5, setS_fs h6]
theorem for_step {g : Tg} {b : Dn Fl} {d : D} {ds : List D} {ε ε1 ε2 : Ev} (h : g d ε = some ε1) (e : b ε1 = .ok .nx ε2) : forD g b (d :: ds) ε = forD g b ds ε2 := by
  rw [forD_cons' d ds ε ε1 h, e]; rfl
theorem put_loop {t : List Nat} {L : D} (ht : t.length ≤ 1000) : ∀ (R : List Rw) (f : List Nat) (b : Nat) (s4 s5 s6 : Sl), f.length + (t.length + 1000) * R.length ≤ 1000000 → (∀ r ∈ R, r.2.2.length ≤ 1000) → Fs s4 → Fs s5 → Fs s6 →
    ∃ u v t4 t5 t6, forD tgP B_put_in_2 (R.map rD) [.sh (.str t), .sh L, .sh (.str f), .sh (.int b), s4, s5, s6] = .ok .nx [.sh (.str t), .sh L, .sh (.str u), .sh (.int (v : Nat)), t4, t5, t6] ∧ u ++ t.drop v = f ++ putE t b R ∧ u.length ≤ 1000000
  | [], f, b, s4, s5, s6, hl, _, h4, h5, h6 => ⟨f, b, s4, s5, s6, rfl, rfl, by simp at hl; omega⟩
  | r :: R, f, b, s4, s5, s6, hl, hr, h4, h5, h6 => by
    rw [List.length_cons, Nat.mul_add] at hl
    have l1 := hr r List.mem_cons_self
    have c1 := slS_mid ht b r.1
    have l2 : ((t.drop b).take (r.1 - b)).length ≤ t.length := by rw [List.length_take, List.length_drop]; omega
    have a1 := addS_ok f ((t.drop b).take (r.1 - b)) (by omega)
    have a2 := addS_ok (f ++ (t.drop b).take (r.1 - b)) r.2.2 (by rw [List.length_append]; omega)
    obtain ⟨u, v, t4, t5, t6, e, e2, hu⟩ := put_loop (L := L) ht R (f ++ (t.drop b).take (r.1 - b) ++ r.2.2) r.2.1 (.sh (.int (r.1 : Nat))) (.sh (.int (r.2.1 : Nat))) (.sh (.str r.2.2)) (by rw [List.length_append, List.length_append]; omega) (fun x hx => hr x (List.mem_cons_of_mem _ hx)) (.sh _) (.sh _) (.sh _)
    have bd : B_put_in_2 [.sh (.str t), .sh L, .sh (.str f), .sh (.int b), .sh (.int (r.1 : Nat)), .sh (.int (r.2.1 : Nat)), .sh (.str r.2.2)] = .ok .nx [.sh (.str t), .sh L, .sh (.str (f ++ (t.drop b).take (r.1 - b) ++ r.2.2)), .sh (.int (r.2.1 : Nat)), .sh (.int (r.1 : Nat)), .sh (.int (r.2.1 : Nat)), .sh (.str r.2.2)] := by
      simp -implicitDefEqProofs [-List.append_assoc, c1, a1, a2]
    refine ⟨u, v, t4, t5, t6, ?_, ?_, hu⟩
    · rw [List.map_cons, ← e]
      have g := tgP_ok (a := .sh (.str t)) (b := .sh L) (c := .sh (.str f)) (d := .sh (.int b)) (x := .int (r.1 : Nat)) (y := .int (r.2.1 : Nat)) (z := .str r.2.2) h4 h5 h6
      exact for_step g bd
    · rw [e2, putE]; simp
theorem lput_loop {t : List Nat} {L : D} (ht : t.length ≤ 1000) : ∀ (R : List Rw) (f : List Nat) (b : Nat) (s4 s5 s6 : Sl), f.length + (t.length + 1000) * R.length ≤ 1000000 → (∀ r ∈ R, r.2.2.length ≤ 1000) → Fs s4 → Fs s5 → Fs s6 →
    ∃ u v t4 t5 t6, forD tgP B_L_nput_2 (R.map rD) [.sh (.str t), .sh L, .sh (.str f), .sh (.int b), s4, s5, s6] = .ok .nx [.sh (.str t), .sh L, .sh (.str u), .sh (.int (v : Nat)), t4, t5, t6] ∧ u ++ t.drop v = f ++ putE t b R ∧ u.length ≤ 1000000 :=
  put_loop ht
theorem put_in_ok {t : List Nat} {R : List Rw} (ht : t.length ≤ 1000) (hl : R.length ≤ 400) (hr : ∀ r ∈ R, r.2.2.length ≤ 1000) : F_put_in [.str t, .tup (R.map rD)] = .ok (.sh (.str (putE t 0 R))) [] := by
  obtain ⟨u, v, t4, t5, t6, e, e2, hu⟩ := put_loop (L := .tup (R.map rD)) ht R [] 0 .no .no .no (by
    have : (t.length + 1000) * R.length ≤ 2000 * 400 := Nat.mul_le_mul (by omega) hl
    simp; omega) hr .no .no .no
  rw [List.nil_append] at e2
  rw [← e2]
  have a1 := addS_ok u (t.drop v) (by rw [List.length_drop]; omega)
  have c1 := slS_drop ht v
  have e : forD (tgT 3 (tgsC (tgN 4) (tgsC (tgN 5) (tgsC (tgN 6) tgsN)))) B_put_in_2 (R.map rD) [.sh (.str t), .sh (.tup (R.map rD)), .sh (.str []), .sh (.int 0), .no, .no, .no] = _ := e
  generalize R.map rD = L at e ⊢
  simp -implicitDefEqProofs [F_put_in_ev, e, c1, a1]
theorem nput_ok {t : List Nat} {R : List Rw} (ht : t.length ≤ 1000) (hl : R.length ≤ 400) (hr : ∀ r ∈ R, r.2.2.length ≤ 1000) : F_L_nput [.str t, .tup (R.map rD)] = .ok (.sh (.str (putE t 0 R))) [] :=
  put_in_ok ht hl hr
/-- what is told of an exchange -/
theorem exchanged_ok {t : List Nat} {d : D} (ht : t.length ≤ 1000) (hx : ∀ xs, d = .tup xs → (∀ x ∈ xs, Dr x) ∧ xs.length ≤ 400) (hk : Kn d) :
    F_exchanged [.str t, d] = match fault t d with
      | none => .ok (.sh (.str (putE t 0 (rowsOf d)))) []
      | some k => .exc ⟨"NoExchange", [("index", .int k)]⟩ [] := by
  have ff := first_fault_ok ht (fun xs e => (hx xs e).1) hk
  cases q : fault t d with
  | none =>
    rw [q] at ff
    obtain ⟨e, hr⟩ := fault_rows (fun xs e => (hx xs e).1) q
    have pl := put_in_ok (t := t) (R := rowsOf d) ht (by have := (hx _ e).2; rw [List.length_map] at this; exact this) (fun r h => (hr r h).2.2)
    rw [← e] at pl
    have nn : isntD .non .non = some (.sh (.bl false)) := rfl
    simp -implicitDefEqProofs [F_exchanged_ev, ff, oD, nn, pl]
  | some k =>
    rw [q] at ff
    have nn : isntD (.int (k : Int)) .non = some (.sh (.bl true)) := rfl
    simp -implicitDefEqProofs [F_exchanged_ev, ff, oD, nn]
def okX (t o : List Nat) (d : D) : Bool := (fault t d).isNone && (putE t 0 (rowsOf d) == o)
theorem is_exchange_ok {t o : List Nat} {d : D} (ht : t.length ≤ 1000) (hx : ∀ xs, d = .tup xs → (∀ x ∈ xs, Dr x) ∧ xs.length ≤ 400) (hk : Kn d) :
    F_is_exchange [.str t, .str o, d] = .ok (.sh (.bl (okX t o d))) [] := by
  have ff := first_fault_ok ht (fun xs e => (hx xs e).1) hk
  cases q : fault t d with
  | none =>
    rw [q] at ff
    obtain ⟨e, hr⟩ := fault_rows (fun xs e => (hx xs e).1) q
    have pl := put_in_ok (t := t) (R := rowsOf d) ht (by have := (hx _ e).2; rw [List.length_map] at this; exact this) (fun r h => (hr r h).2.2)
    rw [← e] at pl
    have nn : isD .non .non = some (.sh (.bl true)) := rfl
    simp -implicitDefEqProofs [F_is_exchange_ev, ff, oD, nn, pl, okX, q]
  | some k =>
    rw [q] at ff
    have nn : isD (.int (k : Int)) .non = some (.sh (.bl false)) := rfl
    simp -implicitDefEqProofs [F_is_exchange_ev, ff, oD, nn, okX, q]
def costE (x : Int) (R : List Rw) : Int := (R.map fun r => ((r.2.1 : Nat) : Int) - (r.1 : Nat) + (r.2.2.length : Nat) + x).sum
def cD (x : Int) : D → D
  | .tup [.int a, .int b, .str s] => .int (b - a + (s.length : Nat) + x)
  | _ => .non
theorem ints_map (f : Rw → Int) : ∀ (R : List Rw), intsOf (R.map fun r => D.int (f r)) = some (R.map f)
  | [] => rfl
  | r :: R => by
    rw [List.map_cons, List.map_cons]
    show (intsOf _).map _ = _
    rw [ints_map f R]; rfl
theorem cost_of_ok {R : List Rw} (x : Int) (hl : R.length ≤ 400) (hr : ∀ r ∈ R, r.2.2.length ≤ 1000) : F_cost_of [.tup (R.map rD), .int x] = .ok (.sh (.int (costE x R))) [] := by
  have ec := comp_pure (g := tgT 3 (tgsC (tgN 2) (tgsC (tgN 3) (tgsC (tgN 4) tgsN)))) (vs := [2, 3, 4]) (c := fun ε => .ok true ε) (e := d2 addD (d2 addD (d2 subD (dV 3) (dV 2)) (dN lenD (aCons (dV 4) aNil))) (dV 1))
    (ε := [.sh (.tup (R.map rD)), .sh (.int x), .no, .no, .no]) (fun _ => true) (cD x) (R.map rD) [] (by simp; omega) (fun d hd => by
      obtain ⟨r, h, rfl⟩ := List.mem_map.mp hd
      have ll := lenD_str r.2.2 (by have := hr r h; omega)
      refine ⟨[.sh (.tup (R.map rD)), .sh (.int x), .sh (.int (r.1 : Nat)), .sh (.int (r.2.1 : Nat)), .sh (.str r.2.2)], by simp -implicitDefEqProofs [rD, tgN], rfl, fun _ => ⟨.sh (cD x (rD r)), ?_, rfl⟩, rfl⟩
      simp -implicitDefEqProofs [ll, cD, rD])
  have fl : ((R.map rD).filter fun _ => true).map (cD x) = R.map fun r => D.int (((r.2.1 : Nat) : Int) - (r.1 : Nat) + (r.2.2.length : Nat) + x) := by
    rw [List.filter_eq_self.mpr (fun _ _ => rfl), List.map_map]; rfl
  rw [fl, List.nil_append] at ec
  have sm : sumD [.lst (R.map fun r => D.int (((r.2.1 : Nat) : Int) - (r.1 : Nat) + (r.2.2.length : Nat) + x))] = some (.sh (.int (costE x R))) := by
    show (intsOf _).map _ = _
    rw [ints_map]; rfl
  generalize R.map rD = L at ec ⊢
  generalize (R.map fun r => D.int (((r.2.1 : Nat) : Int) - (r.1 : Nat) + (r.2.2.length : Nat) + x)) = M at ec sm
  simp -implicitDefEqProofs [F_cost_of_ev, ec, sm]
theorem ncost_ok {R : List Rw} (x : Int) (hl : R.length ≤ 400) (hr : ∀ r ∈ R, r.2.2.length ≤ 1000) : F_L_ncost [.tup (R.map rD), .int x] = .ok (.sh (.int (costE x R))) [] := cost_of_ok x hl hr
end Den

/-! PH3: exchanges drawn -/
namespace Den
open PySem PySem.Spec PyProof.Rows L2 PL AB WN
open TL (tl)
def behF (b : Nat) : D → Bool
  | .tup [.int a, _] => decide ((b : Int) ≤ a)
  | _ => false
def oncF (t : List Nat) : D → Bool
  | .tup [.int a, .int b] => u1 t a.toNat b.toNat
  | _ => false
theorem around_mem {t : List Nat} {n : Nat} {x : Nat × Nat} (h : x ∈ around t 0 n) : x.2 ≤ t.length := by
  unfold around at h
  obtain ⟨k, hk, h⟩ := List.mem_flatMap.mp h
  obtain ⟨i, hi, rfl⟩ := List.mem_map.mp h
  have := List.mem_range.mp hi
  show max 0 (k + 1) + i ≤ _
  omega
theorem drawn_turn {n : Nat} {p : D} {t s : List Nat} {R : List Rw} {s5 s6 s7 s8 s9 s10 : Sl} (hp : PenOk n p) (hn : n < 2 ^ 40) (ht : t.length ≤ 1000) (tl1 : ∀ c ∈ t, c ∈ tl lettersS) (sl1 : ∀ c ∈ s, c ∈ tl lettersS) (s0 : 0 < s.length) (s1 : s.length ≤ 1000)
    (hR : faultE t 0 0 (R.map rD) = none) (hl : R.length ≤ 100) (hw : ∀ r ∈ R, r.2.2.length ≤ 1000 ∧ (∀ c ∈ r.2.2, c ∈ tl lettersS)) (hB : lastB 0 (R.map rD) ≤ t.length) (h6 : Gs s6) (h7 : Fs s7) (h8 : Fs s8) (h9 : Fs s9) (h10 : Gs s10) (ht2 : t.length ≤ 900) :
    ∃ (p' : D) (R' : List Rw) (t6 t7 t8 t9 t10 : Sl), B_L_ndrawn_8 [.io p, .sh (.str t), .sh (.str s), .ow (.lst (R.map rD)), .sh (.int (lastB 0 (R.map rD) : Nat)), s5, s6, s7, s8, s9, s10, .no] = .ok .nx [.io p', .sh (.str t), .sh (.str s), .ow (.lst (R'.map rD)), .sh (.int (lastB 0 (R'.map rD) : Nat)), s5, t6, t7, t8, t9, t10, .no] ∧
      PenOk (n + 10) p' ∧ faultE t 0 0 (R'.map rD) = none ∧ R'.length ≤ R.length + 1 ∧ (∀ r ∈ R', r.2.2.length ≤ 1000 ∧ (∀ c ∈ r.2.2, c ∈ tl lettersS)) ∧ lastB 0 (R'.map rD) ≤ t.length ∧ Gs t6 ∧ Fs t7 ∧ Fs t8 ∧ Fs t9 ∧ Gs t10 := by
  have hll := lenD_str t (show t.length ≤ 16000000 by omega)
  have na := naround_ok (t := t) (a := t.length) (b := 0) ht (by omega) (by omega)
  have al := around_len t 0 (t.length + 1)
  have al2 : (t.length + 1) * (t.length + 1) ≤ 1001 * 1001 := Nat.mul_le_mul (by omega) (by omega)
  have am : ∀ x ∈ around t 0 (t.length + 1), x.2 ≤ t.length := fun x h => around_mem h
  generalize around t 0 (t.length + 1) = A at na al am
  obtain ⟨B, eB⟩ : ∃ B, B = lastB 0 (R.map rD) := ⟨_, rfl⟩
  rw [← eB] at hB ⊢
  have c1 := comp_pure (g := tgN 11) (vs := [11]) (c := bT (d2 geD (d2 ixD (dV 11) (dC (.int 0))) (dV 4))) (e := dV 11)
    (ε := [.io p, .sh (.str t), .sh (.str s), .ow (.lst (R.map rD)), .sh (.int B), s5, s6, s7, s8, s9, s10, .no]) (behF B) id (A.map pD) [] (by simp; omega) (fun d hd => by
      obtain ⟨x, hx, rfl⟩ := List.mem_map.mp hd
      refine ⟨[.io p, .sh (.str t), .sh (.str s), .ow (.lst (R.map rD)), .sh (.int B), s5, s6, s7, s8, s9, s10, .sh (pD x)], by simp -implicitDefEqProofs [tgN], ?_, fun _ => ⟨.at 11, rfl, rfl⟩, rfl⟩
      simp -implicitDefEqProofs [at0, behF, pD])
  obtain ⟨L1, e1⟩ : ∃ L1, L1 = ((A.map pD).filter (behF B)).map id := ⟨_, rfl⟩
  rw [List.nil_append, ← e1] at c1
  have m1 : ∀ d ∈ L1, ∃ a b : Nat, d = pD (a, b) ∧ B ≤ a ∧ b ≤ t.length := by
    intro d hd
    rw [e1, List.map_id] at hd
    obtain ⟨hd, hb⟩ := List.mem_filter.mp hd
    obtain ⟨x, hx, rfl⟩ := List.mem_map.mp hd
    have : decide ((B : Int) ≤ (x.1 : Nat)) = true := hb
    have := of_decide_eq_true this
    exact ⟨x.1, x.2, rfl, by omega, am x hx⟩
  have l1 : L1.length ≤ 1001 * 1001 := by
    rw [e1, List.length_map]
    have := List.length_filter_le (behF B) (A.map pD)
    rw [List.length_map] at this
    omega
  have q1 : B_L_ndrawn_8 [.io p, .sh (.str t), .sh (.str s), .ow (.lst (R.map rD)), .sh (.int B), s5, s6, s7, s8, s9, s10, .no] = B_L_ndrawn_7 [.io p, .sh (.str t), .sh (.str s), .ow (.lst (R.map rD)), .sh (.int B), s5, .ow (.lst L1), s7, s8, s9, s10, .no] := by
    simp only [Int.cast_ofNat_Int] at na
    simp -implicitDefEqProofs [-B_L_ndrawn_7_ev, hll, na, c1, setS_gsf h6]
  have c2 := comp_pure (g := tgN 11) (vs := [11]) (c := tDV (dCall [false, false, false] F_L_nonce (aCons (dV 1) (aCons (d2 ixD (dV 11) (dC (.int 0))) (aCons (d2 ixD (dV 11) (dC (.int 1))) aNil))))) (e := dV 11)
    (ε := [.io p, .sh (.str t), .sh (.str s), .ow (.lst (R.map rD)), .sh (.int B), s5, .sh (.lst L1), s7, s8, s9, s10, .no]) (oncF t) id L1 [] (by simp; omega) (fun d hd => by
      obtain ⟨a, b, rfl, _, hb⟩ := m1 d hd
      have no := nonce_ok (t := t) (b := a) (e := b) (by omega) hb
      refine ⟨[.io p, .sh (.str t), .sh (.str s), .ow (.lst (R.map rD)), .sh (.int B), s5, .sh (.lst L1), s7, s8, s9, s10, .sh (pD (a, b))], by simp -implicitDefEqProofs [tgN], ?_, fun _ => ⟨.at 11, rfl, rfl⟩, rfl⟩
      simp -implicitDefEqProofs [at0, at1, no, oncF, pD])
  obtain ⟨L2, e2⟩ : ∃ L2, L2 = (L1.filter (oncF t)).map id := ⟨_, rfl⟩
  rw [List.nil_append, ← e2] at c2
  have m2 : ∀ d ∈ L2, ∃ a b : Nat, d = pD (a, b) ∧ B ≤ a ∧ a < b ∧ b ≤ t.length ∧ u1 t a b = true := by
    intro d hd
    rw [e2, List.map_id] at hd
    obtain ⟨hd, hb⟩ := List.mem_filter.mp hd
    obtain ⟨a, b, rfl, h1, h2⟩ := m1 d hd
    have hu : u1 t a b = true := hb
    refine ⟨a, b, rfl, h1, ?_, h2, hu⟩
    unfold u1 at hu
    rw [Bool.and_eq_true] at hu
    exact of_decide_eq_true hu.1
  have l2 : L2.length ≤ 1001 * 1001 := by
    rw [e2, List.length_map]
    have := List.length_filter_le (oncF t) L1
    omega
  have q2 : B_L_ndrawn_7 [.io p, .sh (.str t), .sh (.str s), .ow (.lst (R.map rD)), .sh (.int B), s5, .ow (.lst L1), s7, s8, s9, s10, .no] = B_L_ndrawn_6 [.io p, .sh (.str t), .sh (.str s), .ow (.lst (R.map rD)), .sh (.int B), s5, .ow (.lst L2), s7, s8, s9, s10, .no] := by
    simp -implicitDefEqProofs [-B_L_ndrawn_6_ev, c2]
  rw [q1, q2]
  clear q1 q2 c1 c2
  by_cases em : L2 = []
  · refine ⟨p, R, .ow (.lst L2), s7, s8, s9, s10, ?_, hp.mono (by omega), hR, by omega, hw, by rw [← eB]; exact hB, .ow _, h7, h8, h9, h10⟩
    rw [← eB, em]
    simp -implicitDefEqProofs
  · have p0 : 0 < L2.length := List.length_pos_iff.mpr em
    obtain ⟨i, p1, e3, i0, i1, hp1⟩ := draw_ok (m := (L2.length : Int)) hp (by omega) (by omega) (by omega)
    obtain ⟨k, rfl⟩ := Int.eq_ofNat_of_zero_le i0
    have cu : cutL L2 none (some (1 + (k : Int))) = L2.take (k + 1) := by
      have := cut_take L2 (k + 1)
      rw [Int.natCast_add] at this
      rw [← this, Int.add_comm]; rfl
    obtain ⟨d, p2, e4, hd, hp2⟩ := pick_lst (ds := L2.take (k + 1)) hp1 (by omega) (by rw [List.length_take]; omega) (by rw [List.length_take]; omega)
    obtain ⟨a, b, rfl, hBa, hab, hb, hu⟩ := m2 d (List.mem_of_mem_take hd)
    have q3 : B_L_ndrawn_6 [.io p, .sh (.str t), .sh (.str s), .ow (.lst (R.map rD)), .sh (.int B), s5, .ow (.lst L2), s7, s8, s9, s10, .no] = B_L_ndrawn_4 [.io p2, .sh (.str t), .sh (.str s), .ow (.lst (R.map rD)), .sh (.int B), s5, .ow (.lst L2), .sh (.int a), .sh (.int b), s9, s10, .no] := by
      have ne : L2.isEmpty = false := by cases L2 with | nil => exact absurd rfl em | cons => rfl
      have pe : F_L_pick [p1, .lst (L2.take (k + 1))] = .ok (.sh (.tup [.int a, .int b])) [p2] := e4
      simp -implicitDefEqProofs [-B_L_ndrawn_4_ev, ne, e3, slO_lst, cu, pe, setS_fs h7, setS_fs h8, tgN]
    have w0 := slS_mid ht a b
    obtain ⟨w, hw0⟩ : ∃ w, w = (t.drop a).take (b - a) := ⟨_, rfl⟩
    rw [← hw0] at w0
    have wl : w.length ≤ 900 := by rw [hw0, List.length_take, List.length_drop]; omega
    have wm : ∀ c ∈ w, c ∈ tl lettersS := fun c hc => by rw [hw0] at hc; exact tl1 c (List.mem_of_mem_drop (List.mem_of_mem_take hc))
    have t1 := slS_take (t := w) (by omega) 1
    have t2 := slS_drop (t := w) (by omega) 2
    have t3 := slS_drop (t := w) (by omega) 1
    simp only [Int.cast_ofNat_Int] at t1 t2 t3
    obtain ⟨v, p3, e5, _, vl, vm, hp3⟩ := word_ok (s := s) (a := 0) (b := 3) hp2 (by omega) s0 (by omega) (by decide) (by decide)
    simp only [Int.cast_ofNat_Int] at e5
    have a1 := addS_ok (w.take 1) (w.drop 2) (by rw [List.length_take, List.length_drop]; omega)
    have a2 := addS_ok (w.drop 1) (tl (Str.ofString "q")) (by rw [List.length_drop]; have : (tl (Str.ofString "q")).length = 1 := rfl; omega)
    obtain ⟨d, p4, e6, hd, hp4⟩ := pick_lst (ds := [.str v, .str w, .str (w.take 1 ++ w.drop 2), .str (w.drop 1 ++ tl (Str.ofString "q"))]) hp3 (by omega) (by simp) (by simp)
    have hd' : ∃ u, d = .str u ∧ u.length ≤ 1000 ∧ ∀ c ∈ u, c ∈ tl lettersS := by
      have ql : (tl (Str.ofString "q")).length = 1 := rfl
      have qm : ∀ c ∈ tl (Str.ofString "q"), c ∈ tl lettersS := by decide +kernel
      simp only [List.mem_cons, List.not_mem_nil, or_false] at hd
      rcases hd with rfl | rfl | rfl | rfl
      · exact ⟨v, rfl, by omega, fun c hc => sl1 c (vm c hc)⟩
      · exact ⟨w, rfl, by omega, wm⟩
      · refine ⟨_, rfl, by rw [List.length_append, List.length_take, List.length_drop]; omega, fun c hc => ?_⟩
        rcases List.mem_append.mp hc with hc | hc
        · exact wm c (List.mem_of_mem_take hc)
        · exact wm c (List.mem_of_mem_drop hc)
      · refine ⟨_, rfl, by rw [List.length_append, List.length_drop]; omega, fun c hc => ?_⟩
        rcases List.mem_append.mp hc with hc | hc
        · exact wm c (List.mem_of_mem_drop hc)
        · exact qm c hc
    obtain ⟨u, rfl, ul, um⟩ := hd'
    have rr : (R ++ [(a, b, u)]).map rD = R.map rD ++ [rD (a, b, u)] := by rw [List.map_append]; rfl
    have ap : appD (.lst (R.map rD)) [.tup [.int a, .int b, .str u]] = some (.lst ((R ++ [(a, b, u)]).map rD), .non) := by
      rw [rr]; exact appD_ok _ _ (by rw [List.length_map]; omega)
    have sw : swapOk t B (rD (a, b, u)) = true := by
      have lu : lt1 u = true := List.all_eq_true.mpr fun c hc => decide_eq_true (um c hc)
      simp [swapOk, rD, inB, sw2, isTx, uI, lu, hu]
      omega
    refine ⟨p4, R ++ [(a, b, u)], .ow (.lst L2), .sh (.int a), .sh (.int b), .sh (.str w), .sh (.lst [.str v, .str w, .str (w.take 1 ++ w.drop 2), .str (w.drop 1 ++ tl (Str.ofString "q"))]), ?_, hp4.mono (by omega), ?_, by simp, fun r hr => ?_, ?_, .ow _, .sh _, .sh _, .sh _, .sh _⟩
    · rw [q3]
      have lb : lastB 0 ((R ++ [(a, b, u)]).map rD) = b := by rw [rr, lastB_snoc]; rfl
      rw [lb]
      generalize (R ++ [(a, b, u)]).map rD = M at ap ⊢
      simp -implicitDefEqProofs [-List.drop_one, w0, t1, t2, t3, e5, a1, a2, e6, ap, setS_fs h9, setS_gsf h10, isLst]
    · rw [rr, fault_snoc, hR, ← eB]
      show (if swapOk t B (rD (a, b, u)) = true then none else _) = none
      rw [if_pos sw]
    · rcases List.mem_append.mp hr with hr | hr
      · exact hw r hr
      · simp at hr; subst hr; exact ⟨ul, um⟩
    · rw [rr, lastB_snoc]; exact hb
end Den

/-! PH4: exchanges drawn, whole -/
namespace Den
open PySem PySem.Spec PyProof.Rows L2 PL AB WN
open TL (tl)
def DrR (t : List Nat) (R : List Rw) : Prop := faultE t 0 0 (R.map rD) = none ∧ R.length ≤ 4 ∧ ∀ r ∈ R, r.2.2.length ≤ 1000 ∧ ∀ c ∈ r.2.2, c ∈ tl lettersS
theorem ndrawn_ok {n : Nat} {p : D} {t s : List Nat} (hp : PenOk n p) (hn : n < 2 ^ 30) (ht : t.length ≤ 900) (tl1 : ∀ c ∈ t, c ∈ tl lettersS) (sl1 : ∀ c ∈ s, c ∈ tl lettersS) (s0 : 0 < s.length) (s1 : s.length ≤ 1000) :
    ∃ (R : List Rw) (p' : D), F_L_ndrawn [p, .str t, .str s] = .ok (.sh (.tup (R.map rD))) [p'] ∧ DrR t R ∧ PenOk (n + 100) p' := by
  obtain ⟨i, p1, e1, i0, i1, hp1⟩ := draw_ok (m := 5) hp (by omega) (by omega) (by omega)
  obtain ⟨k, rfl⟩ := Int.eq_ofNat_of_zero_le i0
  obtain ⟨ε', ef, p2, R, s5, s6, s7, s8, s9, s10, rfl, hp2, hR, hl, hw, _⟩ := for_inv0 (g := tgN 5) (b := B_L_ndrawn_8)
    (P := fun j ε => ∃ (p : D) (R : List Rw) (s5 s6 s7 s8 s9 s10 : Sl), ε = [.io p, .sh (.str t), .sh (.str s), .ow (.lst (R.map rD)), .sh (.int (lastB 0 (R.map rD) : Nat)), s5, s6, s7, s8, s9, s10, .no] ∧ PenOk (n + 1 + 10 * j) p ∧ faultE t 0 0 (R.map rD) = none ∧ R.length ≤ j ∧
      (∀ r ∈ R, r.2.2.length ≤ 1000 ∧ ∀ c ∈ r.2.2, c ∈ tl lettersS) ∧ lastB 0 (R.map rD) ≤ t.length ∧ Fs s5 ∧ Gs s6 ∧ Fs s7 ∧ Fs s8 ∧ Fs s9 ∧ Gs s10)
    (rngD 0 k) [.io p1, .sh (.str t), .sh (.str s), .ow (.lst []), .sh (.int 0), .no, .no, .no, .no, .no, .no, .no] ⟨p1, [], .no, .no, .no, .no, .no, .no, rfl, hp1, rfl, by simp, fun r h => by simp at h, by simp [lastB], .no, .no, .no, .no, .no, .no⟩
    (fun j d ε hd ⟨p, R, s5, s6, s7, s8, s9, s10, q, hp, hR, hl, hw, hB, h5, h6, h7, h8, h9, h10⟩ => by
      subst q
      obtain ⟨hj, rfl⟩ := rngD_gt _ _ _ _ hd
      obtain ⟨p', R', t6, t7, t8, t9, t10, e, hp', hR', hl', hw', hB', r6, r7, r8, r9, r10⟩ := drawn_turn (s := s) (s5 := .sh (.int (0 + (j : Int)))) hp (by omega) (by omega) tl1 sl1 s0 s1 hR (by omega) hw hB h6 h7 h8 h9 h10 ht
      exact ⟨_, _, by simp -implicitDefEqProofs [tgN, setS_fs h5] <;> rfl, e, p', R', _, t6, t7, t8, t9, t10, rfl, hp'.mono (by omega), hR', by omega, hw', hB', .sh _, r6, r7, r8, r9, r10⟩)
  rw [rngD_len] at hp2 hl
  have hk2 : (k : Int) < 4611686018427387904 := by omega
  refine ⟨R, p2, ?_, ⟨hR, by omega, hw⟩, hp2.mono (by omega)⟩
  generalize R.map rD = L at ef ⊢
  simp -implicitDefEqProofs [F_L_ndrawn_ev, e1, hk2, ef, tupleD]
theorem fault_bd {t : List Nat} : ∀ (R : List Rw) (b k : Nat), faultE t b k (R.map rD) = none → ∀ r ∈ R, r.1 < r.2.1 ∧ r.2.1 ≤ t.length
  | [], _, _, _, r, h => by simp at h
  | x :: R, b, k, e, r, h => by
    rw [List.map_cons, faultE] at e
    by_cases o : swapOk t b (rD x) = true
    · rw [if_pos o] at e
      rcases List.mem_cons.mp h with rfl | h
      · obtain ⟨a, c, s, e1, _, h2, h3, _⟩ := swap_cases o
        injection e1 with e1
        injection e1 with e2 e3
        injection e3 with e3 e4
        injection e2 with e2
        injection e3 with e3
        omega
      · exact fault_bd R _ _ e r h
    · rw [if_neg o] at e; cases e
theorem row_dr {t : List Nat} {R : List Rw} (ht : t.length ≤ 1000) (h : DrR t R) : ∀ r ∈ R, Dr (rD r) := fun r hr => by
  have hb := fault_bd R 0 0 h.1 r hr
  have hw := h.2.2 r hr
  refine Dr.tup (fun x hx => ?_) (by simp)
  simp only [List.mem_cons, List.not_mem_nil, or_false] at hx
  rcases hx with rfl | rfl | rfl
  · exact ⟨trivial, fun i e => by cases e; simp; omega⟩
  · exact ⟨trivial, fun i e => by cases e; simp; omega⟩
  · exact ⟨⟨hw.1, sOk_small hw.2⟩, fun i e => by cases e⟩
end Den

/-! PH5: things that may be exchanges -/
namespace Den
open PySem PySem.Spec PyProof.Rows L2 PL AB WN
open TL (tl)
def Th1 (d : D) : Prop := (∃ xs, (d = .tup xs ∨ d = .lst xs) ∧ (∀ x ∈ xs, Dr x) ∧ xs.length ≤ 10) ∨ d ∈ anyL
theorem any_rep : ∀ d ∈ anyL, okRep d := by
  have h : anyL.all (fun d => decide (okRep d)) = true := by decide +kernel
  exact fun d hd => of_decide_eq_true (List.all_eq_true.mp h d hd)
def scB : D → Bool
  | .non => true
  | .bl _ => true
  | .int _ => true
  | .str l => decide (l.length ≤ 1000) && sOk l
  | _ => false
def anB : D → Bool
  | .tup xs => xs.all (fun x => scB x && decide (RB 60000 x)) && decide (xs.length ≤ 10)
  | _ => true
theorem any_parts : ∀ xs, D.tup xs ∈ anyL → (∀ x ∈ xs, Dr x) ∧ xs.length ≤ 10 := by
  have h : anyL.all anB = true := by decide +kernel
  intro xs hx
  have h1 : anB (.tup xs) = true := List.all_eq_true.mp h _ hx
  simp only [anB, Bool.and_eq_true, decide_eq_true_eq] at h1
  refine ⟨fun x hx => ?_, h1.2⟩
  have h2 := List.all_eq_true.mp h1.1 x hx
  simp only [Bool.and_eq_true, decide_eq_true_eq] at h2
  obtain ⟨s, r⟩ := h2
  refine ⟨?_, r⟩
  cases x with
  | str l => exact (show l.length ≤ 1000 ∧ sOk l = true by simpa [scB] using s)
  | non => trivial
  | bl _ => trivial
  | int _ => trivial
  | _ => cases s
theorem RB.tuple {n : Nat} {ds : List D} (h : ∀ d ∈ ds, RB n d) (hl : n * ds.length + 2 * ds.length + 3 ≤ 16000000) : okRep (.tup ds) := by
  obtain ⟨a, b, c⟩ := showns n ds h
  refine ⟨?_, by simpa only [toPyR, PyData.showable] using a, ?_⟩
  · show ds.all (plR 59) = true
    rw [List.all_eq_true]
    exact fun d hd => (h d hd).1
  · have q := tupleText_len_le (PyData.shownAll (toPyRs ds))
    simp only [toPyR, PyData.shown]
    omega
theorem Th1.kn {d : D} (h : Th1 d) : Kn d := by
  rcases h with ⟨xs, rfl | rfl, _⟩ | h
  · exact ⟨_, rfl⟩
  · exact ⟨_, rfl⟩
  · exact (any_dr d h).1.kn
theorem Th1.rep {d : D} (h : Th1 d) : okRep d := by
  rcases h with ⟨xs, rfl | rfl, h1, h2⟩ | h
  · exact RB.tuple (n := 60000) (fun x hx => (h1 x hx).2) (by omega)
  · exact RB.list (n := 60000) (fun x hx => (h1 x hx).2) (by omega)
  · exact any_rep d h
theorem Th1.parts {d : D} (h : Th1 d) : ∀ xs, d = .tup xs → (∀ x ∈ xs, Dr x) ∧ xs.length ≤ 10 := by
  intro xs e
  rcases h with ⟨ys, rfl | rfl, h1, h2⟩ | h
  · cases e; exact ⟨h1, h2⟩
  · cases e
  · subst e; exact any_parts xs h
theorem strx (x : Nat) (h : x ≤ 10) : ∃ l, strD [.int (x : Int)] = some (.sh (.str l)) ∧ l.length ≤ 1000 ∧ sOk l = true := by
  have a : ∀ x : Fin 11, (((x.val : Nat) : Int).natAbs.log2 < 1920) ∧ (tl (Str.ofString (toString ((x.val : Nat) : Int)))).length ≤ 1000 ∧ sOk (tl (Str.ofString (toString ((x.val : Nat) : Int)))) = true := by decide +kernel
  obtain ⟨a, b, c⟩ := a ⟨x, by omega⟩
  exact ⟨_, if_pos a, b, c⟩
theorem slT_take (L : List D) (k : Nat) : slO none (some (k : Int)) (.tup L) = some (.sh (.tup (L.take k))) := by rw [slO_tup, cut_take]
theorem slT_drop (L : List D) (k : Nat) : slO (some (k : Int)) none (.tup L) = some (.sh (.tup (L.drop k))) := by rw [slO_tup, cut_drop]
theorem slT_mid (L : List D) (a b : Nat) : slO (some (a : Int)) (some (b : Int)) (.tup L) = some (.sh (.tup ((L.drop a).take (b - a)))) := by rw [slO_tup, cut_mid]
theorem odd_dr {x y : Nat} {f l : List Nat} {d : D} {n : Nat} (hx : x ≤ 1000) (hy : y ≤ 1000) (hn : n ≤ 1000) (hf : f.length ≤ 1000 ∧ sOk f = true) (hl : l.length ≤ 1000 ∧ sOk l = true)
    (h : d ∈ [.tup [.int x, .int y], .tup [.int x, .int y, .str f, .int 0], .lst [.int x, .int y, .str f], .tup [.int x, .int y, .str (tl (Str.ofString "\t"))], .tup [.int x, .int y, .non], .tup [.int x, .int y, .int 1], .tup [.bl true, .int y, .str f],
      .tup [.int x, .int ((n : Int) + 1), .str []], .tup [.int x, .int x, .str f], .tup [.int (-1), .int y, .str f], .tup [.str l, .int y, .str f]]) : Dr d := by
  have bx : ∀ z : Int, z.natAbs ≤ 2000 → z.natAbs < 2 ^ 300 := fun z h => by omega
  have ii : ∀ z : Int, z.natAbs ≤ 2000 → Sc (.int z) ∧ ∀ i, D.int z = .int i → i.natAbs < 2 ^ 300 := fun z h => ⟨trivial, fun i e => by cases e; exact bx _ h⟩
  have ss : ∀ z : List Nat, z.length ≤ 1000 ∧ sOk z = true → Sc (.str z) ∧ ∀ i, D.str z = .int i → i.natAbs < 2 ^ 300 := fun z h => ⟨h, fun i e => by cases e⟩
  have nn : Sc .non ∧ ∀ i, D.non = .int i → i.natAbs < 2 ^ 300 := ⟨trivial, fun i e => by cases e⟩
  have bb : Sc (.bl true) ∧ ∀ i, D.bl true = .int i → i.natAbs < 2 ^ 300 := ⟨trivial, fun i e => by cases e⟩
  have tb : (tl (Str.ofString "\t")).length ≤ 1000 ∧ sOk (tl (Str.ofString "\t")) = true := by decide +kernel
  have em : ([] : List Nat).length ≤ 1000 ∧ sOk [] = true := by decide
  simp only [List.mem_cons, List.not_mem_nil, or_false] at h
  have ix := ii (x : Int) (by omega)
  have iy := ii (y : Int) (by omega)
  have in1 := ii ((n : Int) + 1) (by omega)
  have i0 := ii 0 (by decide)
  have i1 := ii 1 (by decide)
  have im := ii (-1) (by decide)
  have sf := ss f hf
  have sl := ss l hl
  have st := ss _ tb
  have se := ss _ em
  rcases h with rfl | rfl | rfl | rfl | rfl | rfl | rfl | rfl | rfl | rfl | rfl
  · exact Dr.tup (fun z hz => by simp only [List.mem_cons, List.not_mem_nil, or_false] at hz; rcases hz with rfl | rfl <;> assumption) (by simp)
  · exact Dr.tup (fun z hz => by simp only [List.mem_cons, List.not_mem_nil, or_false] at hz; rcases hz with rfl | rfl | rfl | rfl <;> assumption) (by simp)
  · exact ⟨trivial, RB.lst (fun z hz => by simp only [List.mem_cons, List.not_mem_nil, or_false] at hz; rcases hz with rfl | rfl | rfl <;> assumption) (by simp)⟩
  all_goals exact Dr.tup (fun z hz => by simp only [List.mem_cons, List.not_mem_nil, or_false] at hz; rcases hz with rfl | rfl | rfl <;> assumption) (by simp)
end Den

/-! PH6: things that may be exchanges, drawn -/
namespace Den
open PySem PySem.Spec PyProof.Rows L2 PL AB WN
open TL (tl)
theorem crook_any {n : Nat} {p : D} {L : List D} {S3 S4 S5 S6 S7 T8 T9 T10 T11 T12 : Sl} {s1 : Sl} (hp : PenOk n p) (hn : n < 2 ^ 30) (hd : ∀ d ∈ L, Dr d) (hl : L.length ≤ 4) :
    ∃ (d p' : D), B_L_ncrooked_0 [.io p, s1, .sh (.tup L), S3, S4, S5, S6, S7, T8, T9, T10, T11, T12] = .ok (.rt (.sh d)) [.io p', s1, .sh (.tup L), S3, S4, S5, S6, S7, T8, T9, T10, T11, T12] ∧ Th1 d ∧ PenOk (n + 20) p' := by
  obtain ⟨v1, p1, e1, h1, hp1⟩ := any_value_eq hp (by omega)
  obtain ⟨v2, p2, e2, h2, hp2⟩ := any_value_eq hp1 (by omega)
  obtain ⟨v3, p3, e3, h3, hp3⟩ := any_value_eq hp2 (by omega)
  obtain ⟨d, p4, e4, hd4, hp4⟩ := pick_lst (ds := [.tup L, .tup L, v1, .tup [v2], .tup (L ++ [v3])]) hp3 (by omega) (by simp) (by simp)
  have ad := addD_tup L [v3] (by simp; omega)
  refine ⟨d, p4, ?_, ?_, hp4.mono (by omega)⟩
  · simp -implicitDefEqProofs [e1, e2, e3, e4, ad]
  · simp only [List.mem_cons, List.not_mem_nil, or_false] at hd4
    rcases hd4 with rfl | rfl | rfl | rfl | rfl
    · exact .inl ⟨L, .inl rfl, hd, by omega⟩
    · exact .inl ⟨L, .inl rfl, hd, by omega⟩
    · exact .inr h1
    · exact .inl ⟨[v2], .inl rfl, fun x hx => by simp at hx; subst hx; exact any_dr _ h2, by simp⟩
    · refine .inl ⟨L ++ [v3], .inl rfl, fun x hx => ?_, by simp; omega⟩
      rcases List.mem_append.mp hx with hx | hx
      · exact hd x hx
      · simp at hx; subst hx; exact any_dr _ h3
theorem crook_odd {n : Nat} {p : D} {t : List Nat} {R : List Rw} {k a b : Nat} {S3 S6 S7 : Sl} (hp : PenOk n p) (hn : n < 2 ^ 30) (ht : t.length ≤ 10) (hR : DrR t R) (hk : k < R.length) :
    ∃ (d p' : D) (t8 t9 t10 t11 t12 : Sl), B_L_ncrooked_5 [.io p, .sh (.str t), .sh (.tup (R.map rD)), S3, .sh (.int t.length), .sh (.int k), S6, S7, .no, .no, .no, .no, .no] = .ok (.rt (.sh d)) [.io p', .sh (.str t), .sh (.tup (R.map rD)), S3, .sh (.int t.length), .sh (.int k), S6, S7, t8, t9, t10, t11, t12] ∧ Th1 d ∧ PenOk (n + 20) p' := by
  have hdr := row_dr (by omega) hR
  have hm : R[k] ∈ R := List.getElem_mem hk
  have hbd := fault_bd R 0 0 hR.1 _ hm
  have hw := hR.2.2 _ hm
  have at_ : atI (R.map rD) (k : Int) = some (rD R[k]) := atI_n (by rw [List.getElem?_map, List.getElem?_eq_getElem hk]; rfl)
  generalize R[k] = r at hm hbd hw at_
  obtain ⟨x, y, f⟩ := r
  obtain ⟨l, el, ll⟩ := strx x (by have : x < y := hbd.1; have : y ≤ t.length := hbd.2; omega)
  have hbd1 : x < y := hbd.1
  have hbd2 : y ≤ t.length := hbd.2
  have hwf : f.length ≤ 1000 := hw.1
  have hws : sOk f = true := sOk_small hw.2
  have at_ : atI (R.map rD) (k : Int) = some (.tup [.int x, .int y, .str f]) := at_
  have Lh : ∀ d ∈ R.map rD, Dr d := fun d hd => by obtain ⟨r, hr, rfl⟩ := List.mem_map.mp hd; exact hdr r hr
  have Ll : (R.map rD).length ≤ 4 := by rw [List.length_map]; exact hR.2.1
  generalize R.map rD = L at at_ Lh Ll
  have ad := addD_lst [.tup [.int x, .int y], .tup [.int x, .int y, .str f, .int 0], .lst [.int x, .int y, .str f], .tup [.int x, .int y, .str (tl (Str.ofString "\t"))], .tup [.int x, .int y, .non], .tup [.int x, .int y, .int 1], .tup [.bl true, .int y, .str f]]
      [.tup [.int x, .int ((t.length : Int) + 1), .str []], .tup [.int x, .int x, .str f], .tup [.int (-1), .int y, .str f], .tup [.str l, .int y, .str f]] (by simp)
  obtain ⟨d, p1, e1, hd, hp1⟩ := pick_lst (ds := [.tup [.int x, .int y], .tup [.int x, .int y, .str f, .int 0], .lst [.int x, .int y, .str f], .tup [.int x, .int y, .str (tl (Str.ofString "\t"))], .tup [.int x, .int y, .non], .tup [.int x, .int y, .int 1], .tup [.bl true, .int y, .str f],
      .tup [.int x, .int ((t.length : Int) + 1), .str []], .tup [.int x, .int x, .str f], .tup [.int (-1), .int y, .str f], .tup [.str l, .int y, .str f]]) hp (by omega) (by simp) (by simp)
  have od := odd_dr (by omega) (by omega) (n := t.length) (by omega) ⟨hwf, hws⟩ ll hd
  clear hd
  have tk := slT_take L k
  have dr := slT_drop L (k + 1)
  rw [Int.natCast_add] at dr
  simp only [Int.cast_ofNat_Int] at dr
  have dr : slO (some ((k : Int) + 1)) none (.tup L) = some (.sh (.tup (L.drop (k + 1)))) := dr
  have a1 := addD_tup (L.take k) [d] (by simp; omega)
  have a2 := addD_tup (L.take k ++ [d]) (L.drop (k + 1)) (by simp; omega)
  have es : ([.tup [.int x, .int y], .tup [.int x, .int y, .str f, .int 0], .lst [.int x, .int y, .str f], .tup [.int x, .int y, .str (tl (Str.ofString "\t"))], .tup [.int x, .int y, .non], .tup [.int x, .int y, .int 1], .tup [.bl true, .int y, .str f]] : List D) ++ [.tup [.int x, .int ((t.length : Int) + 1), .str []], .tup [.int x, .int x, .str f], .tup [.int (-1), .int y, .str f], .tup [.str l, .int y, .str f]] = [.tup [.int x, .int y], .tup [.int x, .int y, .str f, .int 0], .lst [.int x, .int y, .str f], .tup [.int x, .int y, .str (tl (Str.ofString "\t"))], .tup [.int x, .int y, .non], .tup [.int x, .int y, .int 1], .tup [.bl true, .int y, .str f],
      .tup [.int x, .int ((t.length : Int) + 1), .str []], .tup [.int x, .int x, .str f], .tup [.int (-1), .int y, .str f], .tup [.str l, .int y, .str f]] := rfl
  rw [es] at ad
  clear es
  have q1 : B_L_ncrooked_5 [.io p, .sh (.str t), .sh (.tup L), S3, .sh (.int t.length), .sh (.int k), S6, S7, .no, .no, .no, .no, .no] = B_L_ncrooked_3 [.io p, .sh (.str t), .sh (.tup L), S3, .sh (.int t.length), .sh (.int k), S6, S7, .sh (.int x), .sh (.int y), .sh (.str f),
      .ow (.lst [.tup [.int x, .int y], .tup [.int x, .int y, .str f, .int 0], .lst [.int x, .int y, .str f], .tup [.int x, .int y, .str (tl (Str.ofString "\t"))], .tup [.int x, .int y, .non], .tup [.int x, .int y, .int 1], .tup [.bl true, .int y, .str f]]), .no] := by
    simp -implicitDefEqProofs [-B_L_ncrooked_3_ev, at_]
  generalize ([.tup [.int x, .int y], .tup [.int x, .int y, .str f, .int 0], .lst [.int x, .int y, .str f], .tup [.int x, .int y, .str (tl (Str.ofString "\t"))], .tup [.int x, .int y, .non], .tup [.int x, .int y, .int 1], .tup [.bl true, .int y, .str f],
      .tup [.int x, .int ((t.length : Int) + 1), .str []], .tup [.int x, .int x, .str f], .tup [.int (-1), .int y, .str f], .tup [.str l, .int y, .str f]] : List D) = M at ad e1
  generalize ([.tup [.int x, .int y], .tup [.int x, .int y, .str f, .int 0], .lst [.int x, .int y, .str f], .tup [.int x, .int y, .str (tl (Str.ofString "\t"))], .tup [.int x, .int y, .non], .tup [.int x, .int y, .int 1], .tup [.bl true, .int y, .str f]] : List D) = M1 at ad q1
  refine ⟨.tup (L.take k ++ [d] ++ L.drop (k + 1)), p1, .sh (.int x), .sh (.int y), .sh (.str f), .sh (.lst M), .sh d, ?_, .inl ⟨_, .inl rfl, fun z hz => ?_, by simp; omega⟩, hp1.mono (by omega)⟩
  · rw [q1]
    simp -implicitDefEqProofs [-List.append_assoc, el, ad, e1, tk, dr, a1, a2]
  · rcases List.mem_append.mp hz with hz | hz
    · rcases List.mem_append.mp hz with hz | hz
      · exact Lh z (List.mem_of_mem_take hz)
      · simp at hz; subst hz; exact od
    · exact Lh z (List.mem_of_mem_drop hz)
end Den

/-! PH7: the crooked things, whole -/
namespace Den
open PySem PySem.Spec PyProof.Rows L2 PL AB WN
open TL (tl)
theorem ncrooked_ok {n : Nat} {p : D} {t : List Nat} {R : List Rw} (hp : PenOk n p) (hn : n < 2 ^ 29) (ht : t.length ≤ 10) (hR : DrR t R) :
    ∃ (fv : Fv) (d p' : D), F_L_ncrooked [p, .str t, .tup (R.map rD)] = .ok fv [p'] ∧ (fv = .sh d ∨ fv = .fr d) ∧ Th1 d ∧ PenOk (n + 100) p' := by
  obtain ⟨w, p1, e1, w0, w1, hp1⟩ := draw_ok (m := 8) hp (by omega) (by omega) (by omega)
  obtain ⟨w, rfl⟩ := Int.eq_ofNat_of_zero_le w0
  have hdr := row_dr (by omega) hR
  have Lh : ∀ d ∈ R.map rD, Dr d := fun d hd => by obtain ⟨r, hr, rfl⟩ := List.mem_map.mp hd; exact hdr r hr
  have Ll : (R.map rD).length ≤ 4 := by rw [List.length_map]; exact hR.2.1
  obtain ⟨M, hM⟩ : ∃ M : Nat, M = max 1 R.length := ⟨_, rfl⟩
  have mx : (if ((R.map rD).length : Int) > 1 then ((R.map rD).length : Int) else 1) = (M : Int) := by rw [List.length_map]; split <;> omega
  obtain ⟨k, p2, e2, k0, k1, hp2⟩ := draw_ok (m := (M : Int)) hp1 (by omega) (by have := hR.2.1; omega) (by have := hR.2.1; omega)
  obtain ⟨k, rfl⟩ := Int.eq_ofNat_of_zero_le k0
  obtain ⟨a, b, p3, e3, hab, hb, hp3⟩ := nspot_ok (t := t) hp2 (by omega) (by omega)
  have lt := lenD_str t (by omega)
  have q1 : B_L_ncrooked_13 [.io p, .sh (.str t), .sh (.tup (R.map rD)), .no, .no, .no, .no, .no, .no, .no, .no, .no, .no] = B_L_ncrooked_10 [.io p3, .sh (.str t), .sh (.tup (R.map rD)), .sh (.int w), .sh (.int t.length), .sh (.int k), .sh (.int a), .sh (.int b), .no, .no, .no, .no, .no] := by
    have e3 : F_L_nspot [p2, .str t] = .ok (.sh (.tup [.int a, .int b])) [p3] := e3
    have lL : lenD [.tup (R.map rD)] = some (.sh (.int (R.map rD).length)) := rfl
    generalize R.map rD = L at mx lL ⊢
    simp -implicitDefEqProofs [-B_L_ncrooked_10_ev, e1, lt, lL, mx, e2, e3]
  have fin : ∀ (fv : Fv) (d p' : D) (t3 t4 t5 t6 t7 t8 t9 t10 t11 t12 : Sl), (fv = .sh d ∨ fv = .fr d) → Th1 d → PenOk (n + 100) p' →
      B_L_ncrooked_10 [.io p3, .sh (.str t), .sh (.tup (R.map rD)), .sh (.int w), .sh (.int t.length), .sh (.int k), .sh (.int a), .sh (.int b), .no, .no, .no, .no, .no] = .ok (.rt fv) [.io p', .sh (.str t), .sh (.tup (R.map rD)), t3, t4, t5, t6, t7, t8, t9, t10, t11, t12] →
      ∃ (fv : Fv) (d p' : D), F_L_ncrooked [p, .str t, .tup (R.map rD)] = .ok fv [p'] ∧ (fv = .sh d ∨ fv = .fr d) ∧ Th1 d ∧ PenOk (n + 100) p' := by
    intro fv d p' t3 t4 t5 t6 t7 t8 t9 t10 t11 t12 hf h1 h2 e
    refine ⟨fv, d, p', ?_, hf, h1, h2⟩
    rw [← q1] at e
    generalize R.map rD = L at e ⊢
    rcases hf with rfl | rfl
    · simp -implicitDefEqProofs [-B_L_ncrooked_13_ev, F_L_ncrooked_ev, e]
    · simp -implicitDefEqProofs [-B_L_ncrooked_13_ev, F_L_ncrooked_ev, e]
  have tk := slT_take (R.map rD) k
  have dr := slT_drop (R.map rD) k
  have md := slT_mid (R.map rD) k (k + 1)
  have md : slO (some (k : Int)) (some ((k : Int) + 1)) (.tup (R.map rD)) = some (.sh (.tup (((R.map rD).drop k).take 1))) := by rw [Int.natCast_add, Nat.add_sub_cancel_left] at md; exact md
  have h100 : PenOk (n + 100) p3 := hp3.mono (by omega)
  by_cases c0 : w = 0
  · subst c0
    have a1 := addD_tup ((R.map rD).take k) [.tup [.int a, .int b, .str (tl (Str.ofString "q"))]] (by simp; omega)
    have a2 := addD_tup ((R.map rD).take k ++ [.tup [.int a, .int b, .str (tl (Str.ofString "q"))]]) ((R.map rD).drop k) (by simp; omega)
    refine fin (.sh (.tup ((R.map rD).take k ++ [.tup [.int a, .int b, .str (tl (Str.ofString "q"))]] ++ (R.map rD).drop k))) _ p3 (.sh (.int (0 : Nat))) (.sh (.int t.length)) (.sh (.int k)) (.sh (.int a)) (.sh (.int b)) .no .no .no .no .no (.inl rfl) (.inl ⟨_, .inl rfl, fun z hz => ?_, ?_⟩) h100 ?_
    · rcases List.mem_append.mp hz with hz | hz
      · rcases List.mem_append.mp hz with hz | hz
        · exact Lh z (List.mem_of_mem_take hz)
        · simp at hz; subst hz
          have qs : (tl (Str.ofString "q")).length ≤ 1000 ∧ sOk (tl (Str.ofString "q")) = true := by decide +kernel
          refine Dr.tup (fun x hx => ?_) (by simp)
          simp only [List.mem_cons, List.not_mem_nil, or_false] at hx
          rcases hx with rfl | rfl | rfl
          · exact ⟨trivial, fun i e => by cases e; omega⟩
          · exact ⟨trivial, fun i e => by cases e; omega⟩
          · exact ⟨qs, fun i e => by cases e⟩
      · exact Lh z (List.mem_of_mem_drop hz)
    · rw [List.length_append, List.length_append, List.length_take, List.length_drop]; simp at Ll ⊢; omega
    · generalize R.map rD = L at tk dr md a1 a2 ⊢
      simp -implicitDefEqProofs [-List.append_assoc, tk, dr, a1, a2]
  by_cases c1 : w = 1
  · subst c1
    refine fin (.sh (.tup (R.map rD).reverse)) _ p3 (.sh (.int (1 : Nat))) (.sh (.int t.length)) (.sh (.int k)) (.sh (.int a)) (.sh (.int b)) .no .no .no .no .no (.inl rfl) (.inl ⟨_, .inl rfl, fun z hz => Lh z (List.mem_reverse.mp hz), by rw [List.length_reverse]; omega⟩) h100 ?_
    have rv : ∀ L, revTD (.tup L) = some (.sh (.tup L.reverse)) := fun _ => rfl
    generalize R.map rD = L
    simp -implicitDefEqProofs [rv]
  by_cases c2 : w = 2
  · subst c2
    have a1 := addD_tup ((R.map rD).take k) (((R.map rD).drop k).take 1) (by simp; omega)
    have a2 := addD_tup ((R.map rD).take k ++ ((R.map rD).drop k).take 1) ((R.map rD).drop k) (by simp; omega)
    refine fin (.sh (.tup ((R.map rD).take k ++ ((R.map rD).drop k).take 1 ++ (R.map rD).drop k))) _ p3 (.sh (.int (2 : Nat))) (.sh (.int t.length)) (.sh (.int k)) (.sh (.int a)) (.sh (.int b)) .no .no .no .no .no (.inl rfl) (.inl ⟨_, .inl rfl, fun z hz => ?_, ?_⟩) h100 ?_
    · rcases List.mem_append.mp hz with hz | hz
      · rcases List.mem_append.mp hz with hz | hz
        · exact Lh z (List.mem_of_mem_take hz)
        · exact Lh z (List.mem_of_mem_drop (List.mem_of_mem_take hz))
      · exact Lh z (List.mem_of_mem_drop hz)
    · rw [List.length_append, List.length_append, List.length_take, List.length_take, List.length_drop]; omega
    · generalize R.map rD = L at tk dr md a1 a2 ⊢
      generalize (L.drop k).take 1 = M1 at md a1 a2 ⊢
      simp -implicitDefEqProofs [-List.append_assoc, tk, dr, md, a1, a2]
  by_cases c3 : w = 3
  · subst c3
    refine fin (.fr (.lst (R.map rD))) _ p3 (.sh (.int (3 : Nat))) (.sh (.int t.length)) (.sh (.int k)) (.sh (.int a)) (.sh (.int b)) .no .no .no .no .no (.inr rfl) (.inl ⟨_, .inr rfl, Lh, by omega⟩) h100 ?_
    have rv : ∀ L, listD [.tup L] = some (.fr (.lst L)) := fun _ => rfl
    generalize R.map rD = L
    simp -implicitDefEqProofs [rv]
  have n0 : ¬ (w : Int) = 0 := by omega
  have n1 : ¬ (w : Int) = 1 := by omega
  have n2 : ¬ (w : Int) = 2 := by omega
  have n3 : ¬ (w : Int) = 3 := by omega
  by_cases mid : (w : Int) < 6 ∧ R ≠ []
  · obtain ⟨m1, m2⟩ := mid
    have hl : 0 < R.length := List.length_pos_iff.mpr m2
    obtain ⟨d, p4, t8, t9, t10, t11, t12, e, hd, hp4⟩ := crook_odd (k := k) (a := a) (b := b) (S3 := .sh (.int w)) (S6 := .sh (.int a)) (S7 := .sh (.int b)) hp3 (by omega) ht hR (by omega)
    refine fin (.sh d) d p4 (.sh (.int w)) (.sh (.int t.length)) (.sh (.int k)) (.sh (.int a)) (.sh (.int b)) t8 t9 t10 t11 t12 (.inl rfl) hd (hp4.mono (by omega)) ?_
    have ne : (R.map rD).isEmpty = false := by cases R with | nil => exact absurd rfl m2 | cons => rfl
    have nt : neE (.tup (R.map rD)) (.tup []) = some (.sh (.bl true)) := by rw [neE_tup, ne]; rfl
    generalize R.map rD = L at e nt ⊢
    simp -implicitDefEqProofs [-B_L_ncrooked_5_ev, -neE_tup, c0, n0, n1, n2, n3, m1, nt, e]
  · obtain ⟨d, p4, e, hd, hp4⟩ := crook_any (L := R.map rD) (S3 := .sh (.int w)) (S4 := .sh (.int t.length)) (S5 := .sh (.int k)) (S6 := .sh (.int a)) (S7 := .sh (.int b)) (T8 := .no) (T9 := .no) (T10 := .no) (T11 := .no) (T12 := .no) (s1 := .sh (.str t)) hp3 (by omega) Lh Ll
    refine fin (.sh d) d p4 (.sh (.int w)) (.sh (.int t.length)) (.sh (.int k)) (.sh (.int a)) (.sh (.int b)) .no .no .no .no .no (.inl rfl) hd (hp4.mono (by omega)) ?_
    by_cases m1 : (w : Int) < 6
    · have m2 : R = [] := Classical.byContradiction fun h => mid ⟨m1, h⟩
      subst m2
      have nt : neE (.tup ([] : List D)) (.tup []) = some (.sh (.bl false)) := rfl
      simp only [List.map_nil] at e ⊢
      simp -implicitDefEqProofs [-B_L_ncrooked_0_ev, -neE_tup, c0, n0, n1, n2, n3, m1, nt, e]
    · generalize R.map rD = L at e ⊢
      simp -implicitDefEqProofs [-B_L_ncrooked_0_ev, c0, n0, n1, n2, n3, m1, e]
end Den

/-! PH8: one crooked turn -/
namespace Den
open PySem PySem.Spec PyProof.Rows L2 PL AB WN
open TL (tl)
def dueT (u : List Nat) : D := .tup [.str (sS "told"), .str u]
def dueF (k : Nat) : D := .tup [.str (sS "no"), .int k, .bl true]
def dueX (t : List Nat) (d : D) : D := match fault t d with
  | none => dueT (putE t 0 (rowsOf d))
  | some k => dueF k
theorem dueT_ne (u : List Nat) : neO (dueT u) (dueT u) = some (.sh (.bl false)) := by
  unfold neO
  have h : pl 60 (dueT u) = true := rfl
  rw [if_pos ⟨h, h⟩]
  simp [dueT, eqD, eqDs]
theorem dueF_ne (k : Nat) : neO (dueF k) (dueF k) = some (.sh (.bl false)) := by
  unfold neO
  have h : pl 60 (dueF k) = true := rfl
  rw [if_pos ⟨h, h⟩]
  simp [dueF, eqD, eqDs]
theorem okRep_bl (b : Bool) : okRep (.bl b) := by cases b <;> decide +kernel
theorem crook_turn {S s2 s7 s8 s9 s10 s11 s12 s13 : Sl} {n : Nat} {p : D} {z t g : List Nat} {R : List Rw} (hp : PenOk n p) (hn : n < 2 ^ 25) (ht : t.length ≤ 10) (hR : DrR t R) (h8 : Gs s8) (h10 : Gs s10) (h11 : Fs s11) (h12 : Fs s12) (h13 : Fs s13) :
    ∃ (p' : D) (t8 t10 t11 t12 t13 : Sl), B_law_6 [S, .ow p, s2, .sh (.str z), .sh (.str t), .sh (.tup (R.map rD)), .sh (.str g), s7, s8, s9, s10, s11, s12, s13] = .ok .nx [S, .ow p', s2, .sh (.str z), .sh (.str t), .sh (.tup (R.map rD)), .sh (.str g), s7, t8, s9, t10, t11, t12, t13] ∧
      PenOk (n + 110) p' ∧ Gs t8 ∧ Gs t10 ∧ Fs t11 ∧ Fs t12 ∧ Fs t13 := by
  obtain ⟨fv, d, p1, e1, hf, hd, hp1⟩ := ncrooked_ok hp (by omega) ht hR
  generalize R.map rD = L at e1 ⊢
  have rd := repD_ok hd.rep
  generalize repL d = K at rd
  have nf := nfault_ok (t := t) (d := d) (by omega) (fun xs e => ⟨(hd.parts xs e).1, by have := (hd.parts xs e).2; omega⟩) hd.kn
  have hx : ∀ xs, d = .tup xs → (∀ x ∈ xs, Dr x) ∧ xs.length ≤ 400 := fun xs e => ⟨(hd.parts xs e).1, by have := (hd.parts xs e).2; omega⟩
  have q1 : B_law_6 [S, .ow p, s2, .sh (.str z), .sh (.str t), .sh (.tup L), .sh (.str g), s7, s8, s9, s10, s11, s12, s13] = B_law_4 [S, .ow p1, s2, .sh (.str z), .sh (.str t), .sh (.tup L), .sh (.str g), s7, s8, s9, .sh d, .sh (.str K), .sh (oD (fault t d)), s13] := by
    rcases hf with rfl | rfl
    · simp -implicitDefEqProofs [-B_law_4_ev, e1, rd, nf, setS_gs h10, setS_fs h11, setS_fs h12]
    · simp -implicitDefEqProofs [-B_law_4_ev, e1, rd, nf, setS_gsf h10, setS_fs h11, setS_fs h12]
  have ex := exchanged_ok (t := t) (d := d) (by omega) hx hd.kn
  have q3 : ∃ (o : List Nat) (p2 : D), B_law_4 [S, .ow p1, s2, .sh (.str z), .sh (.str t), .sh (.tup L), .sh (.str g), s7, s8, s9, .sh d, .sh (.str K), .sh (oD (fault t d)), s13] = B_law_1 [S, .ow p2, s2, .sh (.str z), .sh (.str t), .sh (.tup L), .sh (.str g), s7, .sh (dueX t d), s9, .sh d, .sh (.str K), .sh (oD (fault t d)), .sh (.str o)] ∧ PenOk (n + 110) p2 := by
    unfold dueX
    cases q : fault t d with
    | none =>
      rw [q] at ex
      obtain ⟨e, hr⟩ := fault_rows (fun xs e => (hx xs e).1) q
      have pl := nput_ok (t := t) (R := rowsOf d) (by omega) (by have := (hx _ e).2; rw [List.length_map] at this; exact this) (fun r h => (hr r h).2.2)
      rw [← e] at pl
      generalize putE t 0 (rowsOf d) = u at pl ex
      obtain ⟨o, p2, e2, ho, hp2⟩ := pick_lst (ds := [.str g, .str u]) hp1 (by omega) (by simp) (by simp)
      obtain ⟨o, rfl⟩ : ∃ o', o = .str o' := by
        simp only [List.mem_cons, List.not_mem_nil, or_false] at ho
        rcases ho with rfl | rfl
        · exact ⟨_, rfl⟩
        · exact ⟨_, rfl⟩
      refine ⟨o, p2, ?_, hp2.mono (by omega)⟩
      have nn : isntD .non .non = some (.sh (.bl false)) := rfl
      have ni : isD .non .non = some (.sh (.bl true)) := rfl
      have st1 : B_law_4 [S, .ow p1, s2, .sh (.str z), .sh (.str t), .sh (.tup L), .sh (.str g), s7, s8, s9, .sh d, .sh (.str K), .sh (oD none), s13] = B_law_3 [S, .ow p1, s2, .sh (.str z), .sh (.str t), .sh (.tup L), .sh (.str g), s7, .sh (dueT u), s9, .sh d, .sh (.str K), .sh .non, s13] := by
        simp -implicitDefEqProofs [-B_law_3_ev, oD, nn, pl, dueT, sS, setS_gs h8]
      have ne := dueT_ne u
      have c2 : ∀ ε, ctO (fun d => D.tup [.str (tl (Str.ofString "told")), d]) (some ([.str u], ε)) = .ok (.sh (dueT u)) ε := fun _ => rfl
      have st2 : B_law_3 [S, .ow p1, s2, .sh (.str z), .sh (.str t), .sh (.tup L), .sh (.str g), s7, .sh (dueT u), s9, .sh d, .sh (.str K), .sh .non, s13] = B_law_2 [S, .ow p1, s2, .sh (.str z), .sh (.str t), .sh (.tup L), .sh (.str g), s7, .sh (dueT u), s9, .sh d, .sh (.str K), .sh .non, s13] := by
        have ex : F_exchanged [.str t, d] = .ok (.sh (.str u)) [] := ex
        generalize dueT u = Q at ne c2 ⊢
        simp -implicitDefEqProofs [-B_law_2_ev, ex, c2, ne, rd]
      rw [st1, st2]
      have i1 : ixD (dueT u) (.int 1) = some (.sh (.str u)) := rfl
      show _ = B_law_1 [S, .ow p2, s2, .sh (.str z), .sh (.str t), .sh (.tup L), .sh (.str g), s7, .sh (dueT u), s9, .sh d, .sh (.str K), .sh .non, .sh (.str o)]
      generalize dueT u = Q at i1 ⊢
      simp -implicitDefEqProofs [-B_law_1_ev, ni, i1, e2, setS_fs h13]
    | some k =>
      rw [q] at ex
      obtain ⟨o, p2, e2, ho, hp2⟩ := pick_lst (ds := [.str g, .str g]) hp1 (by omega) (by simp) (by simp)
      obtain ⟨o, rfl⟩ : ∃ o', o = .str o' := by
        simp only [List.mem_cons, List.not_mem_nil, or_false, or_self] at ho
        exact ⟨_, ho⟩
      refine ⟨o, p2, ?_, hp2.mono (by omega)⟩
      have nn : isntD (.int (k : Int)) .non = some (.sh (.bl true)) := rfl
      have ni : isD (.int (k : Int)) .non = some (.sh (.bl false)) := rfl
      have st1 : B_law_4 [S, .ow p1, s2, .sh (.str z), .sh (.str t), .sh (.tup L), .sh (.str g), s7, s8, s9, .sh d, .sh (.str K), .sh (oD (some k)), s13] = B_law_3 [S, .ow p1, s2, .sh (.str z), .sh (.str t), .sh (.tup L), .sh (.str g), s7, .sh (dueF k), s9, .sh d, .sh (.str K), .sh (.int k), s13] := by
        simp -implicitDefEqProofs [-B_law_3_ev, oD, nn, dueF, sS, setS_gs h8]
      have ne := dueF_ne k
      have c2 : ∀ ε, ctE ε (hdOne "NoExchange" hd_L_nexchanged ⟨"NoExchange", [("index", .int k)]⟩) = .ok (.sh (dueF k)) ε := fun _ => rfl
      have st2 : B_law_3 [S, .ow p1, s2, .sh (.str z), .sh (.str t), .sh (.tup L), .sh (.str g), s7, .sh (dueF k), s9, .sh d, .sh (.str K), .sh (.int k), s13] = B_law_2 [S, .ow p1, s2, .sh (.str z), .sh (.str t), .sh (.tup L), .sh (.str g), s7, .sh (dueF k), s9, .sh d, .sh (.str K), .sh (.int k), s13] := by
        have ex : F_exchanged [.str t, d] = .exc ⟨"NoExchange", [("index", .int k)]⟩ [] := ex
        generalize dueF k = Q at ne c2 ⊢
        simp -implicitDefEqProofs [-B_law_2_ev, ex, c2, ne, rd]
      rw [st1, st2]
      show _ = B_law_1 [S, .ow p2, s2, .sh (.str z), .sh (.str t), .sh (.tup L), .sh (.str g), s7, .sh (dueF k), s9, .sh d, .sh (.str K), .sh (.int k), .sh (.str o)]
      generalize dueF k = Q
      simp -implicitDefEqProofs [-B_law_1_ev, ni, e2, setS_fs h13]
  obtain ⟨o, p2, q3, hp2⟩ := q3
  have ie := is_exchange_ok (t := t) (o := o) (d := d) (by omega) hx hd.kn
  have rb := repD_ok (okRep_bl (okX t o d))
  have q4 : B_law_1 [S, .ow p2, s2, .sh (.str z), .sh (.str t), .sh (.tup L), .sh (.str g), s7, .sh (dueX t d), s9, .sh d, .sh (.str K), .sh (oD (fault t d)), .sh (.str o)] = .ok .nx [S, .ow p2, s2, .sh (.str z), .sh (.str t), .sh (.tup L), .sh (.str g), s7, .sh (dueX t d), s9, .sh d, .sh (.str K), .sh (oD (fault t d)), .sh (.str o)] := by
    unfold dueX
    cases q : fault t d with
    | none =>
      have ni : isD .non .non = some (.sh (.bl true)) := rfl
      have ok : okX t o d = (putE t 0 (rowsOf d) == o) := by unfold okX; rw [q]; rfl
      rw [ok] at ie rb
      generalize putE t 0 (rowsOf d) = u at ie rb
      have i1 : ixD (dueT u) (.int 1) = some (.sh (.str u)) := rfl
      have ee : eqO (.str u) (.str o) = some (.sh (.bl (u == o))) := rfl
      show B_law_1 [S, .ow p2, s2, .sh (.str z), .sh (.str t), .sh (.tup L), .sh (.str g), s7, .sh (dueT u), s9, .sh d, .sh (.str K), .sh .non, .sh (.str o)] = .ok .nx [S, .ow p2, s2, .sh (.str z), .sh (.str t), .sh (.tup L), .sh (.str g), s7, .sh (dueT u), s9, .sh d, .sh (.str K), .sh .non, .sh (.str o)]
      generalize dueT u = Q at i1 ⊢
      generalize (u == o) = b at ie rb ee
      generalize repL (.bl b) = rl at rb
      simp -implicitDefEqProofs [-PL.eq_str, ie, ni, i1, ee, rb]
    | some k =>
      have ni : isD (.int (k : Int)) .non = some (.sh (.bl false)) := rfl
      have ok : okX t o d = false := by unfold okX; rw [q]; rfl
      rw [ok] at ie rb
      generalize repL (.bl false) = rl at rb
      show B_law_1 [S, .ow p2, s2, .sh (.str z), .sh (.str t), .sh (.tup L), .sh (.str g), s7, .sh (dueF k), s9, .sh d, .sh (.str K), .sh (.int k), .sh (.str o)] = .ok .nx [S, .ow p2, s2, .sh (.str z), .sh (.str t), .sh (.tup L), .sh (.str g), s7, .sh (dueF k), s9, .sh d, .sh (.str K), .sh (.int k), .sh (.str o)]
      generalize dueF k = Q
      simp -implicitDefEqProofs [ie, ni, rb]
  exact ⟨p2, .sh (dueX t d), .sh d, .sh (.str K), .sh (oD (fault t d)), .sh (.str o), by rw [q1, q3, q4], hp2, .sh _, .sh _, .sh _, .sh _, .sh _⟩
end Den

/-! PLAW61: the law holds -/
namespace Den
open PySem PySem.Spec PyProof.Rows L2 PL AB WN
open TL (tl)
theorem rows_rD (R : List Rw) : rowsOf (.tup (R.map rD)) = R := by
  show (R.map rD).map rOf = R
  rw [List.map_map]
  conv => rhs; rw [← List.map_id R]
  exact List.map_congr_left fun r _ => rfl
theorem cost_bd {x : Int} (hx : x.natAbs ≤ 200) : ∀ (R : List Rw), (∀ r ∈ R, r.1 ≤ 1000 ∧ r.2.1 ≤ 1000 ∧ r.2.2.length ≤ 1000) → (costE x R).natAbs ≤ 4000 * R.length
  | [], _ => by simp [costE]
  | r :: R, h => by
    have i := cost_bd hx R fun y hy => h y (List.mem_cons_of_mem _ hy)
    have h1 := h r List.mem_cons_self
    have e : costE x (r :: R) = ((r.2.1 : Nat) : Int) - (r.1 : Nat) + (r.2.2.length : Nat) + x + costE x R := rfl
    rw [e, List.length_cons]
    omega
theorem two_rep {a b : Int} (ha : a.natAbs ≤ 100000) (hb : b.natAbs ≤ 100000) : okRep (.lst [.int a, .int b]) := by
  refine RB.list (n := 60000) (fun d hd => ?_) (by simp)
  simp only [List.mem_cons, List.not_mem_nil, or_false] at hd
  rcases hd with rfl | rfl
  · exact RB.sc (d := .int a) trivial fun i e => by cases e; omega
  · exact RB.sc (d := .int b) trivial fun i e => by cases e; omega
theorem okX_own {t : List Nat} {R : List Rw} (h : DrR t R) (o : List Nat) : okX t o (.tup (R.map rD)) = (putE t 0 R == o) := by
  unfold okX
  rw [rows_rD]
  have : fault t (.tup (R.map rD)) = none := h.1
  rw [this]; rfl
theorem turn_ok {S s2 s3 s4 s5 s6 s7 s8 s9 s10 s11 s12 s13 : Sl} {n : Nat} {p : D} (hp : PenOk n p) (hn : n < 2 ^ 20) (h3 : Fs s3) (h4 : Fs s4) (h5 : Fs s5) (h6 : Fs s6) (h7 : Fs s7) (h8 : Gs s8) (h9 : Fs s9) (h10 : Gs s10) (h11 : Fs s11) (h12 : Fs s12) (h13 : Fs s13) :
    ∃ (p' : D) (t3 t4 t5 t6 t7 t8 t9 t10 t11 t12 t13 : Sl), B_law_17 [S, .ow p, s2, s3, s4, s5, s6, s7, s8, s9, s10, s11, s12, s13] = .ok .nx [S, .ow p', s2, t3, t4, t5, t6, t7, t8, t9, t10, t11, t12, t13] ∧ PenOk (n + 1000) p' ∧ Fs t3 ∧ Fs t4 ∧ Fs t5 ∧ Fs t6 ∧ Fs t7 ∧ Gs t8 ∧ Fs t9 ∧ Gs t10 ∧ Fs t11 ∧ Fs t12 ∧ Fs t13 := by
  obtain ⟨z, p1, e1, z0, z1, zl, hp1⟩ := few_ok hp (by omega)
  obtain ⟨t, p2, e2, ht, tz, hp2⟩ := ntext_ok (s := z) (m := 10) hp1 (by omega) z0 (by omega) (by omega)
  have tl1 : ∀ c ∈ t, c ∈ tl lettersS := fun c hc => zl c (tz c hc)
  obtain ⟨R, p3, e3, hR, hp3⟩ := ndrawn_ok (t := t) (s := z) hp2 (by omega) (by omega) tl1 zl z0 (by omega)
  simp only [Int.cast_ofNat_Int] at e2
  obtain ⟨i, p4, e4, i0, i1, hp4⟩ := draw_ok (m := 101) hp3 (by omega) (by omega) (by omega)
  obtain ⟨x, p5, e5, hx, hp5⟩ := pick_lst (ds := [.int 0, .int 1, .int 100, .int i]) hp4 (by omega) (by simp) (by simp)
  obtain ⟨x, rfl, x0, x1⟩ : ∃ y : Int, x = .int y ∧ 0 ≤ y ∧ y ≤ 100 := by
    simp only [List.mem_cons, List.not_mem_nil, or_false] at hx
    rcases hx with rfl | rfl | rfl | rfl
    · exact ⟨_, rfl, by omega, by omega⟩
    · exact ⟨_, rfl, by omega, by omega⟩
    · exact ⟨_, rfl, by omega, by omega⟩
    · exact ⟨_, rfl, by omega, by omega⟩
  have hl4 : R.length ≤ 4 := hR.2.1
  have hr1 : ∀ r ∈ R, r.2.2.length ≤ 1000 := fun r hr => (hR.2.2 r hr).1
  have np := nput_ok (t := t) (R := R) (by omega) (by omega) hr1
  have hdr := row_dr (t := t) (by omega) hR
  have hxs : ∀ xs, D.tup (R.map rD) = .tup xs → (∀ x ∈ xs, Dr x) ∧ xs.length ≤ 400 := fun xs e => by
    cases e
    refine ⟨fun d hd => ?_, by rw [List.length_map]; omega⟩
    obtain ⟨r, hr, rfl⟩ := List.mem_map.mp hd
    exact hdr r hr
  have kn : Kn (.tup (R.map rD)) := ⟨_, rfl⟩
  have fn : fault t (.tup (R.map rD)) = none := hR.1
  have ex := exchanged_ok (t := t) (d := .tup (R.map rD)) (by omega) hxs kn
  rw [fn, rows_rD] at ex
  have ie1 := is_exchange_ok (t := t) (o := putE t 0 R) (d := .tup (R.map rD)) (by omega) hxs kn
  rw [okX_own hR, beq_self_eq_true] at ie1
  have ie2 := is_exchange_ok (t := t) (o := putE t 0 R ++ tl (Str.ofString "q")) (d := .tup (R.map rD)) (by omega) hxs kn
  have nq : (putE t 0 R == putE t 0 R ++ tl (Str.ofString "q")) = false := by
    rw [beq_eq_false_iff_ne]
    intro h
    have := congrArg List.length h
    rw [List.length_append, show (tl (Str.ofString "q")).length = 1 from rfl] at this
    omega
  rw [okX_own hR, nq] at ie2
  have pl := put_len t R 0 hr1
  have pl2 : (t.length + 1000) * R.length ≤ 2000 * 4 := Nat.mul_le_mul (by omega) hl4
  have aq := addS_ok (putE t 0 R) (tl (Str.ofString "q")) (by rw [show (tl (Str.ofString "q")).length = 1 from rfl]; omega)
  have c0 := cost_of_ok (R := R) 0 (by omega) hr1
  have cx := cost_of_ok (R := R) x (by omega) hr1
  have n0 := ncost_ok (R := R) 0 (by omega) hr1
  have nx := ncost_ok (R := R) x (by omega) hr1
  have bd : ∀ r ∈ R, r.1 ≤ 1000 ∧ r.2.1 ≤ 1000 ∧ r.2.2.length ≤ 1000 := fun r hr => by
    have := fault_bd R 0 0 hR.1 r hr
    have := hr1 r hr
    omega
  have b0 := cost_bd (x := 0) (by decide) R bd
  have bx := cost_bd (x := x) (by omega) R bd
  have rp := repD_ok (two_rep (a := costE 0 R) (b := costE x R) (by omega) (by omega))
  have kp : ∀ x y : Fv, kperm 0 2 [1, 0] [] [x, y] = [y, x] := fun _ _ => rfl
  have kp3 : ∀ x y z : Fv, kperm 0 3 [2, 1, 0] [] [x, y, z] = [z, y, x] := fun _ _ _ => rfl
  have it : isntD (.bl true) (.bl true) = some (.sh (.bl false)) := rfl
  have if_ : isntD (.bl false) (.bl false) = some (.sh (.bl false)) := rfl
  obtain ⟨g, eg⟩ : ∃ g, g = putE t 0 R := ⟨_, rfl⟩
  rw [← eg] at np ex ie1 ie2 aq
  have ne := dueT_ne g
  have c2 : ∀ ε, ctO (fun d => D.tup [.str (tl (Str.ofString "told")), d]) (some ([.str g], ε)) = .ok (.sh (dueT g)) ε := fun _ => rfl
  have ex : F_exchanged [.str t, .tup (R.map rD)] = .ok (.sh (.str g)) [] := ex
  have inner : ∃ ε', forD (tgN 9) B_law_6 (rngD 0 6) [S, .ow p5, s2, .sh (.str z), .sh (.str t), .sh (.tup (R.map rD)), .sh (.str g), .sh (.int x), .ow (.lst [.int (costE 0 R), .int (costE x R)]), s9, s10, s11, s12, s13] = .ok .nx ε' ∧
      ∃ (p' : D) (t8 t9 t10 t11 t12 t13 : Sl), ε' = [S, .ow p', s2, .sh (.str z), .sh (.str t), .sh (.tup (R.map rD)), .sh (.str g), .sh (.int x), t8, t9, t10, t11, t12, t13] ∧ PenOk (n + 300 + 110 * 6) p' ∧ Gs t8 ∧ Fs t9 ∧ Gs t10 ∧ Fs t11 ∧ Fs t12 ∧ Fs t13 := by
    obtain ⟨ε', ef, h⟩ := for_inv0 (g := tgN 9) (b := B_law_6)
      (P := fun j ε => ∃ (p' : D) (t8 t9 t10 t11 t12 t13 : Sl), ε = [S, .ow p', s2, .sh (.str z), .sh (.str t), .sh (.tup (R.map rD)), .sh (.str g), .sh (.int x), t8, t9, t10, t11, t12, t13] ∧ PenOk (n + 300 + 110 * j) p' ∧ Gs t8 ∧ Fs t9 ∧ Gs t10 ∧ Fs t11 ∧ Fs t12 ∧ Fs t13)
      (rngD 0 6) [S, .ow p5, s2, .sh (.str z), .sh (.str t), .sh (.tup (R.map rD)), .sh (.str g), .sh (.int x), .ow (.lst [.int (costE 0 R), .int (costE x R)]), s9, s10, s11, s12, s13] ⟨p5, _, _, _, _, _, _, rfl, hp5.mono (by omega), .ow _, h9, h10, h11, h12, h13⟩
      (fun j d ε hd ⟨p', t8, t9, t10, t11, t12, t13, q, hp, g8, g9, g10, g11, g12, g13⟩ => by
        subst q
        obtain ⟨hj, rfl⟩ := rngD_gt _ _ _ _ hd
        obtain ⟨p2, u8, u10, u11, u12, u13, e, hp2, r8, r10, r11, r12, r13⟩ := crook_turn (S := S) (s2 := s2) (s7 := .sh (.int x)) (s9 := .sh (.int (0 + (j : Int)))) (z := z) (g := g) hp (by omega) ht hR g8 g10 g11 g12 g13
        exact ⟨_, _, by simp -implicitDefEqProofs [tgN, setS_fs g9] <;> rfl, e, p2, u8, _, u10, u11, u12, u13, rfl, hp2.mono (by omega), r8, .sh _, r10, r11, r12, r13⟩)
    rw [rngD_len] at h
    exact ⟨ε', ef, h⟩
  obtain ⟨ε', ef, p6, t8, t9, t10, t11, t12, t13, rfl, hp6, g8, g9, g10, g11, g12, g13⟩ := inner
  have q1 : B_law_17 [S, .ow p, s2, s3, s4, s5, s6, s7, s8, s9, s10, s11, s12, s13] = B_law_13 [S, .ow p3, s2, .sh (.str z), .sh (.str t), .sh (.tup (R.map rD)), .sh (.str g), s7, s8, s9, s10, s11, s12, s13] := by
    generalize R.map rD = L at e3 np ⊢
    simp -implicitDefEqProofs [-B_law_13_ev, e1, e2, e3, np, setS_fs h3, setS_fs h4, setS_fs h5, setS_fs h6]
  have q2 : B_law_13 [S, .ow p3, s2, .sh (.str z), .sh (.str t), .sh (.tup (R.map rD)), .sh (.str g), s7, s8, s9, s10, s11, s12, s13] = B_law_12 [S, .ow p3, s2, .sh (.str z), .sh (.str t), .sh (.tup (R.map rD)), .sh (.str g), s7, s8, s9, s10, s11, s12, s13] := by
    generalize R.map rD = L at ex ⊢
    have ne2 : neO (dueT g) (.tup [.str (tl (Str.ofString "told")), .str g]) = some (.sh (.bl false)) := ne
    generalize dueT g = Q at ne ne2 c2
    simp -implicitDefEqProofs [-B_law_12_ev, kp, ex, c2, ne2]
  have q3 : B_law_12 [S, .ow p3, s2, .sh (.str z), .sh (.str t), .sh (.tup (R.map rD)), .sh (.str g), s7, s8, s9, s10, s11, s12, s13] = B_law_10 [S, .ow p3, s2, .sh (.str z), .sh (.str t), .sh (.tup (R.map rD)), .sh (.str g), s7, s8, s9, s10, s11, s12, s13] := by
    generalize R.map rD = L at ie1 ie2 ⊢
    simp -implicitDefEqProofs [-B_law_10_ev, kp3, ie1, ie2, aq, it, if_]
  have q4 : B_law_10 [S, .ow p3, s2, .sh (.str z), .sh (.str t), .sh (.tup (R.map rD)), .sh (.str g), s7, s8, s9, s10, s11, s12, s13] = B_law_7 [S, .ow p5, s2, .sh (.str z), .sh (.str t), .sh (.tup (R.map rD)), .sh (.str g), .sh (.int x), .ow (.lst [.int (costE 0 R), .int (costE x R)]), s9, s10, s11, s12, s13] := by
    generalize R.map rD = L at c0 cx n0 nx ⊢
    generalize costE 0 R = y0 at c0 n0 rp ⊢
    generalize costE x R = yx at cx nx rp ⊢
    generalize repL (.lst [.int y0, .int yx]) = K at rp
    simp -implicitDefEqProofs [-B_law_7_ev, e4, e5, kp, c0, cx, n0, nx, rp, setS_fs h7, setS_gsf h8]
  refine ⟨p6, .sh (.str z), .sh (.str t), .sh (.tup (R.map rD)), .sh (.str g), .sh (.int x), t8, t9, t10, t11, t12, t13, ?_, hp6.mono (by omega), .sh _, .sh _, .sh _, .sh _, .sh _, g8, g9, g10, g11, g12, g13⟩
  rw [q1, q2, q3, q4]
  generalize R.map rD = L at ef ⊢
  generalize D.lst [.int (costE 0 R), .int (costE x R)] = Q at ef ⊢
  simp -implicitDefEqProofs [ef]
theorem law_holds (ns : List Int) (hns : ns.length ≤ 63) : ∃ outs, F_law [.flz (ns.map .int)] = .ok (.sh (.bl true)) outs := by
  obtain ⟨p, ep, hp⟩ := pen_ok ns hns
  have hm : ∃ k : Nat, k ≤ 20 ∧ (6 : Int) + (if (ns.length : Int) < 6 then (ns.length : Int) else 6) = (k : Int) := ⟨6 + min 6 ns.length, by omega, by split <;> omega⟩
  obtain ⟨k, hk, ek⟩ := hm
  obtain ⟨ε', ef, p', s2, s3, s4, s5, s6, s7, s8, s9, s10, s11, s12, s13, rfl, _⟩ := for_inv0 (g := tgN 2) (b := B_law_17)
    (P := fun j ε => ∃ (p : D) (s2 s3 s4 s5 s6 s7 s8 s9 s10 s11 s12 s13 : Sl), ε = [.sh (.flz (ns.map .int)), .ow p, s2, s3, s4, s5, s6, s7, s8, s9, s10, s11, s12, s13] ∧ PenOk (1000 * j) p ∧ Fs s2 ∧ Fs s3 ∧ Fs s4 ∧ Fs s5 ∧ Fs s6 ∧ Fs s7 ∧ Gs s8 ∧ Fs s9 ∧ Gs s10 ∧ Fs s11 ∧ Fs s12 ∧ Fs s13)
    (rngD 0 k) [.sh (.flz (ns.map .int)), .ow p, .no, .no, .no, .no, .no, .no, .no, .no, .no, .no, .no, .no] ⟨p, _, _, _, _, _, _, _, _, _, _, _, _, rfl, hp, .no, .no, .no, .no, .no, .no, .no, .no, .no, .no, .no, .no⟩
    (fun j d ε hd ⟨p, s2, s3, s4, s5, s6, s7, s8, s9, s10, s11, s12, s13, e, hp, h2, h3, h4, h5, h6, h7, h8, h9, h10, h11, h12, h13⟩ => by
      subst e
      obtain ⟨hj, rfl⟩ := rngD_gt _ _ _ _ hd
      rw [Int.zero_add]
      obtain ⟨p', t3, t4, t5, t6, t7, t8, t9, t10, t11, t12, t13, et, hp', r⟩ := turn_ok (S := .sh (.flz (ns.map .int))) (s2 := .sh (.int (j : Int))) hp (by omega) h3 h4 h5 h6 h7 h8 h9 h10 h11 h12 h13
      exact ⟨_, _, by simp -implicitDefEqProofs [tgN, setS_fs h2] <;> rfl, et, p', _, _, _, _, _, _, _, _, _, _, _, _, rfl, hp'.mono (by omega), .sh _, r⟩)
  have ex := exchanged_ok (t := []) (d := .tup []) (by simp) (fun xs e => by cases e; simp) ⟨_, rfl⟩
  have ex : F_exchanged [.str [], .tup []] = .ok (.sh (.str [])) [] := ex
  have co : F_cost_of [.tup [], .int 0] = .ok (.sh (.int 0)) [] := cost_of_ok (R := []) 0 (by simp) (fun r h => by simp at h)
  refine ⟨[], ?_⟩
  have hk2 : (k : Int) < 4611686018427387904 := by omega
  simp -implicitDefEqProofs [F_law_ev, ep, ek, hk2, ef, ex, co]
end Den

namespace Law
open PySem PySem.Spec PySem.W PySem.Calls PyProof.Rows L2 AB PL Den LamX
theorem all_mk {P : Program} {w : World} {K : PySem.W.Frag} {h : Heap} {mg : Str → Option Value} {fa f0 f1 f2 f3 f4 f5 f6 f7 f8 f9 f10 f11 f12 f13 f14 f15 f16 f17 f18 f19 f20 f21 f22 f23 f24 f25 f26 f27 f28 f29 f30 f31 : Addr} {ts : List Addr} (X : K.In h) (G : h.Ns mainGlobals mg) (hfa : mg "law" = some (.ref fa))
    {od0 an0 od1 an1 od2 an2 od3 an3 od4 an4 od5 an5 od6 an6 od7 an7 od8 an8 od9 an9 od10 an10 od11 an11 od12 an12 od13 an13 od14 an14 od15 an15 od16 an16 od17 an17 od18 an18 od19 an19 od20 an20 od21 an21 od22 an22 od23 an23 od24 an24 od25 an25 od26 an26 od27 an27 od28 an28 od29 an29 od30 an30 od31 an31 : Option Addr} {sl0 sl1 sl2 sl3 sl4 sl5 sl6 sl7 sl8 sl9 sl10 sl11 sl12 sl13 sl14 sl15 sl16 sl17 sl18 sl19 sl20 sl21 sl22 sl23 sl24 sl25 sl26 sl27 sl28 sl29 sl30 sl31 : Array (Option Value)} {oc0 kV0 dc0 pm0 ct0 cd0 oc1 kV1 dc1 pm1 ct1 cd1 oc2 kV2 dc2 pm2 ct2 cd2 oc3 kV3 dc3 pm3 ct3 cd3 oc4 kV4 dc4 pm4 ct4 cd4 oc5 kV5 dc5 pm5 ct5 cd5 oc6 kV6 dc6 pm6 ct6 cd6 oc7 kV7 dc7 pm7 ct7 cd7 oc8 kV8 dc8 pm8 ct8 cd8 oc9 kV9 dc9 pm9 ct9 cd9 oc10 dc10 pm10 ct10 cd10 oc11 kV11 dc11 pm11 ct11 cd11 oc12 kV12 dc12 pm12 ct12 cd12 oc13 kV13 dc13 pm13 ct13 cd13 oc14 kV14 dc14 pm14 ct14 cd14 oc15 kV15 dc15 pm15 ct15 cd15 oc16 kV16 dc16 pm16 ct16 cd16 oc17 kV17 dc17 pm17 ct17 cd17 oc18 kV18 dc18 pm18 ct18 cd18 oc19 kV19 dc19 pm19 ct19 cd19 oc20 kV20 dc20 pm20 ct20 cd20 oc21 kV21 dc21 pm21 ct21 cd21 oc22 kV22 dc22 pm22 ct22 cd22 oc23 kV23 dc23 pm23 ct23 cd23 oc24 kV24 dc24 pm24 ct24 cd24 oc25 kV25 dc25 pm25 ct25 cd25 oc26 kV26 dc26 pm26 ct26 cd26 oc27 kV27 dc27 pm27 ct27 cd27 oc28 kV28 dc28 pm28 ct28 cd28 oc29 kV29 dc29 pm29 ct29 cd29 oc30 kV30 dc30 pm30 ct30 cd30 oc31 kV31 dc31 pm31 ct31 : Value}
    {c00 PT0 : Addr}
    (a0 : PySem.W.nsIn K mainGlobals "is_integer" = some (some (.ref f0)))
    (l0 : K.lookup f0 = some ⟨oc0, od0, .func (PySem.W.fnOf "is_integer" "is_integer" (defArgs s_is_integer) (defBody s_is_integer) (defScope s_is_integer) .none kV0 dc0 pm0 an0 cd0 ct0), sl0⟩)
    (c0 : PySem.W.codeIn K cd0 "is_integer" = true)
    (k0 : PySem.W.keepIn K (.ref f0) = true)
    (a1 : PySem.W.nsIn K mainGlobals "is_within" = some (some (.ref f1)))
    (l1 : K.lookup f1 = some ⟨oc1, od1, .func (PySem.W.fnOf "is_within" "is_within" (defArgs s_is_within) (defBody s_is_within) (defScope s_is_within) .none kV1 dc1 pm1 an1 cd1 ct1), sl1⟩)
    (c1 : PySem.W.codeIn K cd1 "is_within" = true)
    (k1 : PySem.W.keepIn K (.ref f1) = true)
    (a2 : PySem.W.nsIn K mainGlobals "is_text" = some (some (.ref f2)))
    (l2 : K.lookup f2 = some ⟨oc2, od2, .func (PySem.W.fnOf "is_text" "is_text" (defArgs s_is_text) (defBody s_is_text) (defScope s_is_text) .none kV2 dc2 pm2 an2 cd2 ct2), sl2⟩)
    (c2 : PySem.W.codeIn K cd2 "is_text" = true)
    (k2 : PySem.W.keepIn K (.ref f2) = true)
    (a3 : PySem.W.nsIn K mainGlobals "places" = some (some (.ref f3)))
    (l3 : K.lookup f3 = some ⟨oc3, od3, .func (PySem.W.fnOf "places" "places" (defArgs s_places) (defBody s_places) (defScope s_places) .none kV3 dc3 pm3 an3 cd3 ct3), sl3⟩)
    (c3 : PySem.W.codeIn K cd3 "places" = true)
    (k3 : PySem.W.keepIn K (.ref f3) = true)
    (a4 : PySem.W.nsIn K mainGlobals "stands_once" = some (some (.ref f4)))
    (l4 : K.lookup f4 = some ⟨oc4, od4, .func (PySem.W.fnOf "stands_once" "stands_once" (defArgs s_stands_once) (defBody s_stands_once) (defScope s_stands_once) .none kV4 dc4 pm4 an4 cd4 ct4), sl4⟩)
    (c4 : PySem.W.codeIn K cd4 "stands_once" = true)
    (k4 : PySem.W.keepIn K (.ref f4) = true)
    (a5 : PySem.W.nsIn K mainGlobals "is_swap" = some (some (.ref f5)))
    (l5 : K.lookup f5 = some ⟨oc5, od5, .func (PySem.W.fnOf "is_swap" "is_swap" (defArgs s_is_swap) (defBody s_is_swap) (defScope s_is_swap) .none kV5 dc5 pm5 an5 cd5 ct5), sl5⟩)
    (c5 : PySem.W.codeIn K cd5 "is_swap" = true)
    (k5 : PySem.W.keepIn K (.ref f5) = true)
    (a6 : PySem.W.nsIn K mainGlobals "first_fault" = some (some (.ref f6)))
    (l6 : K.lookup f6 = some ⟨oc6, od6, .func (PySem.W.fnOf "first_fault" "first_fault" (defArgs s_first_fault) (defBody s_first_fault) (defScope s_first_fault) .none kV6 dc6 pm6 an6 cd6 ct6), sl6⟩)
    (c6 : PySem.W.codeIn K cd6 "first_fault" = true)
    (k6 : PySem.W.keepIn K (.ref f6) = true)
    (a7 : PySem.W.nsIn K mainGlobals "put_in" = some (some (.ref f7)))
    (l7 : K.lookup f7 = some ⟨oc7, od7, .func (PySem.W.fnOf "put_in" "put_in" (defArgs s_put_in) (defBody s_put_in) (defScope s_put_in) .none kV7 dc7 pm7 an7 cd7 ct7), sl7⟩)
    (c7 : PySem.W.codeIn K cd7 "put_in" = true)
    (k7 : PySem.W.keepIn K (.ref f7) = true)
    (a8 : PySem.W.nsIn K mainGlobals "exchanged" = some (some (.ref f8)))
    (l8 : K.lookup f8 = some ⟨oc8, od8, .func (PySem.W.fnOf "exchanged" "exchanged" (defArgs s_exchanged) (defBody s_exchanged) (defScope s_exchanged) .none kV8 dc8 pm8 an8 cd8 ct8), sl8⟩)
    (c8 : PySem.W.codeIn K cd8 "exchanged" = true)
    (k8 : PySem.W.keepIn K (.ref f8) = true)
    (a9 : PySem.W.nsIn K mainGlobals "is_exchange" = some (some (.ref f9)))
    (l9 : K.lookup f9 = some ⟨oc9, od9, .func (PySem.W.fnOf "is_exchange" "is_exchange" (defArgs s_is_exchange) (defBody s_is_exchange) (defScope s_is_exchange) .none kV9 dc9 pm9 an9 cd9 ct9), sl9⟩)
    (c9 : PySem.W.codeIn K cd9 "is_exchange" = true)
    (k9 : PySem.W.keepIn K (.ref f9) = true)
    (a10 : PySem.W.nsIn K mainGlobals "cost_of" = some (some (.ref f10)))
    {D10 : Addr} {tkd10 : Tok}
    (l10 : K.lookup f10 = some ⟨oc10, od10, .func (PySem.W.fnOf "cost_of" "cost_of" (defArgs s_cost_of) (defBody s_cost_of) (defScope s_cost_of) .none (.ref D10) dc10 pm10 an10 cd10 ct10), sl10⟩)
    (kd10 : PySem.W.nsIn K D10 "each" = some (some (.int 0 tkd10)))
    (c10 : PySem.W.codeIn K cd10 "cost_of" = true)
    (k10 : PySem.W.keepIn K (.ref f10) = true)
    (a11 : PySem.W.nsIn K mainGlobals "_law_pen" = some (some (.ref f11)))
    (l11 : K.lookup f11 = some ⟨oc11, od11, .func (PySem.W.fnOf "_law_pen" "_law_pen" (defArgs s_L_pen) (defBody s_L_pen) (defScope s_L_pen) .none kV11 dc11 pm11 an11 cd11 ct11), sl11⟩)
    (c11 : PySem.W.codeIn K cd11 "_law_pen" = true)
    (k11 : PySem.W.keepIn K (.ref f11) = true)
    (a12 : PySem.W.nsIn K mainGlobals "_law_draw" = some (some (.ref f12)))
    (l12 : K.lookup f12 = some ⟨oc12, od12, .func (PySem.W.fnOf "_law_draw" "_law_draw" (defArgs s_L_draw) (defBody s_L_draw) (defScope s_L_draw) .none kV12 dc12 pm12 an12 cd12 ct12), sl12⟩)
    (c12 : PySem.W.codeIn K cd12 "_law_draw" = true)
    (k12 : PySem.W.keepIn K (.ref f12) = true)
    (a13 : PySem.W.nsIn K mainGlobals "_law_pick" = some (some (.ref f13)))
    (l13 : K.lookup f13 = some ⟨oc13, od13, .func (PySem.W.fnOf "_law_pick" "_law_pick" (defArgs s_L_pick) (defBody s_L_pick) (defScope s_L_pick) .none kV13 dc13 pm13 an13 cd13 ct13), sl13⟩)
    (c13 : PySem.W.codeIn K cd13 "_law_pick" = true)
    (k13 : PySem.W.keepIn K (.ref f13) = true)
    (a14 : PySem.W.nsIn K mainGlobals "_law_signs" = some (some (.ref f14)))
    (l14 : K.lookup f14 = some ⟨oc14, od14, .func (PySem.W.fnOf "_law_signs" "_law_signs" (defArgs s_L_signs) (defBody s_L_signs) (defScope s_L_signs) .none kV14 dc14 pm14 an14 cd14 ct14), sl14⟩)
    (c14 : PySem.W.codeIn K cd14 "_law_signs" = true)
    (k14 : PySem.W.keepIn K (.ref f14) = true)
    (a15 : PySem.W.nsIn K mainGlobals "_law_is_text" = some (some (.ref f15)))
    (l15 : K.lookup f15 = some ⟨oc15, od15, .func (PySem.W.fnOf "_law_is_text" "_law_is_text" (defArgs s_L_is_text) (defBody s_L_is_text) (defScope s_L_is_text) .none kV15 dc15 pm15 an15 cd15 ct15), sl15⟩)
    (c15 : PySem.W.codeIn K cd15 "_law_is_text" = true)
    (k15 : PySem.W.keepIn K (.ref f15) = true)
    (a16 : PySem.W.nsIn K mainGlobals "_law_is_number" = some (some (.ref f16)))
    (l16 : K.lookup f16 = some ⟨oc16, od16, .func (PySem.W.fnOf "_law_is_number" "_law_is_number" (defArgs s_L_is_number) (defBody s_L_is_number) (defScope s_L_is_number) .none kV16 dc16 pm16 an16 cd16 ct16), sl16⟩)
    (c16 : PySem.W.codeIn K cd16 "_law_is_number" = true)
    (k16 : PySem.W.keepIn K (.ref f16) = true)
    (a17 : PySem.W.nsIn K mainGlobals "_law_few" = some (some (.ref f17)))
    (l17 : K.lookup f17 = some ⟨oc17, od17, .func (PySem.W.fnOf "_law_few" "_law_few" (defArgs s_L_few) (defBody s_L_few) (defScope s_L_few) .none kV17 dc17 pm17 an17 cd17 ct17), sl17⟩)
    (c17 : PySem.W.codeIn K cd17 "_law_few" = true)
    (k17 : PySem.W.keepIn K (.ref f17) = true)
    (a18 : PySem.W.nsIn K mainGlobals "_law_word" = some (some (.ref f18)))
    (l18 : K.lookup f18 = some ⟨oc18, od18, .func (PySem.W.fnOf "_law_word" "_law_word" (defArgs s_L_word) (defBody s_L_word) (defScope s_L_word) .none kV18 dc18 pm18 an18 cd18 ct18), sl18⟩)
    (c18 : PySem.W.codeIn K cd18 "_law_word" = true)
    (k18 : PySem.W.keepIn K (.ref f18) = true)
    (a19 : PySem.W.nsIn K mainGlobals "_law_places" = some (some (.ref f19)))
    (l19 : K.lookup f19 = some ⟨oc19, od19, .func (PySem.W.fnOf "_law_places" "_law_places" (defArgs s_L_places) (defBody s_L_places) (defScope s_L_places) .none kV19 dc19 pm19 an19 cd19 ct19), sl19⟩)
    (c19 : PySem.W.codeIn K cd19 "_law_places" = true)
    (k19 : PySem.W.keepIn K (.ref f19) = true)
    (a20 : PySem.W.nsIn K mainGlobals "_law_any_value" = some (some (.ref f20)))
    (l20 : K.lookup f20 = some ⟨oc20, od20, .func (PySem.W.fnOf "_law_any_value" "_law_any_value" (defArgs s_L_any_value) (defBody s_L_any_value) (defScope s_L_any_value) .none kV20 dc20 pm20 an20 cd20 ct20), sl20⟩)
    (c20 : PySem.W.codeIn K cd20 "_law_any_value" = true)
    (k20 : PySem.W.keepIn K (.ref f20) = true)
    (a21 : PySem.W.nsIn K mainGlobals "_law_ntext" = some (some (.ref f21)))
    (l21 : K.lookup f21 = some ⟨oc21, od21, .func (PySem.W.fnOf "_law_ntext" "_law_ntext" (defArgs s_L_ntext) (defBody s_L_ntext) (defScope s_L_ntext) .none kV21 dc21 pm21 an21 cd21 ct21), sl21⟩)
    (c21 : PySem.W.codeIn K cd21 "_law_ntext" = true)
    (k21 : PySem.W.keepIn K (.ref f21) = true)
    (a22 : PySem.W.nsIn K mainGlobals "_law_nonce" = some (some (.ref f22)))
    (l22 : K.lookup f22 = some ⟨oc22, od22, .func (PySem.W.fnOf "_law_nonce" "_law_nonce" (defArgs s_L_nonce) (defBody s_L_nonce) (defScope s_L_nonce) .none kV22 dc22 pm22 an22 cd22 ct22), sl22⟩)
    (c22 : PySem.W.codeIn K cd22 "_law_nonce" = true)
    (k22 : PySem.W.keepIn K (.ref f22) = true)
    (a23 : PySem.W.nsIn K mainGlobals "_law_naround" = some (some (.ref f23)))
    (l23 : K.lookup f23 = some ⟨oc23, od23, .func (PySem.W.fnOf "_law_naround" "_law_naround" (defArgs s_L_naround) (defBody s_L_naround) (defScope s_L_naround) .none kV23 dc23 pm23 an23 cd23 ct23), sl23⟩)
    (c23 : PySem.W.codeIn K cd23 "_law_naround" = true)
    (k23 : PySem.W.keepIn K (.ref f23) = true)
    (a24 : PySem.W.nsIn K mainGlobals "_law_nspot" = some (some (.ref f24)))
    (l24 : K.lookup f24 = some ⟨oc24, od24, .func (PySem.W.fnOf "_law_nspot" "_law_nspot" (defArgs s_L_nspot) (defBody s_L_nspot) (defScope s_L_nspot) .none kV24 dc24 pm24 an24 cd24 ct24), sl24⟩)
    (c24 : PySem.W.codeIn K cd24 "_law_nspot" = true)
    (k24 : PySem.W.keepIn K (.ref f24) = true)
    (a25 : PySem.W.nsIn K mainGlobals "_law_nput" = some (some (.ref f25)))
    (l25 : K.lookup f25 = some ⟨oc25, od25, .func (PySem.W.fnOf "_law_nput" "_law_nput" (defArgs s_L_nput) (defBody s_L_nput) (defScope s_L_nput) .none kV25 dc25 pm25 an25 cd25 ct25), sl25⟩)
    (c25 : PySem.W.codeIn K cd25 "_law_nput" = true)
    (k25 : PySem.W.keepIn K (.ref f25) = true)
    (a26 : PySem.W.nsIn K mainGlobals "_law_nfault" = some (some (.ref f26)))
    (l26 : K.lookup f26 = some ⟨oc26, od26, .func (PySem.W.fnOf "_law_nfault" "_law_nfault" (defArgs s_L_nfault) (defBody s_L_nfault) (defScope s_L_nfault) .none kV26 dc26 pm26 an26 cd26 ct26), sl26⟩)
    (c26 : PySem.W.codeIn K cd26 "_law_nfault" = true)
    (k26 : PySem.W.keepIn K (.ref f26) = true)
    (a27 : PySem.W.nsIn K mainGlobals "_law_ndrawn" = some (some (.ref f27)))
    (l27 : K.lookup f27 = some ⟨oc27, od27, .func (PySem.W.fnOf "_law_ndrawn" "_law_ndrawn" (defArgs s_L_ndrawn) (defBody s_L_ndrawn) (defScope s_L_ndrawn) .none kV27 dc27 pm27 an27 cd27 ct27), sl27⟩)
    (c27 : PySem.W.codeIn K cd27 "_law_ndrawn" = true)
    (k27 : PySem.W.keepIn K (.ref f27) = true)
    (a28 : PySem.W.nsIn K mainGlobals "_law_ncost" = some (some (.ref f28)))
    (l28 : K.lookup f28 = some ⟨oc28, od28, .func (PySem.W.fnOf "_law_ncost" "_law_ncost" (defArgs s_L_ncost) (defBody s_L_ncost) (defScope s_L_ncost) .none kV28 dc28 pm28 an28 cd28 ct28), sl28⟩)
    (c28 : PySem.W.codeIn K cd28 "_law_ncost" = true)
    (k28 : PySem.W.keepIn K (.ref f28) = true)
    (a29 : PySem.W.nsIn K mainGlobals "_law_nexchanged" = some (some (.ref f29)))
    (l29 : K.lookup f29 = some ⟨oc29, od29, .func (PySem.W.fnOf "_law_nexchanged" "_law_nexchanged" (defArgs s_L_nexchanged) (defBody s_L_nexchanged) (defScope s_L_nexchanged) .none kV29 dc29 pm29 an29 cd29 ct29), sl29⟩)
    (c29 : PySem.W.codeIn K cd29 "_law_nexchanged" = true)
    (k29 : PySem.W.keepIn K (.ref f29) = true)
    (a30 : PySem.W.nsIn K mainGlobals "_law_ncrooked" = some (some (.ref f30)))
    (l30 : K.lookup f30 = some ⟨oc30, od30, .func (PySem.W.fnOf "_law_ncrooked" "_law_ncrooked" (defArgs s_L_ncrooked) (defBody s_L_ncrooked) (defScope s_L_ncrooked) .none kV30 dc30 pm30 an30 cd30 ct30), sl30⟩)
    (c30 : PySem.W.codeIn K cd30 "_law_ncrooked" = true)
    (k30 : PySem.W.keepIn K (.ref f30) = true)
    (a31 : PySem.W.nsIn K mainGlobals "law" = some (some (.ref f31)))
    (l31 : K.lookup f31 = some ⟨oc31, od31, .func (PySem.W.fnOf "law" "law" (defArgs s_law) (defBody s_law) (defScope s_law) .none kV31 dc31 pm31 an31 (.ref c00) ct31), sl31⟩)
    (c31 : PySem.W.codeIn K (.ref c00) "law" = true)
    (k31 : PySem.W.keepIn K (.ref f31) = true)
    {tk0 : Tok}
    (gl0 : PySem.W.nsIn K mainGlobals "LETTERS" = some (some (Value.str lettersS tk0)))
    (z0 : PySem.W.nsIn K mainGlobals "ValueError" = some none)
    (z1 : PySem.W.nsIn K mainGlobals "abs" = some none)
    (z2 : PySem.W.nsIn K mainGlobals "all" = some none)
    (z3 : PySem.W.nsIn K mainGlobals "bool" = some none)
    (z4 : PySem.W.nsIn K mainGlobals "enumerate" = some none)
    (z5 : PySem.W.nsIn K mainGlobals "int" = some none)
    (z6 : PySem.W.nsIn K mainGlobals "isinstance" = some none)
    (z7 : PySem.W.nsIn K mainGlobals "len" = some none)
    (z8 : PySem.W.nsIn K mainGlobals "list" = some none)
    (z9 : PySem.W.nsIn K mainGlobals "max" = some none)
    (z10 : PySem.W.nsIn K mainGlobals "min" = some none)
    (z11 : PySem.W.nsIn K mainGlobals "range" = some none)
    (z12 : PySem.W.nsIn K mainGlobals "repr" = some none)
    (z13 : PySem.W.nsIn K mainGlobals "str" = some none)
    (z14 : PySem.W.nsIn K mainGlobals "sum" = some none)
    (z15 : PySem.W.nsIn K mainGlobals "tuple" = some none)
    {to0 : Value} {td0 : Option Addr} {tv0 : Array Value} {tx0 : Array (Option Value)}
    (ta0 : K.lookup c00 = some ⟨to0, td0, .fields tv0, tx0⟩)
    (tb0 : (tv0[11]? : Option Value) = some (.ref PT0))
    (tm0 : PT0 ∈ ts)
    (tn0 : K.lookup PT0 = none)
    (th0 : PySem.W.codeHdIn K c00 PT0 = true)
    (tu0 : ∀ p ∈ [(PT0, Q_law)], p.1 = PT0 → p.2 = Q_law)
    (xs : PySem.W.nsIn K mainGlobals "super" = some none)
    (xo : PySem.W.nsIn K cStatics "thirdparty.any" = some none)
    (xn : (P.main.scope.names.lookup ("super" : Str)).isSome = false)
    {C_NoExchange : Addr}
    (e0a : PySem.W.nsIn K mainGlobals "NoExchange" = some (some (.ref C_NoExchange)))
    {xI0 xN0 xda0 xcc0 : Addr} {xnm0 xq0 xqn0 : Str} {xbs0 xsu0 : List Value} {xsn0 : List Str} {xab0 : Bool} {xco0 : Option Bool} {xdd0 xod0 xan0 : Option Addr} {xk0_0 xk1_0 xk2_0 xk3_0 xk5_0 : Option Value} {xoc0 xdo0 xpm0 xct0 : Value} {xos0 : Array (Option Value)}
    {xp0_0 xp0_1 xp0_2 xp0_3 xp0_4 xp0_5 xp0_6 xp0_7 xp0_8 xp0_9 xp0_10 xp0_11 : Pos}
    (e0b : K.lookup C_NoExchange = some (excClassObj xnm0 xq0 C_NoExchange xN0 xbs0 [.type "ValueError", .type "Exception", .type "BaseException", .type "object"] true xsn0 xsu0 xab0 xco0 xdd0 xk0_0 xk1_0 xk2_0 xk3_0 xk5_0 "ValueError.__new__"))
    (e0c : PySem.W.findIn K (.ref C_NoExchange) "__setattr__" = some (some (.builtin "object.__setattr__")))
    (e0d0 : PySem.W.findIn K (.ref C_NoExchange) "index" = some none)
    (e0e : PySem.W.findIn K (.ref C_NoExchange) "__init__" = some (some (.ref xI0)))
    (e0f : PySem.W.typeIn K (.ref xI0) = some (.type "function"))
    (e0g : K.lookup xI0 = some ⟨xoc0, xod0, .func (ksFn "__init__" xqn0 (PX.iA [PX.aA "self" xp0_0, PX.aA "index" xp0_1]) [PX.sUp [.Name "index" xp0_7] xp0_2 xp0_3 xp0_4 xp0_5 xp0_6, PX.sFld "index" xp0_8 xp0_9 xp0_10 xp0_11] (PX.iS ["index"]) .none .none xdo0 xpm0 xan0 (.ref xda0) xct0 xcc0), xos0⟩)
    (e0h : PySem.W.codeIn K (.ref xda0) xqn0 = true)
    (e0i : fileB P K xda0 = true)
    (e0j : cellB K xcc0 C_NoExchange = true)
    (e0k : PySem.W.keepIn K (.ref C_NoExchange) = true)
    (e0l : PySem.W.subIn K (.ref C_NoExchange) (.type "BaseException") = some true)
    (e0m : PySem.W.typeIn K (.ref C_NoExchange) = some (.type "type"))
    (e0n : PX.UpOk ["index"] [.Name "index" xp0_7] xp0_2 xp0_3 xp0_4 xp0_5)
    (e0x : xhdB K C_NoExchange = true)
    (yf0 : PySem.W.findIn K (.ref C_NoExchange) "index" = some none)
    (yk0 : PySem.W.kitOne K (.ref C_NoExchange) (.type "ValueError") = some true)
    : ∃ (fd : FuncData) (cs : List (Addr × Addr)), (∀ p ∈ cs, p.2 ∈ ts) ∧ (∀ p ∈ cs, K.lookup p.2 = none) ∧ (∀ p ∈ cs, PySem.W.codeHdIn K p.1 p.2 = true) ∧ (∀ (s : Shared) (v : Value), BindsTo s fd ⟨[v], []⟩ [("_law_script", v)]) ∧
        ∀ base : Heap, K.In base → base.Ns mainGlobals mg → (∃ o, base.get? sysModules = some o) → (∀ p ∈ cs, TabB base mg p.1 p.2) → FnG P w K mg base CX0 8 fa fd ["_law_script"] (spLawT K (cs.map (·.2))) := by
  have e := hfa.symm.trans (PySem.W.mg_of X G a31)
  cases e
  refine ⟨PySem.W.fnOf "law" "law" (defArgs s_law) (defBody s_law) (defScope s_law) .none kV31 dc31 pm31 an31 (.ref c00) ct31, [(c00, PT0)], (by intro p hp; simp only [List.mem_cons, List.not_mem_nil, or_false] at hp; subst hp; exact tm0), (by intro p hp; simp only [List.mem_cons, List.not_mem_nil, or_false] at hp; subst hp; exact tn0), (by intro p hp; simp only [List.mem_cons, List.not_mem_nil, or_false] at hp; subst hp; exact th0), fun s v => .of_eq rfl, fun base _ _ sy TBs => ?_⟩
  have F_is_integer := fun_mk (st := s_is_integer) l0 c0 k0
  have X_is_integer : FX K mg "is_integer" s_is_integer P_is_integer _ _ := ⟨F_is_integer, F_is_integer.binds (ps := P_is_integer) fun _ _ _ _ _ _ us hl => match us, hl with | [_], _ => rfl, PySem.W.mg_of X G a0⟩
  have F_is_within := fun_mk (st := s_is_within) l1 c1 k1
  have X_is_within : FX K mg "is_within" s_is_within P_is_within _ _ := ⟨F_is_within, F_is_within.binds (ps := P_is_within) fun _ _ _ _ _ _ us hl => match us, hl with | [_, _, _], _ => rfl, PySem.W.mg_of X G a1⟩
  have F_is_text := fun_mk (st := s_is_text) l2 c2 k2
  have X_is_text : FX K mg "is_text" s_is_text P_is_text _ _ := ⟨F_is_text, F_is_text.binds (ps := P_is_text) fun _ _ _ _ _ _ us hl => match us, hl with | [_], _ => rfl, PySem.W.mg_of X G a2⟩
  have F_places := fun_mk (st := s_places) l3 c3 k3
  have X_places : FX K mg "places" s_places P_places _ _ := ⟨F_places, F_places.binds (ps := P_places) fun _ _ _ _ _ _ us hl => match us, hl with | [_, _], _ => rfl, PySem.W.mg_of X G a3⟩
  have F_stands_once := fun_mk (st := s_stands_once) l4 c4 k4
  have X_stands_once : FX K mg "stands_once" s_stands_once P_stands_once _ _ := ⟨F_stands_once, F_stands_once.binds (ps := P_stands_once) fun _ _ _ _ _ _ us hl => match us, hl with | [_, _, _], _ => rfl, PySem.W.mg_of X G a4⟩
  have F_is_swap := fun_mk (st := s_is_swap) l5 c5 k5
  have X_is_swap : FX K mg "is_swap" s_is_swap P_is_swap _ _ := ⟨F_is_swap, F_is_swap.binds (ps := P_is_swap) fun _ _ _ _ _ _ us hl => match us, hl with | [_, _, _], _ => rfl, PySem.W.mg_of X G a5⟩
  have F_first_fault := fun_mk (st := s_first_fault) l6 c6 k6
  have X_first_fault : FX K mg "first_fault" s_first_fault P_first_fault _ _ := ⟨F_first_fault, F_first_fault.binds (ps := P_first_fault) fun _ _ _ _ _ _ us hl => match us, hl with | [_, _], _ => rfl, PySem.W.mg_of X G a6⟩
  have F_put_in := fun_mk (st := s_put_in) l7 c7 k7
  have X_put_in : FX K mg "put_in" s_put_in P_put_in _ _ := ⟨F_put_in, F_put_in.binds (ps := P_put_in) fun _ _ _ _ _ _ us hl => match us, hl with | [_, _], _ => rfl, PySem.W.mg_of X G a7⟩
  have F_exchanged := fun_mk (st := s_exchanged) l8 c8 k8
  have X_exchanged : FX K mg "exchanged" s_exchanged P_exchanged _ _ := ⟨F_exchanged, F_exchanged.binds (ps := P_exchanged) fun _ _ _ _ _ _ us hl => match us, hl with | [_, _], _ => rfl, PySem.W.mg_of X G a8⟩
  have F_is_exchange := fun_mk (st := s_is_exchange) l9 c9 k9
  have X_is_exchange : FX K mg "is_exchange" s_is_exchange P_is_exchange _ _ := ⟨F_is_exchange, F_is_exchange.binds (ps := P_is_exchange) fun _ _ _ _ _ _ us hl => match us, hl with | [_, _, _], _ => rfl, PySem.W.mg_of X G a9⟩
  have F_cost_of := fun_mk (st := s_cost_of) l10 c10 k10
  have X_cost_of : PL.FX0 K mg "cost_of" s_cost_of _ _ := ⟨F_cost_of, PySem.W.mg_of X G a10⟩
  obtain ⟨ds_cost_of, VD_cost_of, BD_cost_of⟩ := PL.kwBinds (x := "cost_of") (kw := "each") (v := 0) (ps := P_cost_of) 1 l10 c10 k10 kd10 (fun D doc pm an cdv ct us k hus => match us, hus with | [_], _ => ⟨_, _, _, _, _, _, rfl, rfl, rfl⟩)
  have F_L_pen := fun_mk (st := s_L_pen) l11 c11 k11
  have X_L_pen : FX K mg "_law_pen" s_L_pen P_L_pen _ _ := ⟨F_L_pen, F_L_pen.binds (ps := P_L_pen) fun _ _ _ _ _ _ us hl => match us, hl with | [_], _ => rfl, PySem.W.mg_of X G a11⟩
  have F_L_draw := fun_mk (st := s_L_draw) l12 c12 k12
  have X_L_draw : FX K mg "_law_draw" s_L_draw P_L_draw _ _ := ⟨F_L_draw, F_L_draw.binds (ps := P_L_draw) fun _ _ _ _ _ _ us hl => match us, hl with | [_, _], _ => rfl, PySem.W.mg_of X G a12⟩
  have F_L_pick := fun_mk (st := s_L_pick) l13 c13 k13
  have X_L_pick : FX K mg "_law_pick" s_L_pick P_L_pick _ _ := ⟨F_L_pick, F_L_pick.binds (ps := P_L_pick) fun _ _ _ _ _ _ us hl => match us, hl with | [_, _], _ => rfl, PySem.W.mg_of X G a13⟩
  have F_L_signs := fun_mk (st := s_L_signs) l14 c14 k14
  have X_L_signs : FX K mg "_law_signs" s_L_signs P_L_signs _ _ := ⟨F_L_signs, F_L_signs.binds (ps := P_L_signs) fun _ _ _ _ _ _ us hl => match us, hl with | [], _ => rfl, PySem.W.mg_of X G a14⟩
  have F_L_is_text := fun_mk (st := s_L_is_text) l15 c15 k15
  have X_L_is_text : FX K mg "_law_is_text" s_L_is_text P_L_is_text _ _ := ⟨F_L_is_text, F_L_is_text.binds (ps := P_L_is_text) fun _ _ _ _ _ _ us hl => match us, hl with | [_], _ => rfl, PySem.W.mg_of X G a15⟩
  have F_L_is_number := fun_mk (st := s_L_is_number) l16 c16 k16
  have X_L_is_number : FX K mg "_law_is_number" s_L_is_number P_L_is_number _ _ := ⟨F_L_is_number, F_L_is_number.binds (ps := P_L_is_number) fun _ _ _ _ _ _ us hl => match us, hl with | [_, _, _], _ => rfl, PySem.W.mg_of X G a16⟩
  have F_L_few := fun_mk (st := s_L_few) l17 c17 k17
  have X_L_few : FX K mg "_law_few" s_L_few P_L_few _ _ := ⟨F_L_few, F_L_few.binds (ps := P_L_few) fun _ _ _ _ _ _ us hl => match us, hl with | [_], _ => rfl, PySem.W.mg_of X G a17⟩
  have F_L_word := fun_mk (st := s_L_word) l18 c18 k18
  have X_L_word : FX K mg "_law_word" s_L_word P_L_word _ _ := ⟨F_L_word, F_L_word.binds (ps := P_L_word) fun _ _ _ _ _ _ us hl => match us, hl with | [_, _, _, _], _ => rfl, PySem.W.mg_of X G a18⟩
  have F_L_places := fun_mk (st := s_L_places) l19 c19 k19
  have X_L_places : FX K mg "_law_places" s_L_places P_L_places _ _ := ⟨F_L_places, F_L_places.binds (ps := P_L_places) fun _ _ _ _ _ _ us hl => match us, hl with | [_, _], _ => rfl, PySem.W.mg_of X G a19⟩
  have F_L_any_value := fun_mk (st := s_L_any_value) l20 c20 k20
  have X_L_any_value : FX K mg "_law_any_value" s_L_any_value P_L_any_value _ _ := ⟨F_L_any_value, F_L_any_value.binds (ps := P_L_any_value) fun _ _ _ _ _ _ us hl => match us, hl with | [_], _ => rfl, PySem.W.mg_of X G a20⟩
  have F_L_ntext := fun_mk (st := s_L_ntext) l21 c21 k21
  have X_L_ntext : FX K mg "_law_ntext" s_L_ntext P_L_ntext _ _ := ⟨F_L_ntext, F_L_ntext.binds (ps := P_L_ntext) fun _ _ _ _ _ _ us hl => match us, hl with | [_, _, _], _ => rfl, PySem.W.mg_of X G a21⟩
  have F_L_nonce := fun_mk (st := s_L_nonce) l22 c22 k22
  have X_L_nonce : FX K mg "_law_nonce" s_L_nonce P_L_nonce _ _ := ⟨F_L_nonce, F_L_nonce.binds (ps := P_L_nonce) fun _ _ _ _ _ _ us hl => match us, hl with | [_, _, _], _ => rfl, PySem.W.mg_of X G a22⟩
  have F_L_naround := fun_mk (st := s_L_naround) l23 c23 k23
  have X_L_naround : FX K mg "_law_naround" s_L_naround P_L_naround _ _ := ⟨F_L_naround, F_L_naround.binds (ps := P_L_naround) fun _ _ _ _ _ _ us hl => match us, hl with | [_, _, _], _ => rfl, PySem.W.mg_of X G a23⟩
  have F_L_nspot := fun_mk (st := s_L_nspot) l24 c24 k24
  have X_L_nspot : FX K mg "_law_nspot" s_L_nspot P_L_nspot _ _ := ⟨F_L_nspot, F_L_nspot.binds (ps := P_L_nspot) fun _ _ _ _ _ _ us hl => match us, hl with | [_, _], _ => rfl, PySem.W.mg_of X G a24⟩
  have F_L_nput := fun_mk (st := s_L_nput) l25 c25 k25
  have X_L_nput : FX K mg "_law_nput" s_L_nput P_L_nput _ _ := ⟨F_L_nput, F_L_nput.binds (ps := P_L_nput) fun _ _ _ _ _ _ us hl => match us, hl with | [_, _], _ => rfl, PySem.W.mg_of X G a25⟩
  have F_L_nfault := fun_mk (st := s_L_nfault) l26 c26 k26
  have X_L_nfault : FX K mg "_law_nfault" s_L_nfault P_L_nfault _ _ := ⟨F_L_nfault, F_L_nfault.binds (ps := P_L_nfault) fun _ _ _ _ _ _ us hl => match us, hl with | [_, _], _ => rfl, PySem.W.mg_of X G a26⟩
  have F_L_ndrawn := fun_mk (st := s_L_ndrawn) l27 c27 k27
  have X_L_ndrawn : FX K mg "_law_ndrawn" s_L_ndrawn P_L_ndrawn _ _ := ⟨F_L_ndrawn, F_L_ndrawn.binds (ps := P_L_ndrawn) fun _ _ _ _ _ _ us hl => match us, hl with | [_, _, _], _ => rfl, PySem.W.mg_of X G a27⟩
  have F_L_ncost := fun_mk (st := s_L_ncost) l28 c28 k28
  have X_L_ncost : FX K mg "_law_ncost" s_L_ncost P_L_ncost _ _ := ⟨F_L_ncost, F_L_ncost.binds (ps := P_L_ncost) fun _ _ _ _ _ _ us hl => match us, hl with | [_, _], _ => rfl, PySem.W.mg_of X G a28⟩
  have F_L_nexchanged := fun_mk (st := s_L_nexchanged) l29 c29 k29
  have X_L_nexchanged : FX K mg "_law_nexchanged" s_L_nexchanged P_L_nexchanged _ _ := ⟨F_L_nexchanged, F_L_nexchanged.binds (ps := P_L_nexchanged) fun _ _ _ _ _ _ us hl => match us, hl with | [_], _ => rfl, PySem.W.mg_of X G a29⟩
  have F_L_ncrooked := fun_mk (st := s_L_ncrooked) l30 c30 k30
  have X_L_ncrooked : FX K mg "_law_ncrooked" s_L_ncrooked P_L_ncrooked _ _ := ⟨F_L_ncrooked, F_L_ncrooked.binds (ps := P_L_ncrooked) fun _ _ _ _ _ _ us hl => match us, hl with | [_, _, _], _ => rfl, PySem.W.mg_of X G a30⟩
  have F_law := fun_mk (st := s_law) l31 c31 k31
  have X_law : FX K mg "law" s_law P_law _ _ := ⟨F_law, F_law.binds (ps := P_law) fun _ _ _ _ _ _ us hl => match us, hl with | [_], _ => rfl, PySem.W.mg_of X G a31⟩
  have g_LETTERS : mg "LETTERS" = some (Value.str lettersS tk0) := PySem.W.mg_of X G gl0
  have b_ValueError : mg "ValueError" = none := PySem.W.mg_none_of X G z0
  have b_abs : mg "abs" = none := PySem.W.mg_none_of X G z1
  have b_all : mg "all" = none := PySem.W.mg_none_of X G z2
  have b_bool : mg "bool" = none := PySem.W.mg_none_of X G z3
  have b_enumerate : mg "enumerate" = none := PySem.W.mg_none_of X G z4
  have b_int : mg "int" = none := PySem.W.mg_none_of X G z5
  have b_isinstance : mg "isinstance" = none := PySem.W.mg_none_of X G z6
  have b_len : mg "len" = none := PySem.W.mg_none_of X G z7
  have b_list : mg "list" = none := PySem.W.mg_none_of X G z8
  have b_max : mg "max" = none := PySem.W.mg_none_of X G z9
  have b_min : mg "min" = none := PySem.W.mg_none_of X G z10
  have b_range : mg "range" = none := PySem.W.mg_none_of X G z11
  have b_repr : mg "repr" = none := PySem.W.mg_none_of X G z12
  have b_str : mg "str" = none := PySem.W.mg_none_of X G z13
  have b_sum : mg "sum" = none := PySem.W.mg_none_of X G z14
  have b_tuple : mg "tuple" = none := PySem.W.mg_none_of X G z15
  have XT : PX.XTop P K mg := ⟨PySem.W.mg_none_of X G xs, xo, xn⟩
  have mc_NoExchange : mg "NoExchange" = some (.ref C_NoExchange) := PySem.W.mg_of X G e0a
  have XC_NoExchange : XCl ⟨K, mg, P, w, base, [(PT0, Q_law)], sy⟩ "NoExchange" ["index"] C_NoExchange := xcl1 (G := ⟨K, mg, P, w, base, [(PT0, Q_law)], sy⟩) (x := "NoExchange") PX.xbV PX.nm_index XT mc_NoExchange e0b e0c e0d0 e0e e0f e0g e0h e0i e0j e0k e0l e0m e0n
  have xh_NoExchange := xhdB_ok e0x
  have G_is_integer := ok_is_integer (G := ⟨K, mg, P, w, base, [(PT0, Q_law)], sy⟩) X_is_integer  b_bool b_int b_isinstance
  have G_is_within := ok_is_within (G := ⟨K, mg, P, w, base, [(PT0, Q_law)], sy⟩) X_is_within X_is_integer G_is_integer
  have G_is_text := ok_is_text (G := ⟨K, mg, P, w, base, [(PT0, Q_law)], sy⟩) X_is_text  b_all b_isinstance b_str g_LETTERS
  have G_places := ok_places (G := ⟨K, mg, P, w, base, [(PT0, Q_law)], sy⟩) X_places 
  have G_stands_once := ok_stands_once (G := ⟨K, mg, P, w, base, [(PT0, Q_law)], sy⟩) X_stands_once X_places G_places b_len
  have G_is_swap := ok_is_swap (G := ⟨K, mg, P, w, base, [(PT0, Q_law)], sy⟩) X_is_swap X_is_within G_is_within X_is_text G_is_text X_stands_once G_stands_once b_isinstance b_len b_tuple
  have G_first_fault := ok_first_fault (G := ⟨K, mg, P, w, base, [(PT0, Q_law)], sy⟩) X_first_fault X_is_swap G_is_swap b_enumerate b_isinstance b_tuple
  have G_put_in := ok_put_in (G := ⟨K, mg, P, w, base, [(PT0, Q_law)], sy⟩) X_put_in 
  have G_exchanged := ok_exchanged (G := ⟨K, mg, P, w, base, [(PT0, Q_law)], sy⟩) X_exchanged X_first_fault G_first_fault X_put_in G_put_in XC_NoExchange
  have G_is_exchange := ok_is_exchange (G := ⟨K, mg, P, w, base, [(PT0, Q_law)], sy⟩) X_is_exchange X_first_fault G_first_fault X_put_in G_put_in
  have G_cost_of := ok_cost_of (G := ⟨K, mg, P, w, base, [(PT0, Q_law)], sy⟩) X_cost_of  b_len b_sum
  have G_L_pen := ok_L_pen (G := ⟨K, mg, P, w, base, [(PT0, Q_law)], sy⟩) X_L_pen  b_list
  have G_L_draw := ok_L_draw (G := ⟨K, mg, P, w, base, [(PT0, Q_law)], sy⟩) X_L_draw  b_abs b_int b_len
  have G_L_pick := ok_L_pick (G := ⟨K, mg, P, w, base, [(PT0, Q_law)], sy⟩) X_L_pick X_L_draw G_L_draw b_len
  have G_L_signs := ok_L_signs (G := ⟨K, mg, P, w, base, [(PT0, Q_law)], sy⟩) X_L_signs 
  have G_L_is_text := ok_L_is_text (G := ⟨K, mg, P, w, base, [(PT0, Q_law)], sy⟩) X_L_is_text X_L_signs G_L_signs b_isinstance b_str
  have G_L_is_number := ok_L_is_number (G := ⟨K, mg, P, w, base, [(PT0, Q_law)], sy⟩) X_L_is_number  b_bool b_int b_isinstance
  have G_L_few := ok_L_few (G := ⟨K, mg, P, w, base, [(PT0, Q_law)], sy⟩) X_L_few X_L_pick G_L_pick X_L_signs G_L_signs b_range
  have G_L_word := ok_L_word (G := ⟨K, mg, P, w, base, [(PT0, Q_law)], sy⟩) X_L_word X_L_draw G_L_draw X_L_pick G_L_pick b_range
  have G_L_places := ok_L_places (G := ⟨K, mg, P, w, base, [(PT0, Q_law)], sy⟩) X_L_places  b_len b_range
  have G_L_any_value := ok_L_any_value (G := ⟨K, mg, P, w, base, [(PT0, Q_law)], sy⟩) X_L_any_value X_L_pick G_L_pick
  have G_L_ntext := ok_L_ntext (G := ⟨K, mg, P, w, base, [(PT0, Q_law)], sy⟩) X_L_ntext X_L_draw G_L_draw X_L_pick G_L_pick X_L_word G_L_word b_range
  have G_L_nonce := ok_L_nonce (G := ⟨K, mg, P, w, base, [(PT0, Q_law)], sy⟩) X_L_nonce X_L_places G_L_places b_len
  have G_L_naround := ok_L_naround (G := ⟨K, mg, P, w, base, [(PT0, Q_law)], sy⟩) X_L_naround  b_len b_max b_range
  have G_L_nspot := ok_L_nspot (G := ⟨K, mg, P, w, base, [(PT0, Q_law)], sy⟩) X_L_nspot X_L_draw G_L_draw X_L_pick G_L_pick b_len b_min
  have G_L_nput := ok_L_nput (G := ⟨K, mg, P, w, base, [(PT0, Q_law)], sy⟩) X_L_nput 
  have G_L_nfault := ok_L_nfault (G := ⟨K, mg, P, w, base, [(PT0, Q_law)], sy⟩) X_L_nfault X_L_is_text G_L_is_text X_L_is_number G_L_is_number X_L_nonce G_L_nonce b_isinstance b_len b_range b_tuple
  have G_L_ndrawn := ok_L_ndrawn (G := ⟨K, mg, P, w, base, [(PT0, Q_law)], sy⟩) X_L_ndrawn X_L_draw G_L_draw X_L_pick G_L_pick X_L_word G_L_word X_L_nonce G_L_nonce X_L_naround G_L_naround b_len b_range b_tuple
  have G_L_ncost := ok_L_ncost (G := ⟨K, mg, P, w, base, [(PT0, Q_law)], sy⟩) X_L_ncost  b_len b_sum
  have G_L_ncrooked := ok_L_ncrooked (G := ⟨K, mg, P, w, base, [(PT0, Q_law)], sy⟩) X_L_ncrooked X_L_draw G_L_draw X_L_pick G_L_pick X_L_any_value G_L_any_value X_L_nspot G_L_nspot b_len b_list b_max b_str
  have G_law := ok_law (G := ⟨K, mg, P, w, base, [(PT0, Q_law)], sy⟩) X_law X_exchanged G_exchanged X_is_exchange G_is_exchange X_cost_of G_cost_of BD_cost_of VD_cost_of X_L_pen G_L_pen X_L_draw G_L_draw X_L_pick G_L_pick X_L_few G_L_few X_L_ntext G_L_ntext X_L_nput G_L_nput X_L_nfault G_L_nfault X_L_ndrawn G_L_ndrawn X_L_ncost G_L_ncost X_L_ncrooked G_L_ncrooked (kb_mk 0 2 [1, 0] (by decide) fun us ws h1 h2 => match us, ws, h1, h2 with | [], [w0, w1], _, _ => rfl) (kb_mk 0 3 [2, 1, 0] (by decide) fun us ws h1 h2 => match us, ws, h1, h2 with | [], [w0, w1, w2], _, _ => rfl) (kb_mk 0 2 [1, 0] (by decide) fun us ws h1 h2 => match us, ws, h1, h2 with | [], [w0, w1], _, _ => rfl) X_L_nexchanged mc_NoExchange xh_NoExchange yf0 yk0 (TBs (c00, PT0) (by simp)) rfl (by simp) tu0 b_ValueError b_isinstance b_len b_min b_range b_repr
  exact law_plainT G_law Den.law_holds (by simp)
end Law
open PySem PySem.W PyProof.Rows
set_option maxHeartbeats 0 in
theorem PySem.Challenge.cw_anchoredits_k61_exchanges_done_and_refus_holds : PySem.Challenge.rw_anchoredits_k61_exchanges_done_and_refus.Holds := by
  w_on; o_law; k_head; (case hw => w_witness2)
  k_fill
  refine AB.walk_tab (l := PySem.Challenge.rw_anchoredits_k61_exchanges_done_and_refus) (n := 63) (k := 8) (x := "_law_script") rfl (by decide) (Nat.le_refl _) rfl ⟨rfl, by decide, by decide⟩ (by decide +kernel) (fun w h Y => ⟨PySem.W.km_in_of Y, PySem.W.km_tabs_of Y⟩) ?F
  case F =>
    intro w mg fa h KX G hmg
    refine' Law.all_mk KX G hmg ?a0 ?l0 ?c0 ?k0 ?a1 ?l1 ?c1 ?k1 ?a2 ?l2 ?c2 ?k2 ?a3 ?l3 ?c3 ?k3 ?a4 ?l4 ?c4 ?k4 ?a5 ?l5 ?c5 ?k5 ?a6 ?l6 ?c6 ?k6 ?a7 ?l7 ?c7 ?k7 ?a8 ?l8 ?c8 ?k8 ?a9 ?l9 ?c9 ?k9 ?a10 ?l10 ?kd10 ?c10 ?k10 ?a11 ?l11 ?c11 ?k11 ?a12 ?l12 ?c12 ?k12 ?a13 ?l13 ?c13 ?k13 ?a14 ?l14 ?c14 ?k14 ?a15 ?l15 ?c15 ?k15 ?a16 ?l16 ?c16 ?k16 ?a17 ?l17 ?c17 ?k17 ?a18 ?l18 ?c18 ?k18 ?a19 ?l19 ?c19 ?k19 ?a20 ?l20 ?c20 ?k20 ?a21 ?l21 ?c21 ?k21 ?a22 ?l22 ?c22 ?k22 ?a23 ?l23 ?c23 ?k23 ?a24 ?l24 ?c24 ?k24 ?a25 ?l25 ?c25 ?k25 ?a26 ?l26 ?c26 ?k26 ?a27 ?l27 ?c27 ?k27 ?a28 ?l28 ?c28 ?k28 ?a29 ?l29 ?c29 ?k29 ?a30 ?l30 ?c30 ?k30 ?a31 ?l31 ?c31 ?k31 ?gl0 ?z0 ?z1 ?z2 ?z3 ?z4 ?z5 ?z6 ?z7 ?z8 ?z9 ?z10 ?z11 ?z12 ?z13 ?z14 ?z15 ?ta0 ?tb0 ?tm0 ?tn0 ?th0 ?tu0 ?xs ?xo ?xn ?e0a ?e0b ?e0c ?e0d0 ?e0e ?e0f ?e0g ?e0h ?e0i ?e0j ?e0k ?e0l ?e0m ?e0n ?e0x ?yf0 ?yk0
    (case a0 => k_is); (case l0 => k_is); (case c0 => k_is); (case k0 => k_is); (case a1 => k_is); (case l1 => k_is); (case c1 => k_is); (case k1 => k_is)
    (case a2 => k_is); (case l2 => k_is); (case c2 => k_is); (case k2 => k_is); (case a3 => k_is); (case l3 => k_is); (case c3 => k_is); (case k3 => k_is)
    (case a4 => k_is); (case l4 => k_is); (case c4 => k_is); (case k4 => k_is); (case a5 => k_is); (case l5 => k_is); (case c5 => k_is); (case k5 => k_is)
    (case a6 => k_is); (case l6 => k_is); (case c6 => k_is); (case k6 => k_is); (case a7 => k_is); (case l7 => k_is); (case c7 => k_is); (case k7 => k_is)
    (case a8 => k_is); (case l8 => k_is); (case c8 => k_is); (case k8 => k_is); (case a9 => k_is); (case l9 => k_is); (case c9 => k_is); (case k9 => k_is)
    (case a10 => k_is); (case l10 => k_is); (case kd10 => k_is); (case c10 => k_is); (case k10 => k_is); (case a11 => k_is); (case l11 => k_is); (case c11 => k_is)
    (case k11 => k_is); (case a12 => k_is); (case l12 => k_is); (case c12 => k_is); (case k12 => k_is); (case a13 => k_is); (case l13 => k_is); (case c13 => k_is)
    (case k13 => k_is); (case a14 => k_is); (case l14 => k_is); (case c14 => k_is); (case k14 => k_is); (case a15 => k_is); (case l15 => k_is); (case c15 => k_is)
    (case k15 => k_is); (case a16 => k_is); (case l16 => k_is); (case c16 => k_is); (case k16 => k_is); (case a17 => k_is); (case l17 => k_is); (case c17 => k_is)
    (case k17 => k_is); (case a18 => k_is); (case l18 => k_is); (case c18 => k_is); (case k18 => k_is); (case a19 => k_is); (case l19 => k_is); (case c19 => k_is)
    (case k19 => k_is); (case a20 => k_is); (case l20 => k_is); (case c20 => k_is); (case k20 => k_is); (case a21 => k_is); (case l21 => k_is); (case c21 => k_is)
    (case k21 => k_is); (case a22 => k_is); (case l22 => k_is); (case c22 => k_is); (case k22 => k_is); (case a23 => k_is); (case l23 => k_is); (case c23 => k_is)
    (case k23 => k_is); (case a24 => k_is); (case l24 => k_is); (case c24 => k_is); (case k24 => k_is); (case a25 => k_is); (case l25 => k_is); (case c25 => k_is)
    (case k25 => k_is); (case a26 => k_is); (case l26 => k_is); (case c26 => k_is); (case k26 => k_is); (case a27 => k_is); (case l27 => k_is); (case c27 => k_is)
    (case k27 => k_is); (case a28 => k_is); (case l28 => k_is); (case c28 => k_is); (case k28 => k_is); (case a29 => k_is); (case l29 => k_is); (case c29 => k_is)
    (case k29 => k_is); (case a30 => k_is); (case l30 => k_is); (case c30 => k_is); (case k30 => k_is); (case a31 => k_is); (case l31 => k_is); (case c31 => k_is)
    (case k31 => k_is); (case gl0 => k_is); (case z0 => k_is); (case z1 => k_is); (case z2 => k_is); (case z3 => k_is); (case z4 => k_is); (case z5 => k_is)
    (case z6 => k_is); (case z7 => k_is); (case z8 => k_is); (case z9 => k_is); (case z10 => k_is); (case z11 => k_is); (case z12 => k_is); (case z13 => k_is)
    (case z14 => k_is); (case z15 => k_is); (case ta0 => k_is); (case tb0 => exact rfl); (case tm0 => decide); (case tn0 => kernel_rfl); (case th0 => kernel_rfl); (case tu0 => decide +kernel)
    (case xs => k_is); (case xo => k_is); (case xn => kernel_rfl); (case e0a => k_is); (case e0b => k_is); (case e0c => k_is); (case e0d0 => k_is); (case e0e => k_is)
    (case e0f => k_is); (case e0g => k_is); (case e0h => k_is); (case e0i => kernel_rfl); (case e0j => kernel_rfl); (case e0k => k_is); (case e0l => k_is); (case e0m => k_is)
    (case e0n => exact fun _ _ _ _ _ => ⟨_, rfl⟩); (case e0x => kernel_rfl); (case yf0 => k_is); (case yk0 => kernel_rfl)

