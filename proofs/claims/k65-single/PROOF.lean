import PyProof.Rows.All
import Wide.All
import OpenK.AllK
import Wide.FinOn
import PyProof.ReprRoads
import HandS.ForMost
import HandS.StrMore
import HandS.Codes
import PyProof.ReprLen
import HandS.Conv
import HandS.Style
import HandS.NoneIn
import HandS.IsInst
import HandS.Flow
import KE.GoesMore
import PyProof.MaxThree
import PyProof.Rows.StrRev
import PyProof.MinMaxWalk
import PyProof.WalkInts
import HandS.TupLe
import HandS.DictTup
import HandS.Defaults
import PySem.Challenge.RW_anchoredits_k65_single_and_thinned_excha
set_option Elab.async false
set_option linter.all false
set_option maxRecDepth 100000
set_option maxHeartbeats 4000000
namespace AB
open PySem PySem.Spec PyProof.Rows L2

/-! a def's promise where no repr is under way (A.guards is known to be empty) -/
structure FnG (P : Program) (w : World) (K : PySem.W.Frag) (mg : Str → Option Value) (base : Heap)
    (CX : CXT) (k : Nat) (f : Addr) (fd : FuncData) (ps : List Str) (sp : Sp) : Prop where
  gl : ∀ vs H Q E, sp vs H Q E → vs.length = ps.length
  go : ∀ (A : Around) (outer : List Env) (s : Shared) (H : Hp) (args : Args) (us : List Value)
    (vs : List V) (Q : VK) (E : XK), Room k A → A.guards = some [] →
    Env0 P w K mg base A outer s H → BindsTo s fd args (ps.zip us) → Vals vs us → sp vs H Q E →
    codeAny (model P w) A (.call (.ref f) args) (CR CX outer P w H s Q E) s

section
variable {P : Program} {w : World} {K : PySem.W.Frag} {mg : Str → Option Value} {base : Heap}
  {CX : CXT} {k : Nat} {f : Addr} {fd : FuncData} {ps : List Str} {sp : Sp}

theorem FnG.mk' (F : FnOk P w K mg base CX k f fd ps sp) : FnG P w K mg base CX k f fd ps sp :=
  ⟨F.len, fun A o s H ar us vs Q E hr _ e0 hb hv hs => F.run A o s H ar us vs Q E hr e0 hb hv hs⟩

theorem guards_deeper {A : Around} {env : Env} (h : A.guards = some []) : (A.deeper env).guards = some [] := h

/-- a def's body keeps its promise, where no repr is under way -/
theorem gun_ok {x qual : Str} {st : Stmt} {N : List Str} (F : Fun K x qual st f fd)
    (S : FnScope N ps (defScope st)) (len : ∀ vs H Q E, sp vs H Q E → vs.length = ps.length)
    (body : ∀ (cdv : Value) (A : Around) (outer : List Env) (s : Shared) (H : Hp) (vs : List V)
      (Q : VK) (E : XK), Room k (A.deeper (envOfC qual (defScope st) s.heap.objs.size f cdv)) →
      (A.deeper (envOfC qual (defScope st) s.heap.objs.size f cdv)).guards = some [] → sp vs H Q E →
      ∃ t, PSs (cxOf CX P w K mg base N qual (defScope st) f cdv A outer s H E) (defBody st) t ∧
        t { nx := fun _ H' => Q .non H', rt := Q } (start N vs) H) :
    FnG P w K mg base CX (k + 1) f fd ps sp := by
  obtain ⟨oc, od, kV, doc, pm, an, cdv, ct, osl, rfl, lk, hcd⟩ := F.ex
  refine ⟨len, ?_⟩
  intro A outer s H args us vs Q E hr hgd e0 hb hv hs
  have kin : K.In s.heap := e0.mod.kin.keeps fun b o e => (e0.bs b o e).1
  have nol : s.heap.NoLimit := e0.mod.nolimit.keeps fun b o e => (e0.bs b o e).1
  refine Att.call_fn (binds := ps.zip us) kin nol lk hcd hr.depth hb ?_ ?_ S.co S.gen S.kind
  · rw [List.all_eq_true]
    rintro ⟨n, v⟩ hy
    rcases S.par n (List.of_mem_zip hy).1 with q | q <;> simp [q]
  · intro s1 ic
    obtain ⟨t, ht, hq⟩ := body cdv A outer s H vs Q E (hr.deeper _) (guards_deeper hgd) hs
    have I := inv_start (CX := CX) (E := E) S hr.hd e0 (len _ _ _ _ hs) hv ic
    refine wpAny_mono (ht.run [] s1 _ H _ I hq) ?_ fun e s' z => z
    intro fl s' z
    cases fl with
    | ret u =>
      obtain ⟨v, σ', H', J, rv, q⟩ := z
      exact ⟨v, H', J.os, J.bare, J.base, J.hok, rv, q⟩
    | next =>
      obtain ⟨σ', H', J, q⟩ := z
      exact ⟨.non, H', J.os, J.bare, J.base, J.hok, rfl, q⟩
    | brk => obtain ⟨_, _, _, q⟩ := z; exact q.elim
    | cont => obtain ⟨_, _, _, q⟩ := z; exact q.elim
end
end AB

namespace AB
open PySem PySem.Spec PyProof.Rows L2

/-! ### what is shown by repr -/
structure Show (d : PyData) (n k : Nat) : Prop where
  ok : d.showable = true
  nd : d.hasDict = false
  dp : d.depth ≤ k
  sz : d.shown.length ≤ n

theorem Show.mono {d : PyData} {n k n' k' : Nat} (h : Show d n k) (hn : n ≤ n') (hk : k ≤ k') : Show d n' k' :=
  ⟨h.ok, h.nd, Nat.le_trans h.dp hk, Nat.le_trans h.sz hn⟩

theorem log_lt2 {m k : Nat} (hk : 0 < k) (h : m < 2 ^ k) : m.log2 < k := by
  by_cases h0 : m = 0
  · subst h0; exact hk
  · exact (Nat.log2_lt h0).mpr h

theorem Show.int {i : Int} (h : i.natAbs < 2 ^ 300) : Show (.int i) 301 0 := by
  refine ⟨?_, rfl, Nat.le_refl _, ?_⟩
  · exact decide_eq_true (Nat.lt_trans (log_lt2 (k := 300) (by decide) h) (by decide))
  · show (Str.ofString (toString i)).length ≤ 301
    rw [PySem.ofString_length]
    exact int_text_length_le (k := 300) (by decide) (log_lt2 (by decide) h)

theorem Show.str {x : Str} {m : Nat} (hc : ∀ c ∈ x.cps.toList, c < 16 ^ 8) (hm : x.length ≤ m) :
    Show (.str x) (10 * m + 2) 0 :=
  ⟨rfl, rfl, Nat.le_refl _, Nat.le_trans (StrLaws.reprText_len x hc) (by omega)⟩
theorem Show.none : Show .none 4 0 := ⟨rfl, rfl, Nat.le_refl _, by decide +kernel⟩
theorem Show.bool (b : Bool) : Show (.bool b) 5 0 := ⟨rfl, rfl, Nat.le_refl _, by cases b <;> decide +kernel⟩

theorem showable_all : ∀ {ds : List PyData} {n k : Nat}, (∀ d ∈ ds, Show d n k) →
    PyData.showableAll ds = true ∧ PyData.hasDictAll ds = false ∧ PyData.depthAll ds ≤ k ∧
      ((PyData.shownAll ds).map (·.length)).sum ≤ n * ds.length ∧ (PyData.shownAll ds).length = ds.length
  | [], n, k, _ => ⟨rfl, rfl, Nat.zero_le _, Nat.zero_le _, rfl⟩
  | d :: r, n, k, h => by
    have hd := h d List.mem_cons_self
    obtain ⟨a, b, c, e, f⟩ := showable_all (ds := r) (n := n) (k := k) fun x hx => h x (List.mem_cons_of_mem _ hx)
    refine ⟨?_, ?_, ?_, ?_, ?_⟩
    · simp only [PyData.showableAll, hd.ok, a, Bool.and_self]
    · simp only [PyData.hasDictAll, hd.nd, b, Bool.or_self]
    · simp only [PyData.depthAll]
      exact Nat.max_le.mpr ⟨hd.dp, c⟩
    · simp only [PyData.shownAll, List.map_cons, List.sum_cons, List.length_cons]
      have := hd.sz
      rw [Nat.mul_succ]
      omega
    · simp only [PyData.shownAll, List.length_cons, f]

theorem Show.list {ds : List PyData} {n k m : Nat} (h : ∀ d ∈ ds, Show d n k) (hm : n * ds.length + 2 * ds.length + 3 ≤ m) :
    Show (.list ds) m (k + 1) := by
  obtain ⟨a, b, c, e, f⟩ := showable_all h
  refine ⟨by simpa only [PyData.showable] using a, by simpa only [PyData.hasDict] using b, by simp only [PyData.depth]; omega, ?_⟩
  have q := listText_len_le (PyData.shownAll ds)
  simp only [PyData.shown]
  omega
theorem Show.tup {ds : List PyData} {n k m : Nat} (h : ∀ d ∈ ds, Show d n k) (hm : n * ds.length + 2 * ds.length + 3 ≤ m) :
    Show (.tuple ds) m (k + 1) := by
  obtain ⟨a, b, c, e, f⟩ := showable_all h
  refine ⟨by simpa only [PyData.showable] using a, by simpa only [PyData.hasDict] using b, by simp only [PyData.depth]; omega, ?_⟩
  have q := tupleText_len_le (PyData.shownAll ds)
  simp only [PyData.shown]
  omega

theorem cLine_big : 70 + 4 < cLine := by decide
theorem sizeLine_big : 16000000 ≤ sizeLine := by rw [sizeLine_eq]; decide

section
variable {X : Cx}
/-- repr(v), v any data without dicts -/
def rRepr (K : PySem.W.Frag) : List V → Hp → VK → Prop := fun xs H Q =>
  ∃ v d, xs = [v] ∧ Dp K H v d ∧ Show d 16000000 64 ∧ Q (.str d.shown) H
theorem call_repr {k : Nat} (hr : Room k X.A) (hg : X.A.guards = some []) : CallR X (.builtin "repr") (rRepr X.K) := by
  intro pins s σ H xs us Q I r h
  obtain ⟨v, d, rfl, hd, hs, q⟩ := h
  obtain ⟨u, rfl, ru⟩ := vals1 r
  have un := hr.un
  obtain ⟨as, rd⟩ := Dp.reads I d v u hd ru
  have sz := Nat.le_trans hs.sz sizeLine_big
  have fin : ∀ h' t tk, (∀ b o, s.heap.get? b = some o → h'.get? b = some o) →
      EP X pins σ Q (.str d.shown t) { s with heap := h', toks := tk } :=
    fun h' t tk kp => ⟨.str d.shown, H, I.kept kp, ⟨t, rfl⟩, q⟩
  cases hd with
  | non =>
    cases ru
    exact PySem.P.repr_of_none (fin s.heap _ _ fun _ _ e => e)
  | bl b =>
    cases ru
    exact PySem.P.repr_of_bool (fin s.heap _ _ fun _ _ e => e)
  | int i =>
    obtain ⟨t, rfl⟩ := ru
    exact PySem.P.repr_of_int (of_decide_eq_true hs.ok) (fin s.heap _ _ fun _ _ e => e)
  | str x =>
    obtain ⟨t, rfl⟩ := ru
    exact PySem.P.repr_of_str (fin s.heap _ _ fun _ _ e => e) sz
  | lst a b =>
    cases ru
    have dp := hs.dp
    exact repr_of_reads' rd hs.ok (fun z => by rw [hs.nd] at z; cases z) hg (by omega) (fun _ _ e => e) fin sz
  | tup a b =>
    cases ru
    have dp := hs.dp
    exact repr_of_reads' rd hs.ok (fun z => by rw [hs.nd] at z; cases z) hg (by omega) (fun _ _ e => e) fin sz

/-! ### texts from code lists; repetition -/
abbrev sl (l : List Nat) : Str := ⟨l.toArray⟩
theorem sl_toList (z : Str) : sl z.cps.toList = z := by cases z; simp [sl]
theorem sl_len (l : List Nat) : (sl l).length = l.length := by simp [sl, Str.length]
theorem len_toList (z : Str) : z.cps.toList.length = z.length := by simp [Str.length]

theorem foldl_app : ∀ (n : Nat) (a acc : Array Nat), ((List.replicate n a).foldl (· ++ ·) acc).toList = acc.toList ++ (List.replicate n a.toList).flatten
  | 0, a, acc => by simp
  | n + 1, a, acc => by
    rw [List.replicate_succ, List.foldl_cons, foldl_app n a, List.replicate_succ, List.flatten_cons]
    simp

theorem op_rep_str : OpR X (binaryOp .Mult) (fun x y H Q => ∃ z k, x = .str z ∧ y = .int k ∧ 0 ≤ k ∧ k < 1000000 ∧
    z.length * k.toNat ≤ 1000000 ∧ Q (.str (sl (List.replicate k.toNat z.cps.toList).flatten)) H) := by
  intro pins s σ H x y v u Q I rx ry h
  obtain ⟨z, k, rfl, rfl, k0, k1, hz, q⟩ := h
  obtain ⟨t, rfl⟩ := rx
  obtain ⟨t', rfl⟩ := ry
  refine PySem.P.mul_str ?_ (fun h1 h2 => ?_) (fun h1 h2 => ?_) ?_
  · rw [decide_eq_false (by omega), decide_eq_false (by omega)]
    rfl
  · intro c
    have h3 : (1 : Int) ≤ k := by omega
    have h4 : z.length ≤ 1000000 := by
      have : 1 ≤ k.toNat := by omega
      exact Nat.le_trans (Nat.le_mul_of_pos_right _ this) hz
    have h5 : (1000000 : Int) ≤ (2 ^ 63 - 1) / k := by
      rw [Int.le_ediv_iff_mul_le (by omega)]
      omega
    omega
  · unfold Builtin.Str.tooLong
    have := sizeLine_big
    exact decide_eq_false (by omega)
  · have key : ∀ w : Str, w.cps.toList = (List.replicate k.toNat z.cps.toList).flatten → ∀ t tk,
        EP X pins σ Q (.str w t) { s with toks := tk } := fun w e t tk => by
      have : w = sl (List.replicate k.toNat z.cps.toList).flatten := by rw [← e, sl_toList]
      subst this
      exact ⟨.str _, H, I.tok tk, ⟨t, rfl⟩, q⟩
    by_cases h1 : k < 1
    · rw [if_pos h1]
      have : k.toNat = 0 := by omega
      refine ⟨by decide, key _ ?_ _ _⟩
      rw [this]; rfl
    · rw [if_neg h1]
      by_cases h2 : (k == 1 || z.length == 0) = true
      · rw [if_pos h2]
        refine key z ?_ t s.toks
        rcases Bool.or_eq_true_iff.mp h2 with c | c
        · have e : k = 1 := eq_of_beq c
          subst e
          simp
        · have e : z.cps.toList = [] := by
            have : z.length = 0 := eq_of_beq c
            rw [← List.length_eq_zero_iff, len_toList, this]
          rw [e]
          simp
      · rw [if_neg h2]
        have e := foldl_app k.toNat z.cps #[]
        refine ⟨?_, key _ (by simpa using e) _ _⟩
        have l : (Str.mk ((List.replicate k.toNat z.cps).foldl (· ++ ·) #[])).length = z.length * k.toNat := by
          rw [← len_toList]
          show ((List.replicate k.toNat z.cps).foldl (· ++ ·) #[]).toList.length = _
          rw [e]
          simp [Str.length, Nat.mul_comm]
        rw [l]
        have := sizeLine_big
        omega

/-! ### f(k = v, ..) without positional arguments -/
theorem pe_callK0 {CX : CXT} {k : Nat} {f : Addr} {fd : FuncData} {ps ks : List Str} {sp : Sp} {E : XK} {x : Str} {p pos : Pos} {kws : List Keyword} {tk : TA}
    {g : List Value → List Value → List Value} {gV : List V → List V → List V}
    (F : FnOk X.prog X.w X.K X.mg X.base CX k f fd ps sp) (hr : Room k X.A) (hg : Gl X x) (hm : X.mg x = some (.ref f))
    (hk : PySem.W.keepIn X.K (.ref f) = true) (hb : KBinds X.K fd ps ks g gV) (hx : Passes CX X E) (hkw : PK X kws tk)
    (hall : (backToKw pos (keywordEach kws X.env)).all (·.1.isSome) = true := by rfl)
    (hks : (backToKw pos (keywordEach kws X.env)).filterMap (·.1) = ks := by rfl)
    (hdb : (x == ("__debug__" : Str)) = false := by decide)
    (hpl : ((backTo pos (starEach [] X.env)).any (·.1) || (backToKw pos (keywordEach kws X.env)).any (·.1.isNone)) = false := by rfl) :
    PE X (.Call (.Name x p) [] kws pos) (tCallK sp gV E tNil tk) := by
  constructor
  intro pins s σ H Q I h
  refine wpAny_Call_Name_kw (ld_glob I hg hm ?_ hdb)
  refine PySem.W.callWith_KW0 (h₀ := X.base) I.ok.mod.kin hk hall (thn (hkw.run pos pins s σ H _ I h) ?_) hpl
  rintro ws s2 ⟨zs, H2, I2, rz, q2⟩
  refine ⟨I2.kIn, ?_⟩
  rw [hks]
  exact run_fnk (us := []) (vs := []) F hr hb hx I2 .nil rz q2
end
end AB

namespace AB
open PySem PySem.Spec PyProof.Rows L2

/-! ### the law's own call, from a promise that knows that no repr is under way -/
def scrO (vs : List Value) : Obj := { cls := .type "list", data := .seq vs.toArray }
def scrH (K : PySem.W.Frag) (a : Addr) (vs : List Value) (ns : List Int) : Hp := fun b =>
  if b = a ∧ K.lookup a = none then some (.frz (scrO vs) (.lst (ns.map V.int))) else none

section
variable {P : Program} {w : World} {K : PySem.W.Frag} {mg mb : Str → Option Value} {k : Nat} {fa a : Addr}
  {fd : FuncData} {x : Str} {sp : Sp} {s₁ : Shared} {vs : List Value} {ns : List Int}

theorem scrH_some {b : Addr} {o : HO} (h : scrH K a vs ns b = some o) :
    b = a ∧ K.lookup a = none ∧ o = .frz (scrO vs) (.lst (ns.map V.int)) := by
  unfold scrH at h
  by_cases c : b = a ∧ K.lookup a = none
  · rw [if_pos c] at h
    exact ⟨c.1, c.2, (Option.some.inj h).symm⟩
  · rw [if_neg c] at h
    cases h

theorem law_goes (KX : K.In s₁.heap) (hns : s₁.heap.Ns mainGlobals mg) (hb : s₁.heap.Ns builtinsNs mb)
    (hbb : ∀ x : Str, x ≠ "__name__" → mb x = bootBuiltins x) (hlim : s₁.heap.NoLimit) (hg : s₁.gens = #[])
    (ha : s₁.heap.get? a = some (scrO vs)) (hi : IntsAre vs ns) (hl : ns.length ≤ sizeLine) (hr : Room k callerA)
    (F : ∀ base : Heap, K.In base → base.Ns mainGlobals mg → FnG P w K mg base CX0 k fa fd [x] sp)
    (hbind : ∀ (s : Shared) (u : Value), BindsTo s fd ⟨[u], []⟩ [(x, u)])
    (hsp : ∀ H : Hp, SqL K H a (ns.map V.int) → sp [.ref a] H (fun v _ => v = .bl true) fun _ _ _ => False) :
    codeAny (model P w) callerA (.call (.ref fa) ⟨[.ref a], []⟩)
      (fun r s' => r = .ok (.ret (.bool true)) ∧ OldK s₁.heap s'.heap ∧ s'.os = s₁.os ∧ AllBare s'.gens) s₁ := by
  have rv := vals_ints hi
  let H : Hp := scrH K a vs ns
  have toBase : ∀ {b : Addr} {o : Obj}, s₁.heap.get? b = some o → H b = none → (hidT s₁.heap H).get? b = some o :=
    fun e n => hidT_get e n
  have dictFree : ∀ {b : Addr} {o : Obj} {es : Array DictEntry} {ep : Nat}, s₁.heap.get? b = some o →
      o.data = .dict es ep → H b = none := by
    intro b o es ep e d
    cases q : H b with
    | none => rfl
    | some u =>
      obtain ⟨rfl, _, _⟩ := scrH_some q
      rw [ha] at e
      cases e
      exact nomatch (show Data.seq vs.toArray _ = Data.dict es ep from d)
  have nsB : ∀ {b : Addr} {m : Str → Option Value}, s₁.heap.Ns b m → (hidT s₁.heap H).Ns b m := by
    rintro b m ⟨o, es, ep, e, d, r⟩
    exact ⟨o, es, ep, toBase e (dictFree e d), d, r⟩
  have kinB : K.In (hidT s₁.heap H) := by
    intro b o e
    refine toBase (KX b o e) ?_
    cases q : H b with
    | none => rfl
    | some u =>
      obtain ⟨rfl, z, _⟩ := scrH_some q
      rw [z] at e
      cases e
  have hM : Mod K mg (hidT s₁.heap H) := ⟨kinB, nsB hns, ⟨mb, nsB hb, hbb⟩, by
    obtain ⟨mc, h1, h2⟩ := hlim
    exact ⟨mc, nsB h1, h2⟩⟩
  have hok : HOk P w H s₁.heap := by
    intro b u e
    obtain ⟨rfl, z, rfl⟩ := scrH_some e
    exact ⟨ha, by rw [List.length_map]; exact hl, vs, _, rv, ha⟩
  have sq : SqL K H a (ns.map V.int) := by
    cases q : K.lookup a with
    | none => exact .inl (.inr ⟨scrO vs, if_pos ⟨rfl, q⟩⟩)
    | some o =>
      have e := KX a o q
      rw [ha] at e
      cases e
      refine .inr ⟨_, vs.toArray, _, q, rfl, rfl, rfl, ?_, by simpa using rv⟩
      have := rv.length
      rw [List.length_map] at this
      rw [List.size_toArray]
      omega
  have e0 : Env0 P w K mg (hidT s₁.heap H) callerA [] s₁ H :=
    { frames := rfl, mod := hM, bs := fun b o e => of_hidT e, bsz := Nat.le_of_eq (hidT_size _ _), funs := trivial,
      frf := fun b z => absurd (show b ∈ ([] : List Addr) from z) (by simp), hok := hok, bare := .of_eq hg }
  refine codeAny_mono ((F _ kinB (nsB hns)).go callerA [] s₁ H ⟨[.ref a], []⟩ [.ref a] [.ref a] _ _ hr rfl e0
    (hbind s₁ (.ref a)) (.cons rfl .nil) (hsp H sq)) ?_
  intro r s' h
  cases r with
  | error e => exact False.elim h
  | ok fl =>
    cases fl with
    | next => exact False.elim h
    | brk => exact False.elim h
    | cont => exact False.elim h
    | ret u =>
      obtain ⟨v, H', os, bare, un, hok', r', q⟩ := h
      have q1 : v = .bl true := q
      subst q1
      have q2 : u = Value.bool true := r'
      subst q2
      refine ⟨rfl, OldK.of_keep ?_, os, bare⟩
      intro b o e
      cases q : H b with
      | none => exact un.keep b o e q (fun z => absurd (show b ∈ ([] : List Addr) from z) (by simp)) (by simp)
      | some u =>
        obtain ⟨rfl, z, rfl⟩ := scrH_some q
        obtain ⟨e1, _⟩ := hok b _ q
        obtain ⟨e2, _⟩ := hok' b _ (un.frzs b _ _ q)
        rw [e] at e1
        cases e1
        exact e2
end

theorem walk_goes {l : PySem.W.OpenLaw} {n k : Nat} {q : Program} {loose : List Str}
    {XP : (Str → Option Value) → Heap → Prop} {YP : World → Heap → Prop} {d : DefRec} {K : Params → PySem.W.Frag}
    {sp : PySem.W.Frag → Sp} {x : Str}
    (hn : l.most = some n) (hn2 : n ≤ sizeLine) (hdf : d.params.defaults = []) (hr : Room k callerA)
    (hY : ∀ (w : World) (h : Heap), YP w h → (K w.params).In h)
    (F : ∀ (w : World) (mg : Str → Option Value) (fa : Addr) (h : Heap), (K w.params).In h → h.Ns mainGlobals mg →
      mg d.name = some (.ref fa) → ∃ fd : FuncData, (∀ (s : Shared) (u : Value), BindsTo s fd ⟨[u], []⟩ [(x, u)]) ∧
        ∀ base : Heap, (K w.params).In base → base.Ns mainGlobals mg →
          FnG l.prog w (K w.params) mg base CX0 k fa fd [x] (sp (K w.params)))
    (hsp : ∀ (K : PySem.W.Frag) (H : Hp) (a : Addr) (ns : List Int), ns.length ≤ n → SqL K H a (ns.map V.int) →
      sp K [.ref a] H (fun v _ => v = .bl true) fun _ _ _ => False) :
    PySem.W.WalkO q loose XP YP l.row.toRowW d [] (fun f vs => PySem.call f vs) := by
  refine Att.attach_call hn hdf ?_
  intro w s₀ s₁ mg mb fa o pm cd doc a vs ns G Y ho hd hcd hmg hobj hints hlen hg
  have KX := hY w _ Y
  obtain ⟨fd, hb, hF⟩ := F w mg fa _ KX G.T.g hmg
  exact law_goes KX G.T.g G.T.b G.T.builtins G.T.nolimit hg hobj hints (Nat.le_trans hlen hn2) hr hF hb
    fun H hS => hsp _ H a ns hlen hS

/-! ### a def that hands back a written text, and .replace of what it hands back -/
structure TextDef (P : Program) (w : World) (K : PySem.W.Frag) (mg : Str → Option Value) (base : Heap) (f : Addr) (z : Str) : Prop where
  go : ∀ (A : Around) (outer : List Env) (s : Shared) (H : Hp), Room 1 A → Env0 P w K mg base A outer s H →
    codeAny (model P w) A (.call (.ref f) ⟨[], []⟩) (fun r s' => ∃ t, r = .ok (.ret (.str z t)) ∧ 1 ≤ s'.toks ∧
      s'.os = s.os ∧ AllBare s'.gens ∧ Un (frs outer) [] H H s.heap s'.heap ∧ HOk P w H s'.heap) s

section
variable {P : Program} {w : World} {K : PySem.W.Frag} {mg : Str → Option Value} {base : Heap} {f : Addr} {fd : FuncData}
theorem textDef {x qual : Str} {st : Stmt} {z : Str} {j : Nat} {p1 p2 : Pos} (F : Fun K x qual st f fd)
    (S : FnScope [] [] (defScope st)) (hb : defBody st = [.Return (some (.Constant (.str z) j p1)) p2])
    (hbind : Binds K fd [] []) : TextDef P w K mg base f z := by
  obtain ⟨oc, od, kV, doc, pm, an, cdv, ct, osl, rfl, lk, hcd⟩ := F.ex
  refine ⟨?_⟩
  intro A outer s H hr e0
  have kin : K.In s.heap := e0.mod.kin.keeps fun b o e => (e0.bs b o e).1
  have nol : s.heap.NoLimit := e0.mod.nolimit.keeps fun b o e => (e0.bs b o e).1
  refine Att.call_fn (binds := []) kin nol lk hcd hr.depth (hbind s [] kin rfl) rfl ?_ S.co S.gen S.kind
  intro s1 ic
  have I : Inv (cxOf CX0 P w K mg base [] qual (defScope st) f cdv A outer s H E0) [] (start [] []) H s1 :=
    inv_start (us := []) (vs := []) S hr.hd e0 rfl .nil ic
  rw [hb]
  refine wpAny_execs_cons (wpAny_Return_some (Calls.Constant_str ?_))
  have J := I.tok (s1.toks + 1)
  exact ⟨_, rfl, Nat.le_add_left _ _, J.os, J.bare, J.base, J.hok⟩
end

section
variable {X : Cx}
def tSignsRep (z y u : Str) : TE := fun _ H Q => Q (.str (Txt.replace z y u)) H
theorem pe_signsRep {x : Str} {f : Addr} {z y u : Str} {j k : Nat} {p0 p1 apos c0 c1 pos : Pos}
    (T : TextDef X.prog X.w X.K X.mg X.base f z) (hr : Room 1 X.A) (hg : Gl X x) (hm : X.mg x = some (.ref f))
    (hk : PySem.W.keepIn X.K (.ref f) = true) (hyz : (y == u) = false) (hsz : z.length + (z.length + 1) * u.length ≤ 16777216)
    (hdb : (x == ("__debug__" : Str)) = false := by decide)
    (hst : starEach [.Constant (.str y) j c0, .Constant (.str u) k c1] X.env =
      [(false, eval (.Constant (.str y) j c0) X.env), (false, eval (.Constant (.str u) k c1) X.env)] := by rfl)
    (hbase : attributeBase (.Call (.Name x p0) [] [] p1) "replace" X.env (eval (.Call (.Name x p0) [] [] p1) X.env)
      = eval (.Call (.Name x p0) [] [] p1) X.env := by rfl) (hline : (apos.endLine == pos.line) = true := by rfl) :
    PE X (.Call (.Attribute (.Call (.Name x p0) [] [] p1) "replace" apos) [.Constant (.str y) j c0, .Constant (.str u) k c1] [] pos)
      (tSignsRep z y u) := by
  constructor
  intro pins s σ H Q I h
  refine PySem.Call_method2 hbase hst hline ?_
  refine wpAny_Call_Name_kw (ld_glob I hg hm ?_ hdb)
  refine PySem.W.callWith_K0 I.kIn hk (wpAny_call (codeAny_mono (T.go X.A X.stack s H hr I.env0) ?_))
  rintro r s1 ⟨t, rfl, ht, os, bare, un, hok⟩
  have I1 : Inv X pins σ H s1 := I.call' (ch := []) os un hok bare (fun b z => absurd z (by simp))
  refine ⟨"str", _, PySem.F.plainAttrs_str, PySem.F.slot_str_replace, PySem.F.type_str_replace, typeIs_str _ _ _,
    (fun _ e => nomatch e), Calls.callWith_builtin rfl (Calls.evalArgs_plain (Calls.spliced_cons ?_))⟩
  refine Calls.Constant_str (Calls.spliced_cons (Calls.Constant_str (Calls.spliced_nil ?_)))
  have n1 : s1.toks ≠ 0 := by omega
  have n2 : s1.toks + 1 ≠ 0 := by omega
  have n3 : s1.toks ≠ s1.toks + 1 := by omega
  exact PySem.SC.replace n1 n2 n3 hyz hsz fun t' k => ⟨.str (Txt.replace z y u), H, I1.tok k, ⟨t', rfl⟩, h⟩
end
end AB

namespace AB
open PySem PySem.Spec PyProof.Rows L2

/-! ### a def of the text, the built-ins -/
structure FX (K : PySem.W.Frag) (mg : Str → Option Value) (x : Str) (st : Stmt) (ps : List Str) (f : Addr) (fd : FuncData) : Prop where
  F : Fun K x x st f fd
  b : Binds K fd ps []
  g : mg x = some (.ref f)
structure Bt (mg : Str → Option Value) : Prop where
  b_len : mg "len" = none
  b_range : mg "range" = none
  b_int : mg "int" = none
  b_abs : mg "abs" = none
  b_min : mg "min" = none
  b_max : mg "max" = none
  b_repr : mg "repr" = none
  b_list : mg "list" = none
  b_tuple : mg "tuple" = none
  b_isinstance : mg "isinstance" = none
  b_sorted : mg "sorted" = none
  b_enumerate : mg "enumerate" = none
  b_zip : mg "zip" = none
  b_all : mg "all" = none
  b_any : mg "any" = none
  b_str : mg "str" = none
  b_bool : mg "bool" = none
  b_sum : mg "sum" = none

/-! ### the source of draws -/
def Keep (p : Addr) (H H' : Hp) : Prop := ∀ b o, b ≠ p → H b = some o → H' b = some o
theorem Keep.refl {p : Addr} {H : Hp} : Keep p H H := fun _ _ _ e => e
theorem Keep.trans {p : Addr} {H H1 H2 : Hp} (a : Keep p H H1) (b : Keep p H1 H2) : Keep p H H2 :=
  fun c o n e => b c o n (a c o n e)
theorem Same.keep {p : Addr} {H H' : Hp} (s : Same H H') : Keep p H H' := fun b o _ e => s b o e
theorem Keep.new {p q : Addr} {H : Hp} {o : HO} (h : H q = none) : Keep p H (upd H q o) := fun b u _ e => by
  rw [upd_ne (ne_of_none e h)]; exact e
theorem same_new {q : Addr} {H : Hp} {o : HO} (h : H q = none) : Same H (upd H q o) := fun b u e => by
  rw [upd_ne (ne_of_none e h)]; exact e
theorem Keep.put {p : Addr} {H : Hp} {o : HO} : Keep p H (upd H p o) := fun b u n e => by
  rw [upd_ne n]; exact e

def penD (c : Addr) (t l : Int) : HO :=
  .dK [(.inr "cells", .ref c), (.inr "turn", .int t), (.inr "left", .int l)]
structure Pen (H : Hp) (p c : Addr) (n : Nat) : Prop where
  ex : ∃ (t l : Int) (xs : List Int), H p = some (penD c t l) ∧ H c = some (.lst (xs.map V.int)) ∧
    xs.length ≤ 63 ∧ 0 ≤ t ∧ t ≤ n ∧ 0 ≤ l

section
variable {H : Hp} {p c : Addr} {t l : Int}
theorem e12 : ¬ (("cells" : Str) = "turn") := by decide +kernel
theorem k12 : ¬ ((Sum.inr ("cells" : Str) : Key) = Sum.inr ("turn" : Str)) := fun z => e12 (Sum.inr.inj z)
theorem e13 : ¬ (("cells" : Str) = "left") := by decide +kernel
theorem k13 : ¬ ((Sum.inr ("cells" : Str) : Key) = Sum.inr ("left" : Str)) := fun z => e13 (Sum.inr.inj z)
theorem e23 : ¬ (("turn" : Str) = "left") := by decide +kernel
theorem k23 : ¬ ((Sum.inr ("turn" : Str) : Key) = Sum.inr ("left" : Str)) := fun z => e23 (Sum.inr.inj z)
theorem e21 : ¬ (("turn" : Str) = "cells") := by decide +kernel
theorem k21 : ¬ ((Sum.inr ("turn" : Str) : Key) = Sum.inr ("cells" : Str)) := fun z => e21 (Sum.inr.inj z)
theorem e31 : ¬ (("left" : Str) = "cells") := by decide +kernel
theorem k31 : ¬ ((Sum.inr ("left" : Str) : Key) = Sum.inr ("cells" : Str)) := fun z => e31 (Sum.inr.inj z)
theorem e32 : ¬ (("left" : Str) = "turn") := by decide +kernel
theorem k32 : ¬ ((Sum.inr ("left" : Str) : Key) = Sum.inr ("turn" : Str)) := fun z => e32 (Sum.inr.inj z)
theorem pen_cells (h : H p = some (penD c t l)) : DGet H p (.str "cells") (some (.ref c)) := by
  have q := DGet.k (k := Sum.inr ("cells" : Str)) h
  rw [valV_pos rfl] at q
  exact q
theorem pen_turn (h : H p = some (penD c t l)) : DGet H p (.str "turn") (some (.int t)) := by
  have q := DGet.k (k := Sum.inr ("turn" : Str)) h
  rw [valV_neg k12, valV_pos rfl] at q
  exact q
theorem pen_left (h : H p = some (penD c t l)) : DGet H p (.str "left") (some (.int l)) := by
  have q := DGet.k (k := Sum.inr ("left" : Str)) h
  rw [valV_neg k13, valV_neg k23, valV_pos rfl] at q
  exact q
theorem put_turn (h : H p = some (penD c t l)) (t' : Int) : DPut H p (.str "turn") (.int t') (upd H p (penD c t' l)) := by
  have q := DPut.k (k := Sum.inr ("turn" : Str)) (v := .int t') h (show 3 < sizeLine by decide)
  have e : putK [((.inr "cells" : Key), V.ref c), (.inr "turn", .int t), (.inr "left", .int l)] (.inr "turn") (.int t') =
      [(.inr "cells", .ref c), (.inr "turn", .int t'), (.inr "left", .int l)] := by
    unfold putK
    simp [e12, e32]
  rw [e] at q
  exact q
theorem put_left (h : H p = some (penD c t l)) (l' : Int) : DPut H p (.str "left") (.int l') (upd H p (penD c t l')) := by
  have q := DPut.k (k := Sum.inr ("left" : Str)) (v := .int l') h (show 3 < sizeLine by decide)
  have e : putK [((.inr "cells" : Key), V.ref c), (.inr "turn", .int t), (.inr "left", .int l)] (.inr "left") (.int l') =
      [(.inr "cells", .ref c), (.inr "turn", .int t), (.inr "left", .int l')] := by
    unfold putK
    simp [e13, e23]
  rw [e] at q
  exact q
theorem pen_ne {xs : List V} (h : H p = some (penD c t l)) (h2 : H c = some (.lst xs)) : c ≠ p :=
  ne_of h2 h (fun z => by cases z)
end
theorem Keep.free {p q : Addr} {H H' : Hp} (k : Keep p H H') (n : q ≠ p) (h : H' q = none) : H q = none := by
  cases e : H q with
  | none => rfl
  | some o => rw [k q o n e] at h; cases h
theorem Keep.wr {p q : Addr} {H H' : Hp} {o : HO} (k : Keep p H H') (h : H q = none) : Keep p H (upd H' q o) := fun b u nb e => by
  rw [upd_ne (ne_of_none e h)]
  exact k b u nb e
theorem Same.wr {q : Addr} {H H' : Hp} {o : HO} (k : Same H H') (h : H q = none) : Same H (upd H' q o) := fun b u e => by
  rw [upd_ne (ne_of_none e h)]
  exact k b u e
section
variable {H H' : Hp} {p c a : Addr} {n m : Nat} {xs : List V} {o : HO}
theorem Pen.ne_lst (h : Pen H p c n) (h2 : H a = some (.lst xs)) : a ≠ p := by
  obtain ⟨t, l, ys, e, _⟩ := h.ex
  exact ne_of h2 e (fun z => by cases z)
theorem Pen.ne_tup (h : Pen H p c n) (h2 : H a = some (.tup xs)) : a ≠ p := by
  obtain ⟨t, l, ys, e, _⟩ := h.ex
  exact ne_of h2 e (fun z => by cases z)
theorem Pen.mono (h : Pen H p c n) (hm : n ≤ m) : Pen H p c m := by
  obtain ⟨t, l, ys, e, e2, a, b, d, f⟩ := h.ex
  exact ⟨t, l, ys, e, e2, a, b, by omega, f⟩
theorem Pen.same (h : Pen H p c n) (s : Same H H') : Pen H' p c n := by
  obtain ⟨t, l, ys, e, e2, a⟩ := h.ex
  exact ⟨t, l, ys, s _ _ e, s _ _ e2, a⟩
theorem Pen.new (h : Pen H p c n) (nq : H a = none) : Pen (upd H a o) p c n := h.same (same_new nq)
theorem Pen.nep (h : Pen H p c n) (nq : H a = none) : a ≠ p := by
  obtain ⟨t, l, ys, e, e2, _⟩ := h.ex
  exact (ne_of_none e nq).symm
theorem Pen.nec (h : Pen H p c n) (nq : H a = none) : a ≠ c := by
  obtain ⟨t, l, ys, e, e2, _⟩ := h.ex
  exact (ne_of_none e2 nq).symm
/-- an object of one's own is written -/
theorem Pen.wr (h : Pen H p c n) (h1 : a ≠ p) (h2 : a ≠ c) : Pen (upd H a o) p c n := by
  obtain ⟨t, l, ys, e, e2, r⟩ := h.ex
  exact ⟨t, l, ys, by rw [upd_ne h1.symm]; exact e, by rw [upd_ne h2.symm]; exact e2, r⟩
/-- a list or tuple that can be read stays under Keep -/
theorem Pen.sqL {K : PySem.W.Frag} (h : Pen H p c n) (k : Keep p H H') (s : SqL K H a xs) : SqL K H' a xs := by
  obtain ⟨t, l, ys, e, _⟩ := h.ex
  rcases s with (s | ⟨o, s⟩) | s
  · exact .inl (.inl (k _ _ (ne_of s e fun z => by cases z) s))
  · exact .inl (.inr ⟨o, k _ _ (ne_of s e fun z => by cases z) s⟩)
  · exact .inr s
theorem Pen.sqT {K : PySem.W.Frag} (h : Pen H p c n) (k : Keep p H H') (s : SqT K H a xs) : SqT K H' a xs := by
  obtain ⟨t, l, ys, e, _⟩ := h.ex
  rcases s with (s | ⟨o, s⟩) | s
  · exact .inl (.inl (k _ _ (ne_of s e fun z => by cases z) s))
  · exact .inl (.inr ⟨o, k _ _ (ne_of s e fun z => by cases z) s⟩)
  · exact .inr s
end

theorem dp_ints {K : PySem.W.Frag} {H : Hp} : ∀ ns : List Int, DpAll K H (ns.map V.int) (ns.map PyData.int)
  | [] => .nil
  | n :: r => .cons (.int n) (dp_ints r)
theorem shaped_ints (ns : List Int) : SeqAt.shaped (.list (ns.map PyData.int)) = true := PySem.W.ke_shaped_ints ns

theorem ints_at {ns : List Int} {i : Int} (h : 0 < ns.length) : ∃ y, atI (ns.map V.int) (i % ((ns.map V.int).length : Int)) = some (.int y) := by
  rw [List.length_map]
  have a := Int.emod_nonneg i (b := (ns.length : Int)) (by omega)
  have b := Int.emod_lt_of_pos i (b := (ns.length : Int)) (by omega)
  obtain ⟨j, hj⟩ : ∃ j : Nat, i % (ns.length : Int) = (j : Int) := ⟨(i % (ns.length : Int)).toNat, by omega⟩
  have lj : j < ns.length := by omega
  refine ⟨ns[j], ?_⟩
  rw [hj]
  refine atI_nat ?_
  rw [List.getElem?_map, List.getElem?_eq_getElem lj]
  rfl
def primesL : List Int := [2147483629, 2147483647, 2147483587, 2147483563, 2147483579]
theorem prime_at (t : Int) : ∃ r, atI (primesL.map V.int) (t % 5) = some (.int r) ∧ 0 < r ∧ r < 2147483648 := by
  have a := Int.emod_nonneg t (b := 5) (by omega)
  have b := Int.emod_lt_of_pos t (b := 5) (by omega)
  have c : t % 5 = 0 ∨ t % 5 = 1 ∨ t % 5 = 2 ∨ t % 5 = 3 ∨ t % 5 = 4 := by omega
  rcases c with c | c | c | c | c <;> rw [c]
  · exact ⟨_, rfl, by decide, by decide⟩
  · exact ⟨_, rfl, by decide, by decide⟩
  · exact ⟨_, rfl, by decide, by decide⟩
  · exact ⟨_, rfl, by decide, by decide⟩
  · exact ⟨_, rfl, by decide, by decide⟩

/-- draw(pen, m): a number below m -/
def spDraw : Sp := fun vs H Q _ => ∃ (p c : Addr) (n : Nat) (m : Int), vs = [.ref p, .int m] ∧ Pen H p c n ∧ n ≤ 1000000 ∧
  0 < m ∧ m < 1073741824 ∧ ∀ H' (i : Int), 0 ≤ i → i < m → Keep p H H' → Pen H' p c (n + 1) → Q (.int i) H'
/-- pick(pen, options) -/
def spPick (K : PySem.W.Frag) : Sp := fun vs H Q _ => ∃ (p c : Addr) (n : Nat) (o : V), vs = [.ref p, o] ∧ Pen H p c n ∧ n ≤ 1000000 ∧
  ((∃ z : Str, o = .str z ∧ 0 < z.length ∧ z.length ≤ 100000 ∧
      ∀ H' (i d : Nat), z.cps.toList[i]? = some d → Keep p H H' → Pen H' p c (n + 1) → Q (.str ⟨#[d]⟩) H') ∨
   (∃ (a : Addr) (xs : List V), o = .ref a ∧ SqL K H a xs ∧ xs ≠ [] ∧ xs.length ≤ 100000 ∧
      ∀ H' (i : Nat) (v : V), xs[i]? = some v → Keep p H H' → Pen H' p c (n + 1) → Q v H'))
/-- pen(script) -/
def spPen (K : PySem.W.Frag) : Sp := fun vs H Q _ => ∃ (a : Addr) (ns : List Int), vs = [.ref a] ∧ SqL K H a (ns.map V.int) ∧
  ns.length ≤ 63 ∧ ∀ H' p c, Same H H' → H p = none → Pen H' p c 0 → Q (.ref p) H'
end AB

namespace AB
open PySem PySem.Spec PyProof.Rows L2
open TL (tl)

/-! ### places of a word -/
def isAt (t w : List Nat) (i : Nat) : Bool := TL.pre w (t.drop i)
def plcN (t w : List Nat) (n : Nat) : List Nat := (List.range n).filter (isAt t w)
/-- all places of the word w in the text t, ascending -/
def plc (t w : List Nat) : List Nat := plcN t w (t.length + 1)

theorem isAt_le {t w : List Nat} {i : Nat} (hw : w ≠ []) (h : isAt t w i = true) : i + w.length ≤ t.length := by
  have e : (t.drop i).take w.length = w := eq_of_beq h
  have e1 := congrArg List.length e
  rw [List.length_take, List.length_drop] at e1
  have := List.length_pos_iff.mpr hw
  omega
theorem plcN_succ {t w : List Nat} {n : Nat} : plcN t w (n + 1) = plcN t w n ++ (if isAt t w n = true then [n] else []) := by
  unfold plcN
  rw [List.range_succ, List.filter_append]
  by_cases h : isAt t w n = true
  · simp [h]
  · simp [h]
theorem plcN_skip {t w : List Nat} {a : Nat} : ∀ (k : Nat), (∀ j, a ≤ j → j < a + k → isAt t w j = false) → plcN t w (a + k) = plcN t w a
  | 0, _ => rfl
  | k + 1, h => by
    have ih := plcN_skip (a := a) k fun j h1 h2 => h j h1 (by omega)
    rw [← Nat.add_assoc, plcN_succ, ih, h (a + k) (by omega) (by omega)]
    simp
theorem plcN_skip' {t w : List Nat} {a b : Nat} (hab : a ≤ b) (h : ∀ j, a ≤ j → j < b → isAt t w j = false) : plcN t w b = plcN t w a := by
  have := plcN_skip (t := t) (w := w) (a := a) (b - a) fun j h1 h2 => h j h1 (by omega)
  rwa [show a + (b - a) = b by omega] at this
theorem plcN_end {t w : List Nat} {a : Nat} (ha : t.length + 1 - w.length ≤ a) (hw : w ≠ []) : plcN t w a = plc t w := by
  unfold plc
  have key : ∀ j, t.length + 1 - w.length ≤ j → isAt t w j = false := fun j hj => by
    cases c : isAt t w j with
    | false => rfl
    | true =>
      have := isAt_le hw c
      have := List.length_pos_iff.mpr hw
      omega
  rw [plcN_skip' (a := t.length + 1 - w.length) (b := t.length + 1) (by omega) fun j h1 _ => key j h1, plcN_skip' ha fun j h1 _ => key j h1]
theorem plcN_len (t w : List Nat) (n : Nat) : (plcN t w n).length ≤ n := by
  unfold plcN
  exact Nat.le_trans (List.length_filter_le _ _) (by simp)
theorem plc_len (t w : List Nat) : (plc t w).length ≤ t.length + 1 := plcN_len _ _ _
theorem mem_plc {t w : List Nat} {i : Nat} (hw : w ≠ []) : i ∈ plc t w ↔ isAt t w i = true := by
  unfold plc plcN
  rw [List.mem_filter, List.mem_range]
  constructor
  · exact fun h => h.2
  · intro h
    have := isAt_le hw h
    exact ⟨by omega, h⟩

def nVs (l : List Nat) : List V := l.map fun k : Nat => V.int (k : Int)
theorem nVs_len (l : List Nat) : (nVs l).length = l.length := List.length_map _
theorem nVs_app (l : List Nat) (k : Nat) : nVs (l ++ [k]) = nVs l ++ [V.int (k : Int)] := by simp [nVs]
def datI (l : List Nat) : List PyData := l.map fun k : Nat => PyData.int (k : Int)
theorem dp_nats {K : PySem.W.Frag} {H : Hp} : ∀ l : List Nat, DpAll K H (nVs l) (datI l)
  | [] => .nil
  | n :: r => .cons (.int n) (dp_nats r)
theorem shaped_nats (l : List Nat) : SeqAt.shaped (.list (datI l)) = true := by
  have := shaped_ints (l.map fun k : Nat => (k : Int))
  rw [List.map_map] at this
  exact this
theorem eqv_ints : ∀ l : List Int, PyData.eqvAll (l.map PyData.int) (l.map PyData.int) = true
  | [] => rfl
  | n :: r => by simp [PyData.eqvAll, PyData.eqv, eqv_ints r]
theorem eqv_nats (l : List Nat) : PyData.eqv (.list (datI l)) (.list (datI l)) = true := by
  have := eqv_ints (l.map fun k : Nat => (k : Int))
  rw [List.map_map] at this
  simp only [PyData.eqv]
  exact this
theorem show_nats {l : List Nat} {m : Nat} (hl : l.length ≤ m) (hm : m ≤ 50000) (hb : ∀ k ∈ l, k ≤ 1000000) : Show (.list (datI l)) 16000000 64 := by
  refine (Show.list (n := 301) (k := 0) (m := 16000000) ?_ ?_).mono (Nat.le_refl _) (by decide)
  · intro d hd
    obtain ⟨k, hk, rfl⟩ := List.mem_map.mp hd
    refine Show.int ?_
    have := hb k hk
    rw [Int.natAbs_natCast]
    exact Nat.lt_of_le_of_lt this (Nat.lt_of_lt_of_le (show 1000000 < 2 ^ 20 by decide) (Nat.pow_le_pow_right (by decide) (by decide)))
  · have : (datI l).length = l.length := List.length_map _
    omega

/-- text.find(word), from a place on -/
theorem find_from {x y : Str} (hy : tl y ≠ []) (lo : Nat) :
    (Builtin.Str.occurrences x y lo x.length 1 = [] ∧ ∀ j, lo ≤ j → isAt (tl x) (tl y) j = false) ∨
    ∃ k r, Builtin.Str.occurrences x y lo x.length 1 = k :: r ∧ lo ≤ k ∧ isAt (tl x) (tl y) k = true ∧ ∀ j, lo ≤ j → j < k → isAt (tl x) (tl y) j = false := by
  rcases PySem.StrLaws.occ_head_from x y lo 1 (Nat.le_refl _) with ⟨a, b⟩ | ⟨k, r, a, b, c, d⟩
  · exact .inl ⟨a, fun j hj => TL.no_at hy (b j hj)⟩
  · exact .inr ⟨k, r, a, b, (TL.at_iff hy k).mp c, fun j h1 h2 => TL.no_at hy (d j h1 h2)⟩
theorem find3_nat (x y : Str) (lo : Nat) : Txt.find3 x y (lo : Int) = match Builtin.Str.occurrences x y lo x.length 1 with | k :: _ => (k : Int) | [] => -1 := by
  unfold Txt.find3
  have : fromIndex x.length (lo : Int) = lo := by
    unfold fromIndex
    rw [if_neg (by omega)]
    omega
  rw [this]
  cases Builtin.Str.occurrences x y lo x.length 1 <;> rfl

/-! ### slices, joins -/
theorem tl_cutS {z : Str} {a b : Nat} : tl (cutS z (some (a : Int)) (some (b : Int))) = ((tl z).drop a).take (b - a) := by
  show ((z.cps.toList.drop (HT.sIx z.length 0 (some (a : Int)))).take (HT.sIx z.length z.length (some (b : Int)) - HT.sIx z.length 0 (some (a : Int)))) = _
  rw [HT.sIx_nat, HT.sIx_nat]
  have hl := TL.len_tl z
  by_cases h : a ≤ z.length
  · rw [Nat.min_eq_left h]
    by_cases h2 : b ≤ z.length
    · rw [Nat.min_eq_left h2]
    · rw [Nat.min_eq_right (by omega)]
      rw [List.take_of_length_le (by rw [List.length_drop]; show z.cps.toList.length - a ≤ _; rw [← hl]; omega), List.take_of_length_le (by rw [List.length_drop, ← hl]; omega)]
  · have e1 : (tl z).drop a = [] := List.drop_eq_nil_of_le (by rw [← hl]; omega)
    have e2 : (tl z).drop z.length = [] := List.drop_eq_nil_of_le (by rw [← hl]; exact Nat.le_refl _)
    have e3 : min a z.length = z.length := by omega
    have e4 : z.cps.toList.drop z.length = [] := e2
    rw [e3, e1, e4]
    simp
theorem cutV_whole {xs : List V} {n : Nat} (h : xs.length ≤ n) : cutV xs none (some (n : Int)) = xs := by
  unfold cutV
  rw [HT.sIx_none, HT.sIx_nat, Nat.min_eq_right h]
  simp
theorem cutV_to {xs : List V} {n : Nat} (h : n ≤ xs.length) : cutV xs none (some (n : Int)) = xs.take n := by
  unfold cutV
  rw [HT.sIx_none, HT.sIx_nat, Nat.min_eq_left h]
  simp

theorem foldl_glue : ∀ (ps : List Str) (acc : Array Nat), (ps.foldl (fun acc p => acc ++ (Str.ofString "").cps ++ p.cps) acc).toList = acc.toList ++ (ps.map tl).flatten
  | [], acc => by simp
  | p :: r, acc => by
    rw [List.foldl_cons, foldl_glue r]
    have : (Str.ofString "").cps = #[] := by decide +kernel
    rw [this]
    simp
theorem tl_join (ps : List Str) : tl (Txt.join "" ps) = (ps.map tl).flatten := by
  cases ps with
  | nil => decide +kernel
  | cons p r =>
    have := foldl_glue r p.cps
    show ((r.foldl (fun acc q => acc ++ (Str.ofString "").cps ++ q.cps) p.cps)).toList = _
    rw [this]
    simp

/-! ### letters -/
def lettersS : Str := "\x0a !\"#$&'()*+,-./0123456789:;<=>?@ABCDEFGHIJKLMNOPQRSTUVWXYZ[\\]^_`abcdefghijklmnopqrstuvwxyz{|}~"
/-- the text's signs are letters -/
def Lt (z : Str) : Prop := ∀ c ∈ tl z, c ∈ tl lettersS
theorem letters_small : ∀ c ∈ tl lettersS, c < 127 := by decide +kernel
theorem Lt.small {z : Str} (h : Lt z) : ∀ c ∈ z.cps.toList, c < 16 ^ 8 := fun c hc =>
  Nat.lt_trans (letters_small c (h c hc)) (by decide)
theorem Lt.of_mem {z y : Str} (h : Lt z) (s : ∀ c ∈ tl y, c ∈ tl z) : Lt y := fun c hc => h c (s c hc)
theorem Lt.one {z : Str} {c : Nat} {i : Nat} (h : Lt z) (e : z.cps.toList[i]? = some c) : Lt ⟨#[c]⟩ := fun d hd => by
  have : d = c := by simpa using hd
  subst this
  exact h d (List.mem_of_getElem? e)
theorem Lt.app {x y : Str} (hx : Lt x) (hy : Lt y) : Lt (x ++ y) := fun c hc => by
  rw [TL.tl_append] at hc
  exact (List.mem_append.mp hc).elim (hx c) (hy c)
theorem Lt.cut {z : Str} {lo hi : Option Int} (h : Lt z) : Lt (cutS z lo hi) := fun c hc => h c (List.mem_of_mem_drop (List.mem_of_mem_take hc))
theorem Lt.dec {z : Str} (h : (tl z).all (fun c => (tl lettersS).contains c) = true) : Lt z := fun c hc => by
  have := List.all_eq_true.mp h c hc
  simpa using this
end AB

namespace AB
open PySem PySem.Spec PyProof.Rows L2
open TL (tl)
def spFew : Sp := fun vs H Q _ => ∃ (p c : Addr) (n : Nat), vs = [.ref p] ∧ Pen H p c n ∧ n ≤ 900000 ∧
  ∀ H' (z : Str), Keep p H H' → Pen H' p c (n + 4) → 1 ≤ z.length → z.length ≤ 3 → Lt z → Q (.str z) H'
def spWord : Sp := fun vs H Q _ => ∃ (p c : Addr) (n : Nat) (z : Str) (a b : Nat), vs = [.ref p, .str z, .int a, .int b] ∧ Pen H p c n ∧
  0 < z.length ∧ z.length ≤ 1000 ∧ a ≤ b ∧ b ≤ 1000 ∧ n + b + 1 ≤ 900000 ∧
  ∀ H' (y : Str), Keep p H H' → Pen H' p c (n + b + 1) → a ≤ y.length → y.length ≤ b → (∀ d ∈ tl y, d ∈ tl z) → Q (.str y) H'
/-- places(text, word), and the law's own -/
def spPlaces : Sp := fun vs H Q _ => ∃ (t w : Str), vs = [.str t, .str w] ∧ t.length ≤ 100000 ∧ 0 < w.length ∧ w.length ≤ 100000 ∧
  ∀ H' p, Same H H' → H p = none → H' p = some (.lst (nVs (plc (tl t) (tl w)))) → Q (.ref p) H'

def penL (c : Addr) : List (Key × V) := [(.inr "cells", .ref c), (.inr "turn", .int 0), (.inr "left", .int 0)]
theorem pen_merge (c : Addr) : mergeK [] (penL c) = penL c := by
  unfold mergeK penL
  simp [putK, e12, e13, e23]
theorem tl_ne {w : Str} (h : 0 < w.length) : tl w ≠ [] := fun e => by
  have := TL.len_tl w
  rw [e] at this
  simp at this
  omega
/-- in a row of one-sign texts -/
theorem one_len (c : Nat) : (Str.mk #[c]).length = 1 := rfl
theorem ones_sum {z : Str} : ∀ {ys : List Str}, (∀ y ∈ ys, ∃ d ∈ tl z, y = ⟨#[d]⟩) →
    (ys.map (·.length)).sum = ys.length ∧ (Txt.join "" ys).length = ys.length ∧ ∀ d ∈ tl (Txt.join "" ys), d ∈ tl z := by
  intro ys h
  have key : ∀ {ys : List Str}, (∀ y ∈ ys, ∃ d ∈ tl z, y = ⟨#[d]⟩) → (ys.map (·.length)).sum = ys.length ∧ ((ys.map tl).flatten).length = ys.length ∧ ∀ d ∈ (ys.map tl).flatten, d ∈ tl z := by
    intro ys
    induction ys with
    | nil => intro _; exact ⟨rfl, rfl, fun _ h => (nomatch h)⟩
    | cons y r ih =>
      intro h
      obtain ⟨a, b, c⟩ := ih fun x hx => h x (List.mem_cons_of_mem _ hx)
      obtain ⟨d, hd, rfl⟩ := h y List.mem_cons_self
      refine ⟨?_, ?_, ?_⟩
      · rw [List.map_cons, List.sum_cons, a, List.length_cons, one_len]
        omega
      · rw [List.map_cons, List.flatten_cons, List.length_append, b, List.length_cons]
        show 1 + r.length = r.length + 1
        omega
      · intro e he
        rw [List.map_cons, List.flatten_cons] at he
        rcases List.mem_append.mp he with q | q
        · have : e = d := by simpa using q
          subst this
          exact hd
        · exact c e q
  obtain ⟨a, b, c⟩ := key h
  refine ⟨a, ?_, ?_⟩
  · rw [TL.len_tl, tl_join, b]
  · rw [tl_join]
    exact c
def fewL (r : Str) : List Str := ["ab", "ab", "abc", "abc", "a b", "a\n", "\"\\", "x~", "01", r]
theorem fewL_ok {r : Str} (h1 : 1 ≤ r.length) (h2 : r.length ≤ 3) (h3 : Lt r) : ∀ y ∈ fewL r, 1 ≤ y.length ∧ y.length ≤ 3 ∧ Lt y := by
  have key : ∀ y ∈ fewL "ab", 1 ≤ y.length ∧ y.length ≤ 3 ∧ (tl y).all (fun c => (tl lettersS).contains c) = true := by decide +kernel
  intro y hy
  have : y ∈ fewL "ab" ∨ y = r := by
    unfold fewL at hy ⊢
    simp only [List.mem_cons, List.not_mem_nil, or_false] at hy ⊢
    grind
  rcases this with h | rfl
  · obtain ⟨a, b, c⟩ := key y h
    exact ⟨a, b, Lt.dec c⟩
  · exact ⟨h1, h2, h3⟩
theorem at_map_str {ys : List Str} {i : Nat} {v : V} (h : (ys.map V.str)[i]? = some v) : ∃ y ∈ ys, v = .str y := by
  rw [List.getElem?_map] at h
  cases e : ys[i]? with
  | none => rw [e] at h; cases h
  | some y =>
    rw [e] at h
    exact ⟨y, List.mem_of_getElem? e, (Option.some.inj h).symm⟩
theorem flat_strs (ys : List Str) : (ys.map V.str).all flatV = true := by
  rw [List.all_eq_true]
  intro x hx
  obtain ⟨y, _, rfl⟩ := List.mem_map.mp hx
  rfl
theorem signs94 : 0 < (Txt.replace lettersS "q" "").length ∧ (Txt.replace lettersS "q" "").length ≤ 100 ∧
    (tl (Txt.replace lettersS "q" "")).all (fun c => (tl lettersS).contains c) = true := by decide +kernel
end AB

/-! the rules that speak of the written part, with that part named (for the blocks of comprehensions) -/
namespace AB
open PySem PySem.Spec PyProof.Rows L2
section
variable {X : Cx} {K : PySem.W.Frag}
theorem ixK_list (h : X.K = K) : IxR X (rIxL K) := h ▸ ix_list
theorem ixK_tup (h : X.K = K) : IxR X (rIxT K) := h ▸ ix_tup
theorem ixK_seq (h : X.K = K) : IxR X (rIx K) := h ▸ ix_seq
theorem slK_list (h : X.K = K) : SlR X (rSlL K) := h ▸ sl_list
theorem inK_seq (h : X.K = K) : OpR X (compareOp .In) (rIn K false) := h ▸ op_in_seq
theorem notInK_seq (h : X.K = K) : OpR X (compareOp .NotIn) (rIn K true) := h ▸ op_notIn_seq
theorem eqK_D (h : X.K = K) (hu : X.A.units + 64 < cLine) : OpR X (compareOp .Eq) (rEqD K) := h ▸ op_eqD hu
theorem neK_D (h : X.K = K) (hu : X.A.units + 64 < cLine) : OpR X (compareOp .NotEq) (rNeD K) := h ▸ op_neD hu
def rLenK (K : PySem.W.Frag) : List V → Hp → VK → Prop := fun xs H Q => ∃ x n, xs = [x] ∧ LenV K x H n ∧ Q (.int n) H
theorem lenK (h : X.K = K) : CallR X (.builtin "len") (rLenK K) := h ▸ call_len
def rListOf (K : PySem.W.Frag) : List V → Hp → VK → Prop := fun xs H Q => ∃ p ys, xs = [.ref p] ∧ (SqL K H p ys ∨ SqT K H p ys) ∧ ∀ l, H l = none → Q (.ref l) (upd H l (.lst ys))
theorem listK_of (h : X.K = K) : CallR X (.type "list") (rListOf K) := h ▸ call_list_of
theorem reprK {k : Nat} (h : X.K = K) (hr : Room k X.A) (hg : X.A.guards = some []) : CallR X (.builtin "repr") (rRepr K) := h ▸ call_repr hr hg
theorem piK_list {tg l : Expr} {tl : TE} (h : X.K = K) (hl : PE X l tl) : PI X tg l (iList K tl) := h ▸ pi_list hl
theorem piK_tup {tg l : Expr} {tl : TE} (h : X.K = K) (hl : PE X l tl) : PI X tg l (iTup K tl) := h ▸ pi_tup hl
theorem pgK_tup {es : List Expr} {k : Nat} {t : TGs} {n : Nat} {pos : Pos} (hK : X.K = K) (hc : X.calm = true) (h : PGs X es t)
    (hn : (assignEach es X.env).length = n := by rfl) (hst : (assignEach es X.env).findIdx? (·.1) = none := by rfl) :
    PG X (.Tuple es k pos) (gTup K n t) := hK ▸ pg_tup hc h hn hst
def rJoinK (K : PySem.W.Frag) : V → List V → Hp → VK → Prop := fun x xs H Q => ∃ a p, ∃ ys : List Str, x = .str a ∧ xs = [.ref p] ∧
  (SqL K H p (ys.map V.str) ∨ SqT K H p (ys.map V.str)) ∧ (ys.map (·.length)).sum + ys.length * a.length ≤ 16777216 ∧ Q (.str (Txt.join a ys)) H
end
open TL (tl)
theorem cut_isAt {z y : Str} (i : Nat) : decide (V.str (cutS z (some (i : Int)) (some ((i : Int) + (y.length : Int)))) = V.str y) = isAt (tl z) (tl y) i := by
  have e : tl (cutS z (some (i : Int)) (some ((i : Int) + (y.length : Int)))) = ((tl z).drop i).take y.length := by
    have := tl_cutS (z := z) (a := i) (b := i + y.length)
    rw [Nat.add_sub_cancel_left] at this
    rw [← this]
    rfl
  unfold isAt TL.pre
  rw [← TL.len_tl, ← e]
  by_cases h : cutS z (some (i : Int)) (some ((i : Int) + (y.length : Int))) = y
  · rw [decide_eq_true (by rw [h]), h]
    simp
  · rw [decide_eq_false fun q => h (V.str.inj q)]
    symm
    exact beq_eq_false_iff_ne.mpr fun q => h (TL.ext_tl q)
end AB

namespace AB
open PySem PySem.Spec PyProof.Rows L2
open TL (tl)
/-- a law's promise -/
def spLaw (K : PySem.W.Frag) : Sp := fun vs H Q _ => ∃ (a : Addr) (ns : List Int), vs = [.ref a] ∧ SqL K H a (ns.map V.int) ∧ ns.length ≤ 63 ∧ ∀ H', Q (.bl true) H'

/-- two parameters by keywords, in the other order -/
def kb21 {α : Type} : List α → List α → List α := fun us ws => match us, ws with
  | [], [a, b] => [b, a]
  | _, _ => []
theorem kb21_mk {K : PySem.W.Frag} {fd : FuncData} {x y : Str} (h : ∀ a b : Value, bindArgs fd ⟨[], [(y, a), (x, b)]⟩ = pure [(x, b), (y, a)]) :
    KBinds K fd [x, y] [y, x] kb21 kb21 where
  to := by
    intro s us ws _ hl
    match us, ws, hl with
    | [], [a, b], _ => exact .of_eq (h a b)
    | [], [], h => cases h
    | [], [_], h => cases h
    | [], _ :: _ :: _ :: _, h => cases h
    | _ :: _, _, h => cases h
  rel := by
    intro vs us zs ws r1 r2
    cases r1 with
    | cons a b => exact .nil
    | nil =>
      cases r2 with
      | nil => exact .nil
      | cons p q =>
        cases q with
        | nil => exact .nil
        | cons p' q' =>
          cases q' with
          | nil => exact .cons p' (.cons p .nil)
          | cons _ _ => exact .nil

theorem show_plc {t w : Str} (ht : t.length ≤ 1000) : Show (.list (datI (plc (tl t) (tl w)))) 16000000 64 := by
  have hl := TL.len_tl t
  refine show_nats (m := 1001) ?_ (by decide) ?_
  · have := plc_len (tl t) (tl w)
    omega
  · intro k hk
    unfold plc plcN at hk
    have := List.mem_range.mp (List.mem_filter.mp hk).1
    omega
theorem ne_self {A B : Prop} {x : V} (h : B) : if (!decide (x = x)) = true then A else B := by
  rw [decide_eq_true rfl]
  exact h
theorem nef_self {A B : Prop} {l : List Nat} (h : B) : if (!PyData.eqv (.list (datI l)) (.list (datI l))) = true then A else B := by
  rw [eqv_nats]
  exact h
def nonE (ss : List Str) : List Str := ss.filter fun s => decide (0 < s.length)
theorem ne_empty {s : Str} : (!decide (V.str s = V.str "")) = decide (0 < s.length) := by
  by_cases h : 0 < s.length
  · rw [decide_eq_true h, decide_eq_false]
    · rfl
    · intro e
      have := V.str.inj e
      subst this
      exact absurd h (by decide +kernel)
  · rw [decide_eq_false h, decide_eq_true]
    · rfl
    · have e : tl s = tl "" := by
        have := TL.len_tl s
        have h2 : tl s = [] := List.length_eq_zero_iff.mp (by omega)
        rw [h2]
        decide +kernel
      rw [TL.ext_tl e]
end AB

/-! how far two texts are apart: plain mathematics -/
namespace AB
def neq (c d : Nat) : Nat := if c = d then 0 else 1
def lev : List Nat → List Nat → Nat
  | [], y => y.length
  | _ :: x, [] => x.length + 1
  | c :: x, d :: y => min (lev x (d :: y) + 1) (min (lev (c :: x) y + 1) (lev x y + neq c d))
termination_by x y => x.length + y.length
/-- an alignment and what it costs -/
inductive Al : List Nat → List Nat → Nat → Prop
  | nil : Al [] [] 0
  | del {x y n} (c : Nat) : Al x y n → Al (c :: x) y (n + 1)
  | ins {x y n} (d : Nat) : Al x y n → Al x (d :: y) (n + 1)
  | sub {x y n} (c d : Nat) : Al x y n → Al (c :: x) (d :: y) (n + neq c d)
theorem lev_nil (y : List Nat) : lev [] y = y.length := by unfold lev; rfl
theorem lev_nil' (x : List Nat) : lev x [] = x.length := by cases x <;> simp [lev]
theorem lev_cons (c d : Nat) (x y : List Nat) : lev (c :: x) (d :: y) = min (lev x (d :: y) + 1) (min (lev (c :: x) y + 1) (lev x y + neq c d)) := by
  rw [lev]
theorem Al.insAll : ∀ y : List Nat, Al [] y y.length
  | [] => .nil
  | d :: y => .ins d (Al.insAll y)
theorem Al.delAll : ∀ y : List Nat, Al y [] y.length
  | [] => .nil
  | d :: y => .del d (Al.delAll y)
theorem al_lev : ∀ x y : List Nat, Al x y (lev x y)
  | [], y => by rw [lev_nil]; exact .insAll y
  | c :: x, [] => by rw [lev_nil']; exact .delAll _
  | c :: x, d :: y => by
    rw [lev_cons]
    have h1 := al_lev x (d :: y)
    have h2 := al_lev (c :: x) y
    have h3 := al_lev x y
    rcases Nat.le_total (lev x (d :: y) + 1) (min (lev (c :: x) y + 1) (lev x y + neq c d)) with h | h
    · rw [Nat.min_eq_left h]; exact .del c h1
    · rw [Nat.min_eq_right h]
      rcases Nat.le_total (lev (c :: x) y + 1) (lev x y + neq c d) with g | g
      · rw [Nat.min_eq_left g]; exact .ins d h2
      · rw [Nat.min_eq_right g]; exact .sub c d h3
termination_by x y => x.length + y.length
theorem lev_del (c : Nat) (x y : List Nat) : lev (c :: x) y ≤ lev x y + 1 := by
  cases y with
  | nil => rw [lev_nil', lev_nil']; simp
  | cons d y => rw [lev_cons]; omega
theorem lev_ins (d : Nat) (x y : List Nat) : lev x (d :: y) ≤ lev x y + 1 := by
  cases x with
  | nil => rw [lev_nil, lev_nil]; simp
  | cons c x => rw [lev_cons]; omega
theorem lev_sub (c d : Nat) (x y : List Nat) : lev (c :: x) (d :: y) ≤ lev x y + neq c d := by rw [lev_cons]; omega
theorem lev_le {x y : List Nat} {n : Nat} (h : Al x y n) : lev x y ≤ n := by
  induction h with
  | nil => simp [lev]
  | del c _ ih => exact Nat.le_trans (lev_del _ _ _) (by omega)
  | ins d _ ih => exact Nat.le_trans (lev_ins _ _ _) (by omega)
  | sub c d _ ih => exact Nat.le_trans (lev_sub _ _ _ _) (by omega)
theorem Al.app {x y x' y' : List Nat} {n m : Nat} (h : Al x y n) (g : Al x' y' m) : Al (x ++ x') (y ++ y') (n + m) := by
  induction h with
  | nil => simpa using g
  | del c _ ih => rw [Nat.add_right_comm]; exact .del c ih
  | ins c _ ih => rw [Nat.add_right_comm]; exact .ins c ih
  | sub c d _ ih => rw [Nat.add_right_comm]; exact .sub c d ih
theorem Al.rev {x y : List Nat} {n : Nat} (h : Al x y n) : Al x.reverse y.reverse n := by
  induction h with
  | nil => exact .nil
  | del c _ ih => rw [List.reverse_cons]; have := ih.app (.del c .nil); simpa using this
  | ins c _ ih => rw [List.reverse_cons]; have := ih.app (.ins c .nil); simpa using this
  | sub c d _ ih =>
    rw [List.reverse_cons, List.reverse_cons]
    have := ih.app (.sub c d .nil)
    simpa using this
theorem neq_symm (c d : Nat) : neq c d = neq d c := by unfold neq; by_cases h : c = d <;> simp [h, eq_comm]
theorem Al.symm {x y : List Nat} {n : Nat} (h : Al x y n) : Al y x n := by
  induction h with
  | nil => exact .nil
  | del c _ ih => exact .ins c ih
  | ins c _ ih => exact .del c ih
  | sub c d _ ih => rw [neq_symm]; exact .sub d c ih
theorem Al.refl : ∀ x : List Nat, Al x x 0
  | [] => .nil
  | c :: x => by have := Al.sub c c (Al.refl x); simpa [neq] using this
theorem lev_rev (x y : List Nat) : lev x.reverse y.reverse = lev x y := by
  refine Nat.le_antisymm (lev_le (al_lev x y).rev) ?_
  have := lev_le (al_lev x.reverse y.reverse).rev
  simpa using this
theorem lev_symm (x y : List Nat) : lev x y = lev y x := Nat.le_antisymm (lev_le (al_lev y x).symm) (lev_le (al_lev x y).symm)
theorem neq_tri (a b c : Nat) : neq a c ≤ neq a b + neq b c := by
  unfold neq
  by_cases h1 : a = b
  · subst h1; by_cases h2 : a = c <;> simp [h2]
  · simp [h1]; split <;> omega
theorem Al.tri {x y z : List Nat} {n m : Nat} (h : Al x y n) (g : Al y z m) : ∃ k, k ≤ n + m ∧ Al x z k := by
  induction g generalizing x n with
  | nil => exact ⟨n, by omega, h⟩
  | ins d _ ih =>
    obtain ⟨k, hk, a⟩ := ih h
    exact ⟨k + 1, by omega, .ins d a⟩
  | @del y z m c g ih =>
    generalize hy : c :: y = w at h
    induction h with
    | nil => cases hy
    | del e _ ih2 =>
      obtain ⟨k, hk, a⟩ := ih2 hy
      exact ⟨k + 1, by omega, .del e a⟩
    | ins e h' _ =>
      cases hy
      obtain ⟨k, hk, a⟩ := ih h'
      exact ⟨k, by omega, a⟩
    | sub e f h' _ =>
      cases hy
      obtain ⟨k, hk, a⟩ := ih h'
      exact ⟨k + 1, by omega, .del e a⟩
  | @sub y z m c d g ih =>
    generalize hy : c :: y = w at h
    induction h with
    | nil => cases hy
    | del e _ ih2 =>
      obtain ⟨k, hk, a⟩ := ih2 hy
      exact ⟨k + 1, by omega, .del e a⟩
    | ins e h' _ =>
      cases hy
      obtain ⟨k, hk, a⟩ := ih h'
      refine ⟨k + 1, ?_, .ins d a⟩
      omega
    | sub e f h' _ =>
      cases hy
      obtain ⟨k, hk, a⟩ := ih h'
      have := neq_tri e c d
      exact ⟨k + neq e d, by omega, .sub e d a⟩
theorem lev_tri (x y z : List Nat) : lev x z ≤ lev x y + lev y z := by
  obtain ⟨k, hk, a⟩ := (al_lev x y).tri (al_lev y z)
  exact Nat.le_trans (lev_le a) hk
theorem lev_same (x : List Nat) : lev x x = 0 := Nat.le_zero.mp (lev_le (.refl x))
theorem al_zero {x y : List Nat} {n : Nat} (h : Al x y n) (h0 : n = 0) : x = y := by
  induction h with
  | nil => rfl
  | del => omega
  | ins => omega
  | sub c d _ ih =>
    have h1 : neq c d = 0 := by omega
    have h2 : c = d := by
      unfold neq at h1
      by_cases e : c = d
      · exact e
      · simp [e] at h1
    rw [h2, ih (by omega)]
theorem lev_zero (x y : List Nat) : lev x y = 0 ↔ x = y := by
  constructor
  · intro h; exact al_zero (al_lev x y) h
  · rintro rfl; exact lev_same x
theorem lev_cc (c : Nat) (x y : List Nat) : lev (c :: x) (c :: y) = lev x y := by
  refine Nat.le_antisymm ?_ ?_
  · have := lev_sub c c x y
    simpa [neq] using this
  · rw [lev_cons]
    have h1 : lev x y ≤ lev x (c :: y) + 1 := by
      have := lev_tri x (c :: y) y
      have h2 : lev (c :: y) y ≤ 1 := by have := lev_del c y y; rw [lev_same] at this; exact this
      omega
    have h2 : lev x y ≤ lev (c :: x) y + 1 := by
      have := lev_tri x (c :: x) y
      have h3 : lev x (c :: x) ≤ 1 := by have := lev_ins c x x; rw [lev_same] at this; exact this
      omega
    simp [neq]
    omega
theorem lev_front (f x y : List Nat) : lev (f ++ x) (f ++ y) = lev x y := by
  induction f with
  | nil => rfl
  | cons c f ih => rw [List.cons_append, List.cons_append, lev_cc, ih]
theorem lev_back (f x y : List Nat) : lev (x ++ f) (y ++ f) = lev x y := by
  rw [← lev_rev, List.reverse_append, List.reverse_append, lev_front, lev_rev]
theorem al_len {x y : List Nat} {n : Nat} (h : Al x y n) : y.length ≤ x.length + n ∧ x.length ≤ y.length + n := by
  induction h with
  | nil => simp
  | del c _ ih => simp; omega
  | ins c _ ih => simp; omega
  | sub c d _ ih => simp; omega
theorem lev_len (x y : List Nat) : y.length ≤ x.length + lev x y ∧ x.length ≤ y.length + lev x y := al_len (al_lev x y)
theorem lev_more (x z : List Nat) : lev x (x ++ z) = z.length := by
  refine Nat.le_antisymm ?_ ?_
  · have := (Al.refl x).app (Al.insAll z)
    simpa using lev_le this
  · have := (lev_len x (x ++ z)).1
    simp at this
    omega
theorem lev_two (a b c : List Nat) : lev (a ++ b) (b ++ c) ≤ lev a b + lev b c := lev_le ((al_lev a b).app (al_lev b c))
theorem lev_max (x y : List Nat) : lev x y ≤ x.length + y.length := by
  have := (Al.delAll x).app (Al.insAll y)
  simpa using lev_le this

/-! ### by beginnings -/
def dst (x y : List Nat) : Nat := lev x.reverse y.reverse
theorem dst_eq (x y : List Nat) : dst x y = lev x y := lev_rev x y
theorem dst_nil (y : List Nat) : dst [] y = y.length := by unfold dst; simp [lev_nil]
theorem dst_nil' (y : List Nat) : dst y [] = y.length := by unfold dst; simp [lev_nil']
theorem dst_snoc (x y : List Nat) (c d : Nat) : dst (x ++ [c]) (y ++ [d]) = min (dst x (y ++ [d]) + 1) (min (dst (x ++ [c]) y + 1) (dst x y + neq c d)) := by
  unfold dst
  simp only [List.reverse_append, List.reverse_cons, List.reverse_nil, List.nil_append, List.singleton_append, List.cons_append]
  rw [lev_cons]
/-- the row of distances of x from the beginnings of b -/
def rowOf (x b : List Nat) : List Nat := (List.range (b.length + 1)).map fun j => dst x (b.take j)
theorem rowOf_len (x b : List Nat) : (rowOf x b).length = b.length + 1 := by simp [rowOf]
theorem rowOf_get {x b : List Nat} {j : Nat} (h : j ≤ b.length) : (rowOf x b)[j]? = some (dst x (b.take j)) := by
  unfold rowOf
  rw [List.getElem?_map, List.getElem?_range (by omega)]
  rfl
theorem rowOf_zero (b : List Nat) : rowOf [] b = List.range (b.length + 1) := by
  unfold rowOf
  conv => rhs; rw [← List.map_id (List.range (b.length + 1))]
  apply List.map_congr_left
  intro j hj
  rw [dst_nil, List.length_take]
  have := List.mem_range.mp hj
  simp
  omega
theorem rowOf_step {x b : List Nat} {c d j : Nat} (h : b[j]? = some d) :
    dst (x ++ [c]) (b.take (j + 1)) = min (dst x (b.take (j + 1)) + 1) (min (dst (x ++ [c]) (b.take j) + 1) (dst x (b.take j) + neq c d)) := by
  have : b.take (j + 1) = b.take j ++ [d] := by rw [List.take_add_one, h]; rfl
  rw [this, dst_snoc]
theorem rowOf_head (x b : List Nat) : (rowOf x b)[0]? = some x.length := by
  rw [rowOf_get (Nat.zero_le _)]
  simp [dst_nil']
theorem dst_le (x y : List Nat) : dst x y ≤ x.length + y.length := by rw [dst_eq]; exact lev_max x y
end AB

namespace AB
open PySem PySem.Spec PyProof.Rows L2
open TL (tl)
section
variable {X : Cx}
/-! ### min(a, b, c) -/
theorem vals3 {x y z : V} {us : List Value} (r : Vals [x, y, z] us) : ∃ u v w, us = [u, v, w] ∧ RelV x u ∧ RelV y v ∧ RelV z w := by
  cases r with
  | cons a b =>
    obtain ⟨v, w, rfl, h1, h2⟩ := vals2 b
    exact ⟨_, v, w, rfl, a, h1, h2⟩
def rMin3 : List V → Hp → VK → Prop := fun xs H Q => ∃ i j k : Int, xs = [.int i, .int j, .int k] ∧ Q (.int (min i (min j k))) H
theorem call_min3 (hc : X.calm = true) : CallR X (.builtin "min") rMin3 := by
  intro pins s σ H xs us Q I r h
  obtain ⟨i, j, k, rfl, q⟩ := h
  obtain ⟨u, v, w, rfl, ⟨t, rfl⟩, ⟨t', rfl⟩, ⟨t'', rfl⟩⟩ := vals3 r
  refine min_three_ints (I.ok.hd hc) ?_
  intro h' tk kp
  refine ⟨_, H, I.kept kp, ?_, q⟩
  by_cases c1 : j < i
  · rw [if_pos c1]
    by_cases c2 : k < j
    · rw [if_pos c2]
      exact ⟨t'', by congr 1; omega⟩
    · rw [if_neg c2]
      exact ⟨t', by congr 1; omega⟩
  · rw [if_neg c1]
    by_cases c2 : k < i
    · rw [if_pos c2]
      exact ⟨t'', by congr 1; omega⟩
    · rw [if_neg c2]
      exact ⟨t, by congr 1; omega⟩

/-! ### enumerate of a text -/
def Ites (z : Str) : It :=
  ⟨fun i _ => i < z.length, fun i H v H' => ∃ T c, v = .ref T ∧ H T = none ∧ H' = upd H T (.tup [.int (i : Nat), .str ⟨#[c]⟩]) ∧ (tl z)[i]? = some c, fun i _ => i = z.length⟩
theorem cps_tl {z : Str} {i c : Nat} (h : z.cps[i]? = some c) : (tl z)[i]? = some c := by simpa using h
theorem turn_enumS {P : Program} {w : World} {K : PySem.W.Frag} {elts : List Expr} {kk : Nat} {tpos : Pos} (z : Str) (t : Tok) (e it : Addr) :
    Turn P w K (.Tuple elts kk tpos) (Ites z) [e, it] e (fun i h => (∃ old, IsEnum h e it ((i : Nat) : Int) old) ∧ h.IsStrIter it (strIterType z) z t i ∧ e ≠ it) where
  mem := List.mem_cons_self
  obj := by
    rintro i h ⟨⟨old, he⟩, ⟨o, ho, hc, hd⟩, _⟩ b hb
    rcases List.mem_cons.mp hb with rfl | hb
    · exact ⟨_, he, fun v q => nomatch q⟩
    · obtain rfl := List.mem_singleton.mp hb
      exact ⟨o, ho, fun v q => by rw [hd] at q; cases q⟩
  keep := by
    rintro i h h' ⟨⟨old, he⟩, ⟨o, ho, hr⟩, hne⟩ k
    exact ⟨⟨old, k e (by simp) _ he⟩, ⟨o, k it (by simp) _ ho, hr⟩, hne⟩
  item := by
    intro X hP hw hK hc i pins s σ H E I hf st hg
    subst hP hw hK
    obtain ⟨⟨old, he⟩, hit, hne⟩ := st
    have hel : e < s.heap.objs.size := Heap.lt_size he
    have hil : it < s.heap.objs.size := by obtain ⟨_, q, _⟩ := id hit; exact Heap.lt_size q
    refine wpAny_pyNext_enum_itemD (Draws.text (A := X.A.in1) (I.ok.hd hc) it z t) he hit hg hne (by simpa using hne) ?_
    rintro x h' tk ⟨c, u, hcp, rfl⟩ ho hit' hT hsz hk
    refine ⟨_, rfl, wpAny_letOwnedTupleGo_enum (s := { s with heap := h', toks := tk + 1 }) ho ?_⟩
    intro h'' he' sb
    have hT2 := (sb.2 _ (Nat.ne_of_gt hel)).trans hT
    have new : ObjOk X.prog X.w (upd H s.heap.objs.size (.tup [.int (i : Nat), .str ⟨#[c]⟩])) h'' s.heap.objs.size (.tup [.int (i : Nat), .str ⟨#[c]⟩]) :=
      ⟨show 2 ≤ sizeLine by decide, _, .cons ⟨_, rfl⟩ (.cons ⟨_, rfl⟩ .nil), ⟨_, hT2, rfl, _, rfl⟩⟩
    have I1 : Inv X pins σ (upd H s.heap.objs.size (.tup [.int (i : Nat), .str ⟨#[c]⟩])) { s with heap := h'', toks := tk + 1 } := by
      refine I.turnedNew (ch := [e, it]) ?_ hf (Nat.le_refl _) new
      intro b ob hb q
      have n1 : b ≠ e := fun z => hb (by simp [z])
      have n2 : b ≠ it := fun z => hb (by simp [z])
      exact (sb.2 b n1).trans (hk b ob n1 n2 q)
    have e1 : ((i + 1 : Nat) : Int) = (i : Int) + 1 := by omega
    obtain ⟨oi, hoi, hri⟩ := hit'
    refine ⟨.ref s.heap.objs.size, _, I1, rfl, ⟨_, c, rfl, I.hok.fresh (Nat.le_refl _), rfl, cps_tl hcp⟩, ⟨⟨_, by rw [e1]; exact he'⟩, ⟨oi, (sb.2 it (Ne.symm hne)).trans hoi, hri⟩, hne⟩, ?_⟩
    intro b hb
    have hb' : b < s.heap.objs.size := by
      rcases List.mem_cons.mp hb with rfl | hb
      · exact hel
      · obtain rfl := List.mem_singleton.mp hb
        exact hil
    rw [upd_ne (Nat.ne_of_lt hb')]
    exact (hf b hb).1
  done := by
    intro X hP hw hK hc i pins s σ H E I hf st hg
    subst hP hw hK
    obtain ⟨⟨old, he⟩, hit, hne⟩ := st
    obtain ⟨f0, f1, f2, f3, f4, f5⟩ := hf it (by simp)
    have e1 : i = z.cps.size := hg
    subst e1
    refine wpAny_pyNext_enum_endD (Draws.text (A := X.A.in1) (I.ok.hd hc) it z t) he hit ?_
    intro h' eb
    exact ⟨rfl, I.turned (t' := s.toks) (fun b o hb q => eb b o hb q) f0 f1 f3 f4 f5⟩
  self := fun A i s Q E st h => wpAny_pyIter_enum st.1.choose_spec h
def iEnumS (ta : TA) : TI := fun σ H R => ta σ H fun vs H1 => ∃ z, vs = [.str z] ∧ R (Ites z) H1
theorem pi_enumS {e : Expr} {ta : TA} {p pos tpos : Pos} {elts : List Expr} {kk : Nat} (hg : Gl X "enumerate") (hm : X.mg "enumerate" = none) (ha : PA X [e] ta)
    (hs : starEach [e] X.env = [(false, eval e X.env)] := by rfl) :
    PI X (.Tuple elts kk tpos) (.Call (.Name "enumerate" p) [e] [] pos) (iEnumS ta) := by
  constructor
  intro pins s σ H R I h
  refine Call_ (ld_blt I hg hm boot_enumerate (PyProof.Rows.callWith_type1 (thn (ha.run pos pins s σ H _ I h) ?_) hs rfl))
  rintro us s1 ⟨vs, H1, I1, r1, z, rfl, q⟩
  obtain ⟨u, rfl, t, rfl⟩ := vals1 r1
  refine call_enumerate_str fun h' he hit hsz hk => wpAny_pyIter_enum he ?_
  have I2 : Inv X pins σ H1 { s1 with heap := h' } := I1.kept (t' := s1.toks) hk
  refine ⟨s1.heap.objs.size + 1, [s1.heap.objs.size + 1, s1.heap.objs.size], _, _, H1, rfl, I2, turn_enumS z t _ _, ⟨⟨.none, he⟩, hit, Nat.succ_ne_self _⟩, ?_, q⟩
  intro b hb
  have hle : s1.heap.objs.size ≤ b := by
    rcases List.mem_cons.mp hb with rfl | hb
    · exact Nat.le_add_right _ _
    · exact Nat.le_of_eq (List.mem_singleton.mp hb).symm
  exact I1.fpOk hle (I1.hok.fresh hle)
/-- a loop over the signs of a text, with their places -/
theorem for_enumS {z : Str} {g : TG} {tb : TS} {D : Ends} {σ : L2.St} {H : Hp} (Pv : Nat → L2.St → Hp → Prop) (h0 : Pv 0 σ H)
    (hs : ∀ i c σ H T, (tl z)[i]? = some c → Pv i σ H → H T = none → g (.ref T) σ (upd H T (.tup [.int (i : Nat), .str ⟨#[c]⟩])) fun σ2 H2 => tb { D with nx := Pv (i + 1), ct := Pv (i + 1), bk := D.nx } σ2 H2)
    (hd : ∀ σ H, Pv z.length σ H → D.nx σ H) :
    ∃ W : Nat → Nat → L2.St → Hp → Prop, (∃ m, W 0 m σ H) ∧ ∀ i m σ H, W i m σ H →
      ((Ites z).stop i H ∧ D.nx σ H) ∨ ((Ites z).go i H ∧ ∃ N : L2.St → Hp → Prop, (∀ σ' H', N σ' H' → ∃ m', m' < m ∧ W (i + 1) m' σ' H') ∧
        ∀ x H', (Ites z).yld i H x H' → g x σ H' fun σ2 H2 => tb { D with nx := N, ct := N, bk := D.nx } σ2 H2) := by
  refine ⟨fun i m σ H => m = z.length - i ∧ i ≤ z.length ∧ Pv i σ H, ⟨z.length, rfl, Nat.zero_le _, h0⟩, ?_⟩
  rintro i m σ H ⟨rfl, hi, p⟩
  by_cases c : i < z.length
  · refine .inr ⟨c, Pv (i + 1), fun σ' H' p' => ⟨z.length - (i + 1), by omega, rfl, by omega, p'⟩, ?_⟩
    rintro x H' ⟨T, d, rfl, nT, rfl, hd⟩
    exact hs i d σ H T hd p nT
  · have e : i = z.length := by omega
    subst e
    exact .inl ⟨rfl, hd σ H p⟩
/-- a loop over the signs of a text -/
theorem for_str {z : Str} {g : TG} {tb : TS} {D : Ends} {σ : L2.St} {H : Hp} (Pv : Nat → L2.St → Hp → Prop) (h0 : Pv 0 σ H)
    (hs : ∀ i c σ H, (tl z)[i]? = some c → Pv i σ H → g (.str ⟨#[c]⟩) σ H fun σ2 H2 => tb { D with nx := Pv (i + 1), ct := Pv (i + 1), bk := D.nx } σ2 H2)
    (hd : ∀ σ H, Pv z.length σ H → D.nx σ H) :
    ∃ W : Nat → Nat → L2.St → Hp → Prop, (∃ m, W 0 m σ H) ∧ ∀ i m σ H, W i m σ H →
      ((Its z).stop i H ∧ D.nx σ H) ∨ ((Its z).go i H ∧ ∃ N : L2.St → Hp → Prop, (∀ σ' H', N σ' H' → ∃ m', m' < m ∧ W (i + 1) m' σ' H') ∧
        ∀ x H', (Its z).yld i H x H' → g x σ H' fun σ2 H2 => tb { D with nx := N, ct := N, bk := D.nx } σ2 H2) := by
  refine ⟨fun i m σ H => m = z.length - i ∧ i ≤ z.length ∧ Pv i σ H, ⟨z.length, rfl, Nat.zero_le _, h0⟩, ?_⟩
  rintro i m σ H ⟨rfl, hi, p⟩
  by_cases c : i < z.length
  · refine .inr ⟨c, Pv (i + 1), fun σ' H' p' => ⟨z.length - (i + 1), by omega, rfl, by omega, p'⟩, ?_⟩
    rintro x H' ⟨rfl, d, hd, rfl⟩
    exact hs i d σ _ (cps_tl hd) p
  · have e : i = z.length := by omega
    subst e
    exact .inl ⟨Nat.le_refl _, hd σ H p⟩

/-! ### text[::-1] -/
def tRevS (te : TE) : TE := fun σ H Q => te σ H fun x H1 => ∃ z, x = .str z ∧ z.length ≤ sizeLine ∧ Q (.str (sl (tl z).reverse)) H1
theorem rev_list (z : Str) (u : Tok) : Txt.sliceBy z none none (-1, u) = sl (tl z).reverse := by
  apply TL.ext_tl
  rw [show tl (Txt.sliceBy z none none (-1, u)) = _ from step_rev_list z u]
  show _ = (tl z).reverse
  apply List.ext_getElem?
  intro i
  have hl := TL.len_tl z
  rw [List.getElem?_map]
  by_cases h : i < z.length
  · rw [List.getElem?_range h, List.getElem?_reverse (by omega)]
    have : (tl z).length - 1 - i < (tl z).length := by omega
    rw [List.getElem?_eq_getElem this]
    show some (z.cps.getD (z.length - 1 - i) 0) = _
    congr 1
    rw [PySem.StrLaws.getD_of_getElem? (c := (tl z)[(tl z).length - 1 - i])]
    rw [hl, List.getElem?_eq_getElem this]
  · rw [List.getElem?_eq_none (by simpa using h), List.getElem?_eq_none (by rw [List.length_reverse]; omega)]
    rfl
theorem pe_revS {e : Expr} {te : TE} {k : Nat} {p1 p2 p3 pos : Pos} (he : PE X e te) :
    PE X (.Subscript e (.Slice none none (some (.UnaryOp .USub (.Constant (.int 1) k p1) p2)) p3) pos) (tRevS te) := by
  constructor
  intro pins s σ H Q I h
  refine Subscript_ (thn (he.run pins s σ H _ I h) ?_)
  rintro v s1 ⟨x, H1, I1, r1, z, rfl, hz, q⟩
  obtain ⟨t, rfl⟩ := r1
  have hst : PO X (some (.UnaryOp .USub (.Constant (.int 1) k p1) p2)) (tPart (tUn (rU fun i => .int (-i)) (tC (.int 1)))) := po_some (pe_un un_neg pe_int)
  refine wpAny_Slice (thn (po_none.run pins s1 σ H1 (fun o H2 => o = none ∧ H2 = H1) I1 ⟨rfl, rfl⟩) ?_)
  rintro vl s2 ⟨l, H2, I2, pl, rfl, rfl⟩
  refine thn (po_none.run pins s2 σ H2 (fun o H3 => o = none ∧ H3 = H2) I2 ⟨rfl, rfl⟩) ?_
  rintro vu s3 ⟨u, H3, I3, pu, rfl, rfl⟩
  refine thn (hst.run pins s3 σ H3 (fun o H4 => o = some (-1) ∧ H4 = H3) I3 ⟨1, rfl, -1, rfl, rfl, rfl⟩) ?_
  rintro vs s4 ⟨o, H4, I4, ps, rfl, rfl⟩
  obtain ⟨l', rfl, hl'⟩ := IsPart.raw pl
  obtain ⟨u', rfl, hu'⟩ := IsPart.raw pu
  obtain ⟨st', rfl, hst'⟩ := IsPart.raw ps
  have I5 : L2.Inv X pins σ H4 { s4 with heap := s4.heap.push { cls := .type "slice", data := .fields #[partValue l', partValue u', partValue st'] } } := I4.kept (t' := s4.toks) fun b ob q => Heap.get?_push_of_some _ q
  obtain rfl : l' = none := by cases l' with
    | none => rfl
    | some _ => cases hl'
  obtain rfl : u' = none := by cases u' with
    | none => rfl
    | some _ => cases hu'
  obtain ⟨uk, rfl⟩ : ∃ uk, st' = some (-1, uk) := by cases st' with
    | none => cases hst'
    | some p =>
      obtain ⟨a, b⟩ := p
      have : a = -1 := Option.some.inj hst'
      subst this
      exact ⟨b, rfl⟩
  refine tail_any (ops := [.ref s4.heap.objs.size, .str z t]) (typeIs_str _ _ _) (PySem.F.slot_str_getitem.lookup) ?_ (by with_unfolding_all rfl)
  refine wpAny_getItem_str_slice (l := none) (u := none) (st := some (-1, uk)) ⟨_, Heap.get?_push_size _ rfl, rfl, rfl⟩ rfl ?_
  refine post_val_or_str ⟨Nat.le_trans (Txt.sliceBy_le z none none (-1, uk) (show (-1 : Int) ≠ 0 by decide)) hz, fun t' c => ?_⟩
  have e : Txt.sliceBy z none none (-1, uk) = _ := rev_list z uk
  refine ⟨.str (sl (tl z).reverse), H4, I5.tok c, ?_, q⟩
  rw [← e]
  exact ⟨t', rfl⟩
end
end AB

namespace AB
open PySem PySem.Spec PyProof.Rows L2
open TL (tl)
section
variable {X : Cx} {K : PySem.W.Frag}
theorem isiK (h : X.K = K) : CallR X (.builtin "isinstance") (rIsi K) := h ▸ call_isi
theorem tupK_of {a : Expr} {ta : TE} {p pos : Pos} (h : X.K = K) (hg : Gl X "tuple") (hm : X.mg "tuple" = none) (ha : PE X a ta)
    (hs : starEach [a] X.env = (false, eval a X.env) :: starEach [] X.env := by rfl) : PE X (.Call (.Name "tuple" p) [a] [] pos) (tThen ta (kTup K)) := h ▸ pe_tupleOf hg hm ha hs
theorem enumK {e : Expr} {ta : TA} {p pos tpos : Pos} {elts : List Expr} {kk : Nat} (h : X.K = K) (hg : Gl X "enumerate") (hm : X.mg "enumerate" = none) (ha : PA X [e] ta)
    (hs : starEach [e] X.env = [(false, eval e X.env)] := by rfl) :
    PI X (.Tuple elts kk tpos) (.Call (.Name "enumerate" p) [e] [] pos) (iEnum K ta) := h ▸ pi_enum hg hm ha hs
theorem pgK_unl {es : List Expr} {k : Nat} {t : TGs} {n : Nat} {pos : Pos} (hK : X.K = K) (hc : X.calm = true) (h : PGs X es t)
    (hn : (assignEach es X.env).length = n := by rfl) (hst : (assignEach es X.env).findIdx? (·.1) = none := by rfl) :
    PG X (.Tuple es k pos) (gUnl K n t) := hK ▸ pg_unl hc h hn hst
end

/-- a loop over a list with its places -/
theorem for_enum {K : PySem.W.Frag} {a : Addr} {xs : List V} {g : TG} {tb : TS} {D : Ends} {σ : L2.St} {H : Hp} (Pv : Nat → L2.St → Hp → Prop) (h0 : Pv 0 σ H)
    (hl : ∀ i σ H, i ≤ xs.length → Pv i σ H → SqL K H a xs)
    (hs : ∀ i x σ H T, xs[i]? = some x → Pv i σ H → H T = none → g (.ref T) σ (upd H T (.tup [.int (i : Nat), x])) fun σ2 H2 => tb { D with nx := Pv (i + 1), ct := Pv (i + 1), bk := D.nx } σ2 H2)
    (hd : ∀ σ H, Pv xs.length σ H → D.nx σ H) :
    ∃ W : Nat → Nat → L2.St → Hp → Prop, (∃ m, W 0 m σ H) ∧ ∀ i m σ H, W i m σ H →
      ((Ite K a).stop i H ∧ D.nx σ H) ∨ ((Ite K a).go i H ∧ ∃ N : L2.St → Hp → Prop, (∀ σ' H', N σ' H' → ∃ m', m' < m ∧ W (i + 1) m' σ' H') ∧
        ∀ x H', (Ite K a).yld i H x H' → g x σ H' fun σ2 H2 => tb { D with nx := N, ct := N, bk := D.nx } σ2 H2) := by
  refine ⟨fun i m σ H => m = xs.length - i ∧ i ≤ xs.length ∧ Pv i σ H, ⟨xs.length, rfl, Nat.zero_le _, h0⟩, ?_⟩
  rintro i m σ H ⟨rfl, hi, p⟩
  have q := hl i σ H hi p
  by_cases c : i < xs.length
  · refine .inr ⟨⟨xs, xs[i], q, List.getElem?_eq_getElem c⟩, Pv (i + 1), fun σ' H' p' => ⟨xs.length - (i + 1), by omega, rfl, by omega, p'⟩, ?_⟩
    rintro x H' ⟨T, y, rfl, nT, rfl, hy⟩
    exact hs i y σ H T (hy xs q) p nT
  · have e : i = xs.length := by omega
    subst e
    exact .inl ⟨⟨xs, q, Nat.le_refl _⟩, hd σ H p⟩
/-- a comprehension over the signs of a text -/
theorem lc_str {z : Str} {g : TG} {tt : TT} {te : TE} {vs : List Nat} {σ : L2.St} {H1 : Hp} {D : Addr} {Qd : Hp → Prop} (Pv : Nat → Hp → Prop) (h0 : Pv 0 (upd H1 D (.lst [])))
    (hs : ∀ i c H, (tl z)[i]? = some c → Pv i H → g (.str ⟨#[c]⟩) (wipe σ vs) H fun σ2 H2 => wipe σ2 vs = wipe σ vs ∧ tt σ2 H2 fun b H3 =>
      if b = true then te σ2 H3 fun y H4 => ∃ acc, H4 D = some (.lst acc) ∧ acc.length < sizeLine ∧ Pv (i + 1) (upd H4 D (.lst (acc ++ [y]))) else Pv (i + 1) H3)
    (hd : ∀ H, Pv z.length H → Qd H) :
    ∃ W : Nat → Nat → Hp → Prop, (∃ m, W 0 m (upd H1 D (.lst []))) ∧ ∀ i m H, W i m H → ((Its z).stop i H ∧ Qd H) ∨ ((Its z).go i H ∧ ∃ Nx : Hp → Prop,
      (∀ H', Nx H' → ∃ m', m' < m ∧ W (i + 1) m' H') ∧ ∀ x H', (Its z).yld i H x H' → g x (wipe σ vs) H' fun σ2 H2 => wipe σ2 vs = wipe σ vs ∧ tt σ2 H2 fun b H3 =>
      if b = true then te σ2 H3 fun y H4 => ∃ acc, H4 D = some (.lst acc) ∧ acc.length < sizeLine ∧ Nx (upd H4 D (.lst (acc ++ [y]))) else Nx H3) := by
  refine ⟨fun i m H => m = z.length - i ∧ i ≤ z.length ∧ Pv i H, ⟨z.length, rfl, Nat.zero_le _, h0⟩, ?_⟩
  rintro i m H ⟨rfl, hi, p⟩
  by_cases c : i < z.length
  · refine .inr ⟨c, Pv (i + 1), fun H' p' => ⟨z.length - (i + 1), by omega, rfl, by omega, p'⟩, ?_⟩
    rintro x H' ⟨rfl, d, hd, rfl⟩
    exact hs i d _ (cps_tl hd) p
  · have e : i = z.length := by omega
    subst e
    exact .inl ⟨Nat.le_refl _, hd H p⟩

/-! ### kinds -/
def kinds : List String := ["int", "bool", "str", "NoneType", "list", "tuple", "dict"]
theorem kit_int : ∀ t ∈ kinds, kitB t "int" = some (t == "int" || t == "bool") := by decide +kernel
theorem kit_bool : ∀ t ∈ kinds, kitB t "bool" = some (t == "bool") := by decide +kernel
theorem kit_str : ∀ t ∈ kinds, kitB t "str" = some (t == "str") := by decide +kernel
theorem kit_tuple : ∀ t ∈ kinds, kitB t "tuple" = some (t == "tuple") := by decide +kernel
theorem kit_list : ∀ t ∈ kinds, kitB t "list" = some (t == "list") := by decide +kernel

/-! ### changes of a text -/
inductive Ch where
  | set (i c : Nat)
  | drop (i : Nat)
  | put (i c : Nat)
def chV : Ch → List V
  | .set i c => [.str "set", .int i, .str ⟨#[c]⟩]
  | .drop i => [.str "drop", .int i]
  | .put i c => [.str "put", .int i, .str ⟨#[c]⟩]
def okCh (t : List Nat) : Ch → Prop
  | .set i c => (∃ d, t[i]? = some d ∧ d ≠ c) ∧ c ∈ tl lettersS
  | .drop i => i < t.length
  | .put i c => i ≤ t.length ∧ c ∈ tl lettersS
def doCh (t : List Nat) : Ch → List Nat
  | .set i c => t.take i ++ [c] ++ t.drop (i + 1)
  | .drop i => t.take i ++ t.drop (i + 1)
  | .put i c => t.take i ++ [c] ++ t.drop i
/-- the changes, one after the other, all of them right -/
inductive Runs : List Nat → List Ch → List Nat → Prop
  | nil {t} : Runs t [] t
  | cons {t c cs u} : okCh t c → Runs (doCh t c) cs u → Runs t (c :: cs) u
theorem Runs.snoc {t u : List Nat} {cs : List Ch} {c : Ch} (h : Runs t cs u) (o : okCh u c) : Runs t (cs ++ [c]) (doCh u c) := by
  induction h with
  | nil => exact .cons o .nil
  | cons a _ ih => exact .cons a (ih o)
theorem doCh_len (t : List Nat) (c : Ch) : (doCh t c).length ≤ t.length + 1 := by
  cases c <;> simp [doCh] <;> omega

/-- rows of numbers: a list of lists -/
structure Rows (H : Hp) (l : Addr) (rs : List Addr) (xss : List (List Nat)) : Prop where
  top : H l = some (.lst (rs.map V.ref))
  len : rs.length = xss.length
  row : ∀ (i : Nat) r xs, rs[i]? = some r → xss[i]? = some xs → H r = some (.lst (nVs xs))
theorem Rows.same {H H' : Hp} {l : Addr} {rs : List Addr} {xss : List (List Nat)} (h : Rows H l rs xss) (s : Same H H') : Rows H' l rs xss :=
  ⟨s _ _ h.top, h.len, fun i r xs a b => s _ _ (h.row i r xs a b)⟩
theorem Rows.get {H : Hp} {l : Addr} {rs : List Addr} {xss : List (List Nat)} {i : Nat} {xs : List Nat} (h : Rows H l rs xss) (e : xss[i]? = some xs) :
    ∃ r, rs[i]? = some r ∧ (rs.map V.ref)[i]? = some (.ref r) ∧ H r = some (.lst (nVs xs)) := by
  have hi : i < xss.length := (List.getElem?_eq_some_iff.mp e).1
  have hi' : i < rs.length := by rw [h.len]; exact hi
  refine ⟨rs[i], List.getElem?_eq_getElem hi', ?_, h.row i _ _ (List.getElem?_eq_getElem hi') e⟩
  rw [List.getElem?_map, List.getElem?_eq_getElem hi']
  rfl
theorem Rows.snoc {H H' : Hp} {l r : Addr} {rs : List Addr} {xss : List (List Nat)} {xs : List Nat} (h : Rows H l rs xss)
    (h1 : H' l = some (.lst ((rs ++ [r]).map V.ref))) (h2 : H' r = some (.lst (nVs xs))) (h3 : ∀ b o, b ≠ l → H b = some o → H' b = some o) (hne : ∀ q ∈ rs, q ≠ l) : Rows H' l (rs ++ [r]) (xss ++ [xs]) := by
  refine ⟨h1, by simp [h.len], ?_⟩
  intro i q ys hq hy
  by_cases c : i < rs.length
  · rw [List.getElem?_append_left c] at hq
    rw [List.getElem?_append_left (by rw [← h.len]; exact c)] at hy
    exact h3 _ _ (hne q (List.mem_of_getElem? hq)) (h.row i q ys hq hy)
  · have e : i = rs.length := by
      have := (List.getElem?_eq_some_iff.mp hq).1
      simp at this
      omega
    subst e
    rw [List.getElem?_append_right (Nat.le_refl _)] at hq
    rw [h.len, List.getElem?_append_right (Nat.le_refl _)] at hy
    simp at hq hy
    subst hq hy
    exact h2
theorem nVs_get {l : List Nat} {i k : Nat} (h : l[i]? = some k) : (nVs l)[i]? = some (V.int (k : Int)) := by
  unfold nVs
  rw [List.getElem?_map, h]
  rfl
def rowsOf (a b : List Nat) : List (List Nat) := (List.range (a.length + 1)).map fun i => rowOf (a.take i) b
theorem rowsOf_get {a b : List Nat} {i : Nat} (h : i ≤ a.length) : (rowsOf a b)[i]? = some (rowOf (a.take i) b) := by
  unfold rowsOf
  rw [List.getElem?_map, List.getElem?_range (by omega)]
  rfl
theorem rowsOf_len (a b : List Nat) : (rowsOf a b).length = a.length + 1 := by simp [rowsOf]
def rowsTo (a b : List Nat) (n : Nat) : List (List Nat) := (List.range n).map fun i => rowOf (a.take i) b
theorem rowsTo_succ (a b : List Nat) (n : Nat) : rowsTo a b (n + 1) = rowsTo a b n ++ [rowOf (a.take n) b] := by
  unfold rowsTo
  rw [List.range_succ, List.map_append]
  rfl
theorem rowsTo_len (a b : List Nat) (n : Nat) : (rowsTo a b n).length = n := by simp [rowsTo]
theorem rowsTo_get {a b : List Nat} {i n : Nat} (h : i < n) : (rowsTo a b n)[i]? = some (rowOf (a.take i) b) := by
  unfold rowsTo
  rw [List.getElem?_map, List.getElem?_range h]
  rfl
theorem take_snoc {l : List Nat} {i c : Nat} (h : l[i]? = some c) : l.take (i + 1) = l.take i ++ [c] := by
  rw [List.take_add_one, h]
  rfl

/-! ### promises -/
def spNextRow (K : PySem.W.Frag) : Sp := fun vs H Q _ => ∃ (r : Addr) (x : List Nat) (c : Nat) (b : Str), vs = [.ref r, .str ⟨#[c]⟩, .str b] ∧ SqL K H r (nVs (rowOf x (tl b))) ∧ b.length ≤ 100000 ∧
  ∀ H' p, Same H H' → H p = none → H' p = some (.lst (nVs (rowOf (x ++ [c]) (tl b)))) → Q (.ref p) H'
def spDistances : Sp := fun vs H Q _ => ∃ (a b : Str), vs = [.str a, .str b] ∧ a.length ≤ 100000 ∧ b.length ≤ 100000 ∧
  ∀ H' l rs, Same H H' → H l = none → (∀ r ∈ rs, H r = none ∧ r ≠ l) → Rows H' l rs (rowsOf (tl a) (tl b)) → Q (.ref l) H'
def spDistance : Sp := fun vs H Q _ => ∃ (a b : Str), vs = [.str a, .str b] ∧ a.length ≤ 100000 ∧ b.length ≤ 100000 ∧
  ∀ H', Same H H' → Q (.int (dst (tl a) (tl b) : Nat)) H'
def spNtext : Sp := fun vs H Q _ => ∃ (p c : Addr) (n : Nat) (z : Str) (m : Nat), vs = [.ref p, .str z, .int m] ∧ Pen H p c n ∧ n ≤ 800000 ∧ 0 < z.length ∧ z.length ≤ 1000 ∧ m ≤ 1000 ∧
  ∀ H' (y : Str), Keep p H H' → Pen H' p c (n + 40) → y.length ≤ m → (∀ d ∈ tl y, d ∈ tl z) → Q (.str y) H'
end AB

namespace AB
open PySem PySem.Spec PyProof.Rows L2
open TL (tl)
theorem neq_int (c d : Nat) : (if (!decide (V.str ⟨#[c]⟩ = V.str ⟨#[d]⟩)) = true then (1 : Int) else 0) = (neq c d : Nat) := by
  unfold neq
  by_cases h : c = d
  · subst h
    simp
  · have : ¬ (V.str ⟨#[c]⟩ = V.str ⟨#[d]⟩) := fun e => h (by injection e with e1; injection e1 with e2; simpa using e2)
    rw [decide_eq_false this, if_neg h]
    rfl
theorem rg_nVs (n : Nat) : rgV 0 ((n : Int) + 1) = nVs (List.range (n + 1)) := by
  unfold rgV nVs
  have : ((n : Int) + 1 - 0).toNat = n + 1 := by omega
  rw [this]
  apply List.map_congr_left
  intro i _
  rw [Int.zero_add]
theorem atI_end {xs : List V} {v : V} {n : Nat} (h : xs[n]? = some v) (hl : xs.length = n + 1) : atI xs (-1) = some v := by
  have e : xs = xs.take n ++ [v] := by
    have e1 := List.take_of_length_le (i := n + 1) (l := xs) (by omega)
    rw [List.take_add_one, h] at e1
    exact e1.symm
  rw [e]
  exact atI_last _ _
end AB

namespace AB
open PySem PySem.Spec PyProof.Rows L2
open TL (tl)
theorem int_not_bool : ∀ t ∈ kinds, (t == "int" || t == "bool") = true → (!(t == "bool")) = (t == "int") := by decide +kernel
section
variable {K : PySem.W.Frag} {H : Hp} {v : V}
theorem tyx_int' {u : Value} (h : TyX K H v u) (e : u = .type "int") : ∃ i, v = .int i := by
  cases h with
  | base h => cases h <;> first | exact ⟨_, rfl⟩ | (injection e with e1; exact absurd e1 (by decide)) | cases e
  | _ => injection e with e1; exact absurd e1 (by decide)
theorem tyx_int (h : TyX K H v (.type "int")) : ∃ i, v = .int i := tyx_int' h rfl
theorem tyx_str' {u : Value} (h : TyX K H v u) (e : u = .type "str") : ∃ z, v = .str z := by
  cases h with
  | base h => cases h <;> first | exact ⟨_, rfl⟩ | (injection e with e1; exact absurd e1 (by decide)) | cases e
  | _ => injection e with e1; exact absurd e1 (by decide)
theorem tyx_str (h : TyX K H v (.type "str")) : ∃ z, v = .str z := tyx_str' h rfl
theorem tyx_of_int {i : Int} {t : String} (h : TyX K H (.int i) (.type t)) : t = "int" := by
  cases h with
  | base h => cases h; rfl
theorem tyx_of_str {z : Str} {t : String} (h : TyX K H (.str z) (.type t)) : t = "str" := by
  cases h with
  | base h => cases h; rfl
end
def inB (v : V) (a b : Int) : Bool := match v with
  | .int i => decide (a ≤ i) && decide (i ≤ b)
  | _ => false
/-- whether a value is a text -/
def isTx (v : V) : Bool := match v with
  | .str z => (tl z).all fun c => decide (c ∈ tl lettersS)
  | _ => false
theorem all_dec (z : Str) : ((tl z).map fun c => decide (c ∈ tl lettersS)).all id = isTx (.str z) := by
  unfold isTx
  simp [List.all_map]
theorem isTx_lt {z : Str} : isTx (.str z) = true ↔ Lt z := by
  show ((tl z).all fun c => decide (c ∈ tl lettersS)) = true ↔ ∀ c ∈ tl z, c ∈ tl lettersS
  rw [List.all_eq_true]
  constructor
  · exact fun h c hc => of_decide_eq_true (h c hc)
  · exact fun h c hc => decide_eq_true (h c hc)
def spIsInteger (K : PySem.W.Frag) : Sp := fun vs H Q _ => ∃ (v : V) (t : String), vs = [v] ∧ t ∈ kinds ∧ TyX K H v (.type t) ∧ Q (.bl (t == "int")) H
def spIsWithin (K : PySem.W.Frag) : Sp := fun vs H Q _ => ∃ (v : V) (t : String) (a b : Int), vs = [v, .int a, .int b] ∧ t ∈ kinds ∧ TyX K H v (.type t) ∧ Q (.bl (inB v a b)) H
def spIsText (K : PySem.W.Frag) : Sp := fun vs H Q _ => ∃ (v : V) (t : String), vs = [v] ∧ t ∈ kinds ∧ TyX K H v (.type t) ∧ (∀ z, v = .str z → z.length ≤ 1000000) ∧ ∀ H', Same H H' → Q (.bl (isTx v)) H'
theorem kInt : "int" ∈ kinds := by decide
theorem kStr : "str" ∈ kinds := by decide
theorem kTupl : "tuple" ∈ kinds := by decide
theorem tyI {K : PySem.W.Frag} {H : Hp} (i : Int) : TyX K H (.int i) (.type "int") := .base (.int i)
theorem tyS {K : PySem.W.Frag} {H : Hp} (z : Str) : TyX K H (.str z) (.type "str") := .base (.str z)
/-- a tuple that can be read has the type tuple -/
theorem tyT {K : PySem.W.Frag} {H : Hp} {a : Addr} {xs : List V} (h : SqT K H a xs) : TyX K H (.ref a) (.type "tuple") := by
  rcases h with (h | ⟨o, h⟩) | ⟨o, its, n, h, c, _⟩
  · exact .base (.tup h)
  · exact .fTuple h
  · exact .kTuple h c
end AB

namespace AB
open PySem PySem.Spec PyProof.Rows L2
open TL (tl)
theorem tl_sl (l : List Nat) : tl (sl l) = l := by simp [sl, tl]
theorem sl_tl (z : Str) : sl (tl z) = z := sl_toList z
theorem tl_one (c : Nat) : tl ⟨#[c]⟩ = [c] := rfl
theorem tl_cutTo {z : Str} {b : Nat} : tl (cutS z none (some (b : Int))) = (tl z).take b := by
  have e : cutS z none (some (b : Int)) = cutS z (some ((0 : Nat) : Int)) (some (b : Int)) := by
    unfold cutS
    rfl
  rw [e, tl_cutS]
  rfl
theorem tl_cutFrom {z : Str} {a : Nat} : tl (cutS z (some (a : Int)) none) = (tl z).drop a := by
  have e : cutS z (some (a : Int)) none = cutS z (some (a : Int)) (some (z.length : Int)) := by
    unfold cutS
    have e1 : HT.sIx z.length z.length none = HT.sIx z.length z.length (some (z.length : Int)) := by
      rw [HT.sIx_none, HT.sIx_nat]
      omega
    rw [e1]
  rw [e, tl_cutS, TL.len_tl, List.take_of_length_le (by rw [List.length_drop]; omega)]
theorem Same.seqT {K : PySem.W.Frag} {H H' : Hp} {a : Addr} {xs : List V} (s : Same H H') (h : SqT K H a xs) : SqT K H' a xs := by
  rcases h with (h | ⟨o, h⟩) | ⟨o, its, n, h, c, g⟩
  · exact .inl (.inl (s _ _ h))
  · exact .inl (.inr ⟨o, s _ _ h⟩)
  · exact .inr ⟨o, its, n, h, c, g⟩
def Chs (H : Hp) (rs : List Addr) (cs : List Ch) : Prop := rs.length = cs.length ∧ ∀ (i : Nat) r c, rs[i]? = some r → cs[i]? = some c → H r = some (.tup (chV c))
theorem Chs.same {H H' : Hp} {rs : List Addr} {cs : List Ch} (h : Chs H rs cs) (s : Same H H') : Chs H' rs cs := ⟨h.1, fun i r c a b => s _ _ (h.2 i r c a b)⟩
theorem Chs.snoc {H H' : Hp} {rs : List Addr} {cs : List Ch} {l r : Addr} {c : Ch} (h : Chs H rs cs) (hk : ∀ b o, b ≠ l → H b = some o → H' b = some o) (hne : ∀ q ∈ rs, q ≠ l)
    (e : H' r = some (.tup (chV c))) : Chs H' (rs ++ [r]) (cs ++ [c]) := by
  refine ⟨by simp [h.1], ?_⟩
  intro i q d hq hd
  by_cases k : i < rs.length
  · rw [List.getElem?_append_left k] at hq
    rw [List.getElem?_append_left (by rw [← h.1]; exact k)] at hd
    exact hk _ _ (hne q (List.mem_of_getElem? hq)) (h.2 i q d hq hd)
  · have ei : i = rs.length := by
      have := (List.getElem?_eq_some_iff.mp hq).1
      simp at this
      omega
    subst ei
    rw [List.getElem?_append_right (Nat.le_refl _)] at hq
    rw [h.1, List.getElem?_append_right (Nat.le_refl _)] at hd
    simp at hq hd
    subst hq hd
    exact e
theorem e_sd : decide (V.str (Str.ofString "set") = V.str (Str.ofString "drop")) = false := by decide +kernel
theorem e_sp : decide (V.str (Str.ofString "set") = V.str (Str.ofString "put")) = false := by decide +kernel
theorem e_ss : decide (V.str (Str.ofString "set") = V.str (Str.ofString "set")) = true := by decide +kernel
theorem e_dd : decide (V.str (Str.ofString "drop") = V.str (Str.ofString "drop")) = true := by decide +kernel
theorem e_dp : decide (V.str (Str.ofString "drop") = V.str (Str.ofString "put")) = false := by decide +kernel
theorem e_ds : decide (V.str (Str.ofString "drop") = V.str (Str.ofString "set")) = false := by decide +kernel
theorem e_pd : decide (V.str (Str.ofString "put") = V.str (Str.ofString "drop")) = false := by decide +kernel
theorem e_pp : decide (V.str (Str.ofString "put") = V.str (Str.ofString "put")) = true := by decide +kernel
theorem n33 : (!decide (V.int ((3 : Nat) : Int) = V.int 3)) = false := by decide +kernel
theorem q22 : decide (V.int ((2 : Nat) : Int) = V.int 2) = true := by decide +kernel
theorem inB_in {i a b : Int} (h : a ≤ i) (g : i ≤ b) : inB (.int i) a b = true := by
  show (decide (a ≤ i) && decide (i ≤ b)) = true
  rw [decide_eq_true h, decide_eq_true g]
  rfl
theorem ne_sign {c d : Nat} (h : c ≠ d) : (!decide (V.str ⟨#[c]⟩ = V.str ⟨#[d]⟩)) = true := by
  rw [decide_eq_false fun e => h (by injection e with e1; injection e1 with e2; simpa using e2)]
  rfl
theorem eq_sign {c d : Nat} : decide (V.str ⟨#[c]⟩ = V.str ⟨#[d]⟩) = decide (c = d) := by
  by_cases h : c = d
  · subst h
    simp
  · rw [decide_eq_false h, decide_eq_false fun e => h (by injection e with e1; injection e1 with e2; simpa using e2)]
def spIsLetter : Sp := fun vs H Q _ => ∃ c : Nat, vs = [.str ⟨#[c]⟩] ∧ c ∈ tl lettersS ∧ ∀ H', Same H H' → Q (.bl true) H'
def spIsChange (K : PySem.W.Frag) : Sp := fun vs H Q _ => ∃ (t : Str) (a : Addr) (c : Ch), vs = [.str t, .ref a] ∧ SqT K H a (chV c) ∧ okCh (tl t) c ∧ t.length ≤ 1000000 ∧ ∀ H', Same H H' → Q (.bl true) H'
def spDone (K : PySem.W.Frag) : Sp := fun vs H Q _ => ∃ (t : Str) (a : Addr) (c : Ch), vs = [.str t, .ref a] ∧ SqT K H a (chV c) ∧ t.length ≤ 1000000 ∧ Q (.str (sl (doCh (tl t) c))) H
def spChanged : Sp := fun vs H Q _ => ∃ (t : Str) (l : Addr) (rs : List Addr) (cs : List Ch) (u : List Nat), vs = [.str t, .ref l] ∧ H l = some (.lst (rs.map V.ref)) ∧ Chs H rs cs ∧ Runs (tl t) cs u ∧ t.length + cs.length ≤ 1000000 ∧
  ∀ H', Same H H' → Q (.str (sl u)) H'
def spChanges : Sp := fun vs H Q _ => ∃ (a b : Str), vs = [.str a, .str b] ∧ a.length ≤ 100000 ∧ b.length ≤ 100000 ∧ Lt b ∧
  ∀ H' l rs cs, Same H H' → H l = none → H' l = some (.lst (rs.map V.ref)) → Chs H' rs cs → Runs (tl a) cs (tl b) → cs.length = dst (tl a) (tl b) → Q (.ref l) H'

/-! ### the way back through the grid -/
section
variable {a b : List Nat} {i j c d : Nat}
theorem D_step (hc : a[i]? = some c) (hd : b[j]? = some d) : dst (a.take (i + 1)) (b.take (j + 1)) =
    min (dst (a.take i) (b.take (j + 1)) + 1) (min (dst (a.take (i + 1)) (b.take j) + 1) (dst (a.take i) (b.take j) + neq c d)) := by
  rw [take_snoc hc, take_snoc hd]
  exact dst_snoc _ _ _ _
theorem drop_cons (hd : b[j]? = some d) : b.drop j = d :: b.drop (j + 1) := by
  obtain ⟨h, e⟩ := List.getElem?_eq_some_iff.mp hd
  rw [List.drop_eq_getElem_cons h, e]
theorem back_same (hc : a[i]? = some c) (hd : b[j]? = some c) : a.take (i + 1) ++ b.drop (j + 1) = a.take i ++ b.drop j := by
  rw [take_snoc hc, drop_cons hd, List.append_assoc]
  rfl
theorem take_len (hc : a[i]? = some c) : (a.take i).length = i := by
  have := (List.getElem?_eq_some_iff.mp hc).1
  rw [List.length_take]
  omega
theorem back_set (hc : a[i]? = some c) (hd : b[j]? = some d) (ne : c ≠ d) (hl : d ∈ tl lettersS) : okCh (a.take (i + 1) ++ b.drop (j + 1)) (.set i d) ∧ doCh (a.take (i + 1) ++ b.drop (j + 1)) (.set i d) = a.take i ++ b.drop j := by
  have hi := take_len hc
  rw [take_snoc hc, drop_cons hd]
  refine ⟨⟨⟨c, ?_, ne⟩, hl⟩, ?_⟩
  · rw [List.append_assoc, List.getElem?_append_right (by omega), hi]
    simp
  · show List.take i _ ++ [d] ++ List.drop (i + 1) _ = _
    rw [List.append_assoc (a.take i), List.take_append_of_le_length (by omega), List.take_of_length_le (by omega), ← List.append_assoc (a.take i),
      List.drop_append_of_le_length (by simp [hi]), List.drop_of_length_le (by simp [hi])]
    simp
theorem back_drop (hc : a[i]? = some c) : okCh (a.take (i + 1) ++ b.drop j) (.drop i) ∧ doCh (a.take (i + 1) ++ b.drop j) (.drop i) = a.take i ++ b.drop j := by
  have hi := take_len hc
  rw [take_snoc hc]
  refine ⟨?_, ?_⟩
  · show i < _
    simp [hi]
  · show List.take i _ ++ List.drop (i + 1) _ = _
    rw [List.append_assoc (a.take i), List.take_append_of_le_length (by omega), List.take_of_length_le (by omega), ← List.append_assoc (a.take i),
      List.drop_append_of_le_length (by simp [hi]), List.drop_of_length_le (by simp [hi])]
    simp
theorem back_put (hi : i ≤ a.length) (hd : b[j]? = some d) (hl : d ∈ tl lettersS) : okCh (a.take i ++ b.drop (j + 1)) (.put i d) ∧ doCh (a.take i ++ b.drop (j + 1)) (.put i d) = a.take i ++ b.drop j := by
  have hi : (a.take i).length = i := by rw [List.length_take]; omega
  rw [drop_cons hd]
  refine ⟨⟨?_, hl⟩, ?_⟩
  · show i ≤ _
    simp [hi]
  · show List.take i _ ++ [d] ++ List.drop i _ = _
    rw [List.take_append_of_le_length (by omega), List.take_of_length_le (by omega),
      List.drop_append_of_le_length (by omega), List.drop_of_length_le (by omega)]
    simp
theorem D_left (hi : i ≤ a.length) : dst (a.take i) (b.take 0) = i := by
  rw [List.take_zero, dst_nil', List.length_take]
  omega
theorem D_top (hj : j ≤ b.length) : dst (a.take 0) (b.take j) = j := by
  rw [List.take_zero, dst_nil, List.length_take]
  omega
end
theorem Rows.keep {H H' : Hp} {l fo : Addr} {rs : List Addr} {xss : List (List Nat)} (h : Rows H l rs xss) (hl : l ≠ fo) (hr : ∀ r ∈ rs, r ≠ fo) (hk : ∀ b o, b ≠ fo → H b = some o → H' b = some o) : Rows H' l rs xss :=
  ⟨hk _ _ hl h.top, h.len, fun i r xs a b => hk _ _ (hr r (List.mem_of_getElem? a)) (h.row i r xs a b)⟩
theorem Rows.at {K : PySem.W.Frag} {H : Hp} {l : Addr} {rs : List Addr} {a b : List Nat} {x y : Int} {i j : Nat} (h : Rows H l rs (rowsOf a b)) (ex : x = i) (ey : y = j) (hi : i ≤ a.length) (hj : j ≤ b.length) :
    ∃ r xs, atI (rs.map V.ref) x = some (.ref r) ∧ SqL K H r xs ∧ atI xs y = some (.int (dst (a.take i) (b.take j) : Nat)) := by
  subst ex ey
  obtain ⟨r, h1, h2, h3⟩ := h.get (rowsOf_get (a := a) (b := b) hi)
  exact ⟨r, _, atI_nat h2, SqL.of h3, atI_nat (nVs_get (rowOf_get hj))⟩
theorem dec_nat {m n : Nat} : decide (V.int (m : Int) = V.int (n : Int)) = decide (m = n) := by
  by_cases h : m = n
  · subst h
    simp
  · rw [decide_eq_false h, decide_eq_false fun e => h (by injection e with e; omega)]
end AB

namespace AB
open PySem PySem.Spec PyProof.Rows L2
open TL (tl)
/-- rows of numbers: a tuple of tuples -/
structure Tups (H : Hp) (l : Addr) (rs : List Addr) (xss : List (List Nat)) : Prop where
  top : H l = some (.tup (rs.map V.ref))
  len : rs.length = xss.length
  row : ∀ (i : Nat) r xs, rs[i]? = some r → xss[i]? = some xs → H r = some (.tup (nVs xs))
theorem Tups.same {H H' : Hp} {l : Addr} {rs : List Addr} {xss : List (List Nat)} (h : Tups H l rs xss) (s : Same H H') : Tups H' l rs xss :=
  ⟨s _ _ h.top, h.len, fun i r xs a b => s _ _ (h.row i r xs a b)⟩
theorem Tups.get {H : Hp} {l : Addr} {rs : List Addr} {xss : List (List Nat)} {i : Nat} {xs : List Nat} (h : Tups H l rs xss) (e : xss[i]? = some xs) :
    ∃ r, rs[i]? = some r ∧ (rs.map V.ref)[i]? = some (.ref r) ∧ H r = some (.tup (nVs xs)) := by
  have hi : i < xss.length := (List.getElem?_eq_some_iff.mp e).1
  have hi' : i < rs.length := by rw [h.len]; exact hi
  refine ⟨rs[i], List.getElem?_eq_getElem hi', ?_, h.row i _ _ (List.getElem?_eq_getElem hi') e⟩
  rw [List.getElem?_map, List.getElem?_eq_getElem hi']
  rfl
theorem Tups.at {K : PySem.W.Frag} {H : Hp} {l : Addr} {rs : List Addr} {a b : List Nat} {x y : Int} {i j : Nat} (h : Tups H l rs (rowsOf a b)) (ex : x = i) (ey : y = j) (hi : i ≤ a.length) (hj : j ≤ b.length) :
    ∃ r xs, atI (rs.map V.ref) x = some (.ref r) ∧ SqT K H r xs ∧ atI xs y = some (.int (dst (a.take i) (b.take j) : Nat)) := by
  subst ex ey
  obtain ⟨r, h1, h2, h3⟩ := h.get (rowsOf_get (a := a) (b := b) hi)
  exact ⟨r, _, atI_nat h2, SqT.of h3, atI_nat (nVs_get (rowOf_get hj))⟩
def spFarPaper : Sp := fun vs H Q _ => ∃ (a b : Str), vs = [.str a, .str b] ∧ a.length ≤ 100000 ∧ b.length ≤ 100000 ∧
  ∀ H' v t rs, Same H H' → H' v = some (.tup [.str "far", .ref t]) → Tups H' t rs (rowsOf (tl a) (tl b)) → Q (.ref v) H'
def spIsGrid : Sp := fun vs H Q _ => ∃ (t : Addr) (rs : List Addr) (xss : List (List Nat)) (n m : Int), vs = [.ref t, .int n, .int m] ∧ Tups H t rs xss ∧ n = xss.length ∧ (∀ xs ∈ xss, (xs.length : Int) = m) ∧ m ≤ 100001 ∧
  ∀ H', Same H H' → Q (.bl true) H'
def spIsLow : Sp := fun vs H Q _ => ∃ (t : Addr) (rs : List Addr) (a b : List Nat) (i j : Nat) (e : Bool), vs = [.ref t, .int i, .int j, .bl e] ∧ Tups H t rs (rowsOf a b) ∧ i ≤ a.length ∧ j ≤ b.length ∧
  (∀ i' j' c d, i = i' + 1 → j = j' + 1 → a[i']? = some c → b[j']? = some d → e = decide (c = d)) ∧ Q (.bl true) H
def spIsFarPaper : Sp := fun vs H Q _ => ∃ (a b : Str) (v t : Addr) (rs : List Addr), vs = [.str a, .str b, .int (dst (tl a) (tl b) : Nat), .ref v] ∧ a.length ≤ 100000 ∧ b.length ≤ 100000 ∧
  H v = some (.tup [.str "far", .ref t]) ∧ Tups H t rs (rowsOf (tl a) (tl b)) ∧ ∀ H', Same H H' → Q (.bl true) H'
theorem rowsTo_eq (a b : List Nat) : rowsTo a b (a.length + 1) = rowsOf a b := rfl
theorem D_row {a b : List Nat} {i j d : Nat} (hd : b[j]? = some d) : dst (a.take i) (b.take (j + 1)) ≤ dst (a.take i) (b.take j) + 1 := by
  rw [take_snoc hd]
  unfold dst
  rw [List.reverse_append]
  exact lev_ins _ _ _
theorem D_col {a b : List Nat} {i j c : Nat} (hc : a[i]? = some c) : dst (a.take (i + 1)) (b.take j) ≤ dst (a.take i) (b.take j) + 1 := by
  rw [take_snoc hc]
  unfold dst
  rw [List.reverse_append]
  exact lev_del _ _ _
theorem e_ff : (!decide (V.str (Str.ofString "far") = V.str (Str.ofString "far"))) = false := by decide +kernel
theorem all_rep (n : Nat) : (List.replicate n true).all id = true := by
  rw [List.all_replicate]
  simp
def spNlong : Sp := fun vs H Q _ => ∃ (p c : Addr) (n : Nat) (z : Str) (m : Nat), vs = [.ref p, .str z, .int m] ∧ Pen H p c n ∧ n ≤ 700000 ∧ 0 < z.length ∧ z.length ≤ 1000 ∧ m ≤ 1000 ∧
  ∀ H' (y : Str), Keep p H H' → Pen H' p c (n + 400) → y.length ≤ m → (∀ d ∈ tl y, d ∈ tl z) → Q (.str y) H'
theorem some_sum {B : Nat} {ok : Str → Prop} {ys : List Str} (h : ∀ y ∈ ys, y.length ≤ B ∧ ok y) : (ys.map Str.length).sum ≤ B * ys.length := by
  induction ys with
  | nil => simp
  | cons y ys ih =>
    have h1 := (h y (List.mem_cons_self ..)).1
    have h2 := ih fun z hz => h z (List.mem_cons_of_mem _ hz)
    rw [List.map_cons, List.sum_cons, List.length_cons, Nat.mul_succ]
    omega
theorem app_len (x y : Str) : (x ++ y).length = x.length + y.length := by
  rw [TL.len_tl, TL.tl_append, List.length_append, ← TL.len_tl, ← TL.len_tl]
theorem zero_eq (x y : Str) : decide (V.int ((dst (tl x) (tl y) : Nat) : Int) = V.int 0) = decide (V.str x = V.str y) := by
  by_cases h : x = y
  · subst h
    have : dst (tl x) (tl x) = 0 := by rw [dst_eq, lev_same]
    rw [this]
    simp
  · have h2 : dst (tl x) (tl y) ≠ 0 := fun e => h (TL.ext_tl ((lev_zero _ _).mp (by rw [← dst_eq]; exact e)))
    rw [decide_eq_false fun e => h2 (by injection e with e; omega), decide_eq_false fun e => h (by injection e)]
end AB

namespace AB
open PySem PySem.Spec PyProof.Rows L2
open TL (tl)
/-- a comparison that may look at the heap -/
def LtH (prog : Program) (w : World) (A : Around) (G : Heap → Prop) (P : Nat → Value → Prop) (bt : Nat → Nat → Bool) : Prop :=
  ∀ (i j : Nat) (u v : Value) (s : Shared) (Q E : Value → Shared → Prop), G s.heap → P i u → P j v → Q (.bool (bt i j)) s → wpAny (model prog w) A (richCompare .Lt u v) Q E s
section
variable {prog : Program} {w : World} {A : Around} {R : Result → Shared → Prop} {it sp : Addr} {fp wr : List Addr} {n : Nat} {P : Nat → Value → Prop} {St : Nat → Heap → Prop} {G : Heap → Prop} {bt : Nat → Nat → Bool}
theorem min_turns (W : Walks prog w A.in1 it fp wr n P St) (cmp : LtH prog w A.in1 G P bt) (out : sp ∉ fp)
    (kG : ∀ h h' : Heap, G h → (∀ b o, b ∉ wr → b ≠ sp → h.get? b = some o → h'.get? b = some o) → G h') :
    ∀ (left at' : Nat) (s : Shared) (best : Value) (ep : Nat), n - (at' + 1) = left → at' + 1 ≤ n → St (at' + 1) s.heap → G s.heap → P (argBest bt at') best →
      s.heap.get? sp = some ⟨.type "list", none, .seq #[best, best] ep, #[]⟩ →
      (∀ v h' tk, P (argBest bt (n - 1)) v → (∀ b o, b ∉ wr → b ≠ sp → s.heap.get? b = some o → h'.get? b = some o) → R (.ok (.ret v)) { s with heap := h', toks := tk }) →
      codeAny (model prog w) A (.builtin "min.loop" ⟨[.ref it, .none, .ref sp], []⟩) R s := by
  have outw : sp ∉ wr := fun hm => out (W.sub _ hm)
  have nm : (toString "min" ++ toString ".loop" : String) = "min.loop" := by decide
  intro left
  induction left with
  | zero =>
    intro at' s best ep e1 e2 st g hb hs r
    have e3 : at' + 1 = n := by omega
    refine codeAny_builtin PySem.F.entry_min_loop ?_
    rw [Around.under_plainId PySem.F.plain_min_loop _]
    refine wpAny_bind (m := seqItems? (.ref sp)) (wpAny_seqItems hs rfl ?_)
    refine wpAny_bind (m := tryCatch (pyNext (.ref it)) _) (wpAny_tryCatch (W.done s _ _ (e3 ▸ st) fun h1 tk kp => ?_))
    refine wpAny_bind (m := updateSeq sp (fun _ => #[])) (wpAny_updateSeq (kp sp _ outw hs) rfl (wpAny_bind (wpAny_letGo (wpAny_pure ?_))))
    exact r best _ tk (e3 ▸ hb) fun b o nb ns e => (Heap.get?_update_other _ _ (Ne.symm ns)).trans (kp b o nb e)
  | succ left ih =>
    intro at' s best ep e1 e2 st g hb hs r
    have e3 : at' + 1 < n := by omega
    refine codeAny_builtin PySem.F.entry_min_loop ?_
    rw [Around.under_plainId PySem.F.plain_min_loop _]
    refine wpAny_bind (m := seqItems? (.ref sp)) (wpAny_seqItems hs rfl ?_)
    refine wpAny_bind (m := tryCatch (pyNext (.ref it)) _) (wpAny_tryCatch (W.item (at' + 1) s _ _ e3 st fun v h1 tk hv st1 kp => ?_))
    have hs1 := kp sp _ outw hs
    have g1 : G h1 := kG _ _ g fun b o nb _ e => kp b o nb e
    refine wpAny_bind (m := tryCatch (holding [v, v] (richCompare .Lt v best >>= _)) _) (wpAny_tryCatch (wpAny_holding (wpAny_bind (cmp (at' + 1) (argBest bt at') v best _ _ _ g1 hv hb ?_))))
    refine wpAny_bind (wpAny_holding (wpAny_truthy_bool (wpAny_bind (wpAny_letGo (wpAny_pure ?_)))))
    cases eb : bt (at' + 1) (argBest bt at') with
    | true =>
      simp only [if_true]
      refine wpAny_bind (wpAny_updateSeq hs1 rfl (wpAny_bind (wpAny_letGo ?_)))
      rw [nm]
      refine wpAny_pure ⟨plainId_quiet PySem.F.plain_min_loop _, ih (at' + 1) _ v _ (by omega) e3 (W.frame _ _ _ st1 fun b fb o e => ?_) (kG _ _ g1 fun b o _ ns e => ?_) (by simp only [argBest, eb, if_true]; exact hv)
        (Heap.get?_update_self _ hs1 rfl) fun v' h2 tk2 hv2 kp2 => ?_⟩
      · exact (Heap.get?_update_other _ _ (fun z : sp = b => out (z ▸ fb))).trans e
      · exact (Heap.get?_update_other _ _ (Ne.symm ns)).trans e
      · exact r v' h2 tk2 hv2 fun b o nb ns e => kp2 b o nb ns ((Heap.get?_update_other _ _ (Ne.symm ns)).trans (kp b o nb e))
    | false =>
      simp only [Bool.false_eq_true, if_false]
      refine wpAny_bind (wpAny_letGo ?_)
      rw [nm]
      refine wpAny_pure ⟨plainId_quiet PySem.F.plain_min_loop _, ih (at' + 1) _ best ep (by omega) e3 st1 g1 (by simp only [argBest, eb, Bool.false_eq_true, if_false]; exact hb) hs1 fun v' h2 tk2 hv2 kp2 => ?_⟩
      exact r v' h2 tk2 hv2 fun b o nb ns e => kp2 b o nb ns (kp b o nb e)
theorem min_first (W : Walks prog w A.in1 it fp wr n P St) (cmp : LtH prog w A.in1 G P bt) (out : sp ∉ fp)
    (kG : ∀ h h' : Heap, G h → (∀ b o, b ∉ wr → b ≠ sp → h.get? b = some o → h'.get? b = some o) → G h') (n0 : 0 < n) {s : Shared} {ep : Nat} (st : St 0 s.heap) (g : G s.heap)
    (hs : s.heap.get? sp = some ⟨.type "list", none, .seq #[] ep, #[]⟩)
    (r : ∀ v h' tk, P (argBest bt (n - 1)) v → (∀ b o, b ∉ wr → b ≠ sp → s.heap.get? b = some o → h'.get? b = some o) → R (.ok (.ret v)) { s with heap := h', toks := tk }) :
    codeAny (model prog w) A (.builtin "min.loop" ⟨[.ref it, .none, .ref sp], []⟩) R s := by
  have outw : sp ∉ wr := fun hm => out (W.sub _ hm)
  have nm : (toString "min" ++ toString ".loop" : String) = "min.loop" := by decide
  refine codeAny_builtin PySem.F.entry_min_loop ?_
  rw [Around.under_plainId PySem.F.plain_min_loop _]
  refine wpAny_bind (m := seqItems? (.ref sp)) (wpAny_seqItems hs rfl ?_)
  refine wpAny_bind (m := tryCatch (pyNext (.ref it)) _) (wpAny_tryCatch (W.item 0 s _ _ n0 st fun v h1 tk hv st1 kp => ?_))
  have hs1 := kp sp _ outw hs
  have g1 : G h1 := kG _ _ g fun b o nb _ e => kp b o nb e
  refine wpAny_bind (m := updateSeq sp (fun _ => #[v, v])) (wpAny_updateSeq hs1 rfl ?_)
  rw [nm]
  refine wpAny_pure ⟨plainId_quiet PySem.F.plain_min_loop _, min_turns W cmp out kG _ 0 _ v _ rfl n0 (W.frame _ _ _ st1 fun b fb o e => ?_) (kG _ _ g1 fun b o _ ns e => ?_) hv (Heap.get?_update_self _ hs1 rfl) fun v' h2 tk2 hv2 kp2 => ?_⟩
  · exact (Heap.get?_update_other _ _ (fun z : sp = b => out (z ▸ fb))).trans e
  · exact (Heap.get?_update_other _ _ (Ne.symm ns)).trans e
  · exact r v' h2 tk2 hv2 fun b o nb ns e => kp2 b o nb ns ((Heap.get?_update_other _ _ (Ne.symm ns)).trans (kp b o nb e))
end
theorem argBest_least {bt : Nat → Nat → Bool} (tr : ∀ i j k, bt i j = true → bt j k = true → bt i k = true) (ir : ∀ i, bt i i = false) : ∀ k, argBest bt k ≤ k ∧ ∀ j, j ≤ k → bt j (argBest bt k) = false
  | 0 => ⟨Nat.le_refl _, fun j hj => by rw [Nat.le_zero.mp hj]; exact ir 0⟩
  | k + 1 => by
    obtain ⟨h1, h2⟩ := argBest_least tr ir k
    cases e : bt (k + 1) (argBest bt k) with
    | true =>
      simp only [argBest, e, if_true]
      refine ⟨Nat.le_refl _, fun j hj => ?_⟩
      by_cases c : j = k + 1
      · subst c; exact ir _
      · cases e2 : bt j (k + 1) with
        | false => rfl
        | true =>
          have := tr _ _ _ e2 e
          rw [h2 j (by omega)] at this
          cases this
    | false =>
      simp only [argBest, e, Bool.false_eq_true, if_false]
      refine ⟨by omega, fun j hj => ?_⟩
      by_cases c : j = k + 1
      · subst c; exact e
      · exact h2 j (by omega)
theorem lex_irr : ∀ a : List Int, HT.lexLt a a = false
  | [] => rfl
  | x :: xs => by rw [HT.lexLt_cons, if_pos rfl]; exact lex_irr xs
theorem lex_tr : ∀ a b c : List Int, HT.lexLt a b = true → HT.lexLt b c = true → HT.lexLt a c = true
  | a, [], c, h, _ => by cases a <;> simp [HT.lexLt_nil_nil, HT.lexLt_cons_nil] at h
  | a, y :: ys, [], _, g => by simp [HT.lexLt_cons_nil] at g
  | [], y :: ys, z :: zs, _, _ => HT.lexLt_nil_cons _ _
  | x :: xs, y :: ys, z :: zs, h, g => by
    rw [HT.lexLt_cons] at h g ⊢
    by_cases e1 : x = y
    · subst e1
      rw [if_pos rfl] at h
      by_cases e2 : x = z
      · subst e2
        rw [if_pos rfl] at g ⊢
        exact lex_tr xs ys zs h g
      · rw [if_neg e2] at g ⊢
        exact g
    · rw [if_neg e1] at h
      have h := of_decide_eq_true h
      by_cases e2 : y = z
      · subst e2
        rw [if_neg e1]
        exact decide_eq_true h
      · rw [if_neg e2] at g
        have g := of_decide_eq_true g
        rw [if_neg (by omega)]
        exact decide_eq_true (by omega)
section
variable {X : Cx}
/-- min(xs), xs a list of tuples of ints -/
def rMinT (K : PySem.W.Frag) : List V → Hp → VK → Prop := fun vs H Q => ∃ (a : Addr) (rs : List Addr) (nss : List (List Int)), vs = [V.ref a] ∧ SqL K H a (rs.map V.ref) ∧ rs.length = nss.length ∧ 0 < rs.length ∧
  (∀ (i : Nat) r ns, rs[i]? = some r → nss[i]? = some ns → SqT K H r (ns.map V.int)) ∧
  ∀ (i : Nat) r ns, rs[i]? = some r → nss[i]? = some ns → (∀ ms ∈ nss, HT.lexLt ms ns = false) → Q (.ref r) H
theorem vals_of_refs : ∀ {rs : List Addr} {its : List Value}, Vals (rs.map V.ref) its → its = rs.map Value.ref
  | [], _, h => by cases h; rfl
  | r :: rs, _, h => by
    cases h with
    | cons a b =>
      cases a
      rw [vals_of_refs b]
      rfl
theorem cr_minT (hc : X.calm = true) (hu : X.A.units + 64 < cLine) : CallR X (.builtin "min") (rMinT X.K) := by
  intro pins s σ H vs us Q I r h
  obtain ⟨a, rs, nss, rfl, hs, hlen, h0, ht, q⟩ := h
  obtain ⟨its, rv, hl, _⟩ := I.list hs
  rw [Vals.ref1 r]
  obtain rfl := vals_of_refs rv
  have hl := hl.isList
  have lt : a < s.heap.objs.size := by obtain ⟨_, e, _⟩ := hl; exact Heap.lt_size e
  have nm : (toString "min" ++ toString ".loop" : String) = "min.loop" := by decide
  refine call_function_tree PySem.F.kind_min PySem.F.plain_min PySem.F.entry_min (PySem.F.args_min1 _) ?_
  refine wpAny_bind (m := Builtin.Builtins.bindParams "min" ["key", "default"] 0 ⟨[], []⟩) (wpAny_of_eq (show Builtin.Builtins.bindParams "min" ["key", "default"] 0 ⟨[], []⟩ = pure [none, none] from rfl) ?_)
  refine wpAny_bind (wpAny_pure ?_)
  refine wpAny_bind (wpAny_pyIter_list hl ?_)
  refine wpAny_bind (wpAny_newObj_type ?_)
  rw [nm]
  have W := Walks.list (prog := X.prog) (w := X.w) (A := X.A.in1) (I.ok.hd hc) s.heap.objs.size a (Nat.ne_of_lt lt) (rs.map Value.ref).toArray
  have rlt : ∀ b, b ∈ rs → b < s.heap.objs.size := fun b hb => by
    obtain ⟨i, hi⟩ := List.getElem?_of_mem hb
    have hi2 : i < nss.length := by rw [← hlen]; exact (List.getElem?_eq_some_iff.mp hi).1
    obtain ⟨its1, _, ⟨o, e, _⟩, _⟩ := I.tuple (ht i b _ hi (List.getElem?_eq_getElem hi2))
    exact Heap.lt_size e
  have get : ∀ (i : Nat) (u : Value), (rs.map Value.ref).toArray[i]? = some u → ∃ r ns, rs[i]? = some r ∧ nss[i]? = some ns ∧ u = .ref r ∧ r ∈ rs := by
    intro i u h
    rw [List.getElem?_toArray, List.getElem?_map] at h
    cases hr : rs[i]? with
    | none => rw [hr] at h; cases h
    | some r =>
      rw [hr] at h
      have hi2 : i < nss.length := by rw [← hlen]; exact (List.getElem?_eq_some_iff.mp hr).1
      exact ⟨r, _, rfl, List.getElem?_eq_getElem hi2, (Option.some.inj h).symm, List.mem_of_getElem? hr⟩
  have cmp : LtH X.prog X.w X.A.in1 (fun h => ∀ b o, b ∈ rs → s.heap.get? b = some o → h.get? b = some o) (fun i v => (rs.map Value.ref).toArray[i]? = some v)
      (fun i j => HT.lexLt (nss.getD i []) (nss.getD j [])) := by
    intro i j u v s1 Q1 E1 g hu1 hv1 hq
    obtain ⟨r1, ns1, a1, b1, rfl, m1⟩ := get i u hu1
    obtain ⟨r2, ns2, a2, b2, rfl, m2⟩ := get j v hv1
    obtain ⟨i1, v1, ⟨o1, e1, k1⟩, _⟩ := I.tuple (ht i r1 ns1 a1 b1)
    obtain ⟨i2, v2, ⟨o2, e2, k2⟩, _⟩ := I.tuple (ht j r2 ns2 a2 b2)
    have hq : Q1 (.bool (HT.lexLt (nss.getD i []) (nss.getD j []))) s1 := hq
    rw [List.getD_eq_getElem?_getD, List.getD_eq_getElem?_getD, b1, b2] at hq
    have z1 : IntsAre i1.toArray.toList ns1 := intsAre_of v1
    have z2 : IntsAre i2.toArray.toList ns2 := intsAre_of v2
    exact HT.lt_tupInts (l := r1) (b := r2) ⟨o1, g _ _ m1 e1, k1⟩ ⟨o2, g _ _ m2 e2, k2⟩ z1 z2 (by simp only [Around.in1_units]; omega) hq
  have fresh : s.heap.objs.size ∉ rs := fun h => Nat.lt_irrefl _ (rlt _ h)
  have fresh2 : s.heap.objs.size + 1 ∉ rs := fun h => Nat.not_lt.mpr (Nat.le_succ _) (rlt _ h)
  refine wpAny_pure ⟨plainId_quiet PySem.F.plain_min_loop _, min_first W cmp ?_ ?_ (by simpa using h0) ?_ ?_ (Heap.get?_push_size _ rfl) fun v h' tk hv kp => ?_⟩
  · intro hm
    rw [Heap.size_push] at hm
    rcases List.mem_cons.mp hm with h | h
    · exact Nat.succ_ne_self _ h
    · have h := List.mem_singleton.mp h
      exact Nat.not_lt.mpr (Nat.le_succ _) (h ▸ lt)
  · intro h1 h2 g1 k b o mb e
    refine k b o (fun hm => ?_) (fun z => ?_) (g1 b o mb e)
    · obtain rfl := List.mem_singleton.mp hm
      exact fresh mb
    · rw [z, Heap.size_push] at mb
      exact fresh2 mb
  · exact ⟨⟨_, Heap.get?_push_of_some _ (Heap.get?_push_size _ rfl), rfl, rfl⟩, (hl.push _).push _⟩
  · exact fun b o _ e => Heap.get?_push_of_some _ (Heap.get?_push_of_some _ e)
  · obtain ⟨r, ns, a1, b1, rfl, m1⟩ := get _ v hv
    have best := argBest_least (bt := fun i j => HT.lexLt (nss.getD i []) (nss.getD j [])) (fun i j k => lex_tr _ _ _) (fun i => lex_irr _) ((rs.map Value.ref).toArray.size - 1)
    refine ⟨.ref r, H, I.kept fun b o e => ?_, rfl, q _ r ns a1 b1 fun ms hms => ?_⟩
    · refine kp b o (fun hm => ?_) (fun z => ?_) (Heap.get?_push_of_some _ (Heap.get?_push_of_some _ e))
      · obtain rfl := List.mem_singleton.mp hm
        exact Nat.lt_irrefl _ (Heap.lt_size e)
      · have := Heap.lt_size e
        rw [z, Heap.size_push] at this
        exact Nat.not_lt.mpr (Nat.le_succ _) this
    · obtain ⟨j, hj⟩ := List.getElem?_of_mem hms
      have hj2 : j < nss.length := (List.getElem?_eq_some_iff.mp hj).1
      have := best.2 j (by simp; omega)
      rw [List.getD_eq_getElem?_getD, List.getD_eq_getElem?_getD, hj, b1] at this
      exact this
end
end AB

namespace AB
open PySem PySem.Spec PyProof.Rows L2
open TL (tl)
theorem minTK {X : Cx} {K : PySem.W.Frag} (h : X.K = K) (hc : X.calm = true) (hu : X.A.units + 64 < cLine) : CallR X (.builtin "min") (rMinT K) := h ▸ cr_minT hc hu
/-- a window: its distance, its begin, its end -/
abbrev Win := Nat × Nat × Nat
def winAt (t w : List Nat) (a k : Nat) : Win := (dst ((t.drop a).take (k + 1)) w, a, a + 1 + k)
def winsA (t w : List Nat) (a m : Nat) : List Win := (List.range m).map (winAt t w a)
def winsTo (t w : List Nat) (n : Nat) : List Win := (List.range n).flatMap fun a => winsA t w a (t.length - a)
def wins (t w : List Nat) : List Win := winsTo t w t.length
theorem winsTo_succ (t w : List Nat) (n : Nat) : winsTo t w (n + 1) = winsTo t w n ++ winsA t w n (t.length - n) := by
  unfold winsTo
  rw [List.range_succ, List.flatMap_append]
  simp
theorem winsA_succ (t w : List Nat) (a m : Nat) : winsA t w a (m + 1) = winsA t w a m ++ [winAt t w a m] := by
  unfold winsA
  rw [List.range_succ, List.map_append]
  rfl
theorem winsA_len (t w : List Nat) (a m : Nat) : (winsA t w a m).length = m := by simp [winsA]
theorem winsTo_len (t w : List Nat) : ∀ n, (winsTo t w n).length ≤ n * t.length
  | 0 => by simp [winsTo]
  | n + 1 => by
    have := winsTo_len t w n
    rw [winsTo_succ, List.length_append, winsA_len, Nat.succ_mul]
    omega
def wV (x : Win) : List V := [.int (x.1 : Nat), .int (x.2.1 : Nat), .int (x.2.2 : Nat)]
def wI (x : Win) : List Int := [(x.1 : Nat), (x.2.1 : Nat), (x.2.2 : Nat)]
theorem wV_I (x : Win) : wV x = (wI x).map V.int := rfl
def pV (x : Nat × Nat) : List V := [.int (x.1 : Nat), .int (x.2 : Nat)]
/-- a list of tuples -/
structure Tls {α : Type} (g : α → List V) (H : Hp) (l : Addr) (rs : List Addr) (xs : List α) : Prop where
  top : H l = some (.lst (rs.map V.ref))
  len : rs.length = xs.length
  row : ∀ (i : Nat) r x, rs[i]? = some r → xs[i]? = some x → H r = some (.tup (g x))
  ne : ∀ r ∈ rs, r ≠ l
section
variable {α : Type} {g : α → List V} {H H' : Hp} {l : Addr} {rs : List Addr} {xs : List α}
theorem Tls.same (h : Tls g H l rs xs) (s : Same H H') : Tls g H' l rs xs := ⟨s _ _ h.top, h.len, fun i r x a b => s _ _ (h.row i r x a b), h.ne⟩
theorem Tls.app {r : Addr} {x : α} (h : Tls g H l rs xs) (h1 : H' l = some (.lst ((rs ++ [r]).map V.ref))) (h2 : H' r = some (.tup (g x))) (hr : r ≠ l) (h3 : ∀ b o, b ≠ l → H b = some o → H' b = some o) : Tls g H' l (rs ++ [r]) (xs ++ [x]) := by
  refine ⟨h1, by simp [h.len], ?_, ?_⟩
  · intro i q y hq hy
    by_cases c : i < rs.length
    · rw [List.getElem?_append_left c] at hq
      rw [List.getElem?_append_left (by rw [← h.len]; exact c)] at hy
      exact h3 _ _ (h.ne q (List.mem_of_getElem? hq)) (h.row i q y hq hy)
    · have e : i = rs.length := by
        have := (List.getElem?_eq_some_iff.mp hq).1
        simp at this
        omega
      subst e
      rw [List.getElem?_append_right (Nat.le_refl _)] at hq
      rw [h.len, List.getElem?_append_right (Nat.le_refl _)] at hy
      simp at hq hy
      subst hq hy
      exact h2
  · intro q hq
    rcases List.mem_append.mp hq with h' | h'
    · exact h.ne q h'
    · obtain rfl := List.mem_singleton.mp h'
      exact hr
/-- a list that takes in another one -/
theorem Tls.ext {l2 : Addr} {qs : List Addr} {ys : List α} (h : Tls g H l rs xs) (h' : Tls g H l2 qs ys) (hq : ∀ q ∈ qs, q ≠ l) :
    Tls g (upd H l (.lst (rs.map V.ref ++ qs.map V.ref))) l (rs ++ qs) (xs ++ ys) := by
  refine ⟨?_, by simp [h.len, h'.len], ?_, ?_⟩
  · rw [upd_same, List.map_append]
  · intro i q y hq' hy
    by_cases c : i < rs.length
    · rw [List.getElem?_append_left c] at hq'
      rw [List.getElem?_append_left (by rw [← h.len]; exact c)] at hy
      rw [upd_ne (h.ne q (List.mem_of_getElem? hq'))]
      exact h.row i q y hq' hy
    · rw [List.getElem?_append_right (by omega)] at hq'
      rw [List.getElem?_append_right (by rw [← h.len]; omega), ← h.len] at hy
      rw [upd_ne (hq q (List.mem_of_getElem? hq'))]
      exact h'.row _ q y hq' hy
  · intro q hq'
    rcases List.mem_append.mp hq' with z | z
    · exact h.ne q z
    · exact hq q z
end
def dP (x : Nat × Nat) : PyData := .tuple [.int (x.1 : Nat), .int (x.2 : Nat)]
def dW (x : Win) : PyData := .tuple [.int (x.1 : Nat), .int (x.2.1 : Nat), .int (x.2.2 : Nat)]
theorem Tls.dp {α : Type} {g : α → List V} {d : α → List PyData} {K : PySem.W.Frag} {H : Hp} (hg : ∀ x, DpAll K H (g x) (d x)) : ∀ {rs : List Addr} {xs : List α}, rs.length = xs.length →
    (∀ (i : Nat) r x, rs[i]? = some r → xs[i]? = some x → H r = some (.tup (g x))) → DpAll K H (rs.map V.ref) (xs.map fun x => .tuple (d x))
  | [], [], _, _ => .nil
  | r :: rs, x :: xs, hl, h => .cons (.tup (SqT.of (h 0 r x rfl rfl)) (hg x)) (Tls.dp hg (by simpa using hl) fun i q y hq hy => h (i + 1) q y hq hy)
  | [], _ :: _, hl, _ => by simp at hl
  | _ :: _, [], hl, _ => by simp at hl
theorem dpP {K : PySem.W.Frag} {H : Hp} {l : Addr} {rs : List Addr} {xs : List (Nat × Nat)} (h : Tls pV H l rs xs) : Dp K H (.ref l) (.list (xs.map dP)) :=
  .lst (SqL.of h.top) (Tls.dp (d := fun x => [.int (x.1 : Nat), .int (x.2 : Nat)]) (fun x => .cons (.int _) (.cons (.int _) .nil)) h.len h.row)
theorem dpW {K : PySem.W.Frag} {H : Hp} {l : Addr} {rs : List Addr} {xs : List Win} (h : Tls wV H l rs xs) : Dp K H (.ref l) (.list (xs.map dW)) :=
  .lst (SqL.of h.top) (Tls.dp (d := fun x => [.int (x.1 : Nat), .int (x.2.1 : Nat), .int (x.2.2 : Nat)]) (fun x => .cons (.int _) (.cons (.int _) (.cons (.int _) .nil))) h.len h.row)
/-- the nearest windows -/
def nearL (t w : List Nat) (m : Nat) : List (Nat × Nat) := ((wins t w).filter fun x => decide (x.1 = m)).map (·.2)
def leastOf (t w : List Nat) (m : Nat) : Prop := (wins t w = [] ∧ m = w.length) ∨ ((∃ x ∈ wins t w, x.1 = m) ∧ ∀ x ∈ wins t w, m ≤ x.1)
theorem leastOf.uniq {t w : List Nat} {m n : Nat} (h : leastOf t w m) (g : leastOf t w n) : m = n := by
  rcases h with ⟨a, b⟩ | ⟨⟨x, hx, rfl⟩, h2⟩
  · rcases g with ⟨_, d⟩ | ⟨⟨y, hy, _⟩, _⟩
    · rw [b, d]
    · rw [a] at hy; cases hy
  · rcases g with ⟨c, _⟩ | ⟨⟨y, hy, rfl⟩, g2⟩
    · rw [c] at hx; cases hx
    · exact Nat.le_antisymm (h2 y hy) (g2 x hx)
def spNearest : Sp := fun vs H Q _ => ∃ (t u : Str), vs = [.str t, .str u] ∧ t.length ≤ 100 ∧ u.length ≤ 100 ∧
  ∀ H' p l rs m, Same H H' → H p = none → H l = none → p ≠ l → leastOf (tl t) (tl u) m → H' p = some (.tup [.int (m : Nat), .ref l]) → Tls pV H' l rs (nearL (tl t) (tl u) m) → Q (.ref p) H'
theorem lex_head {a b : Int} {as bs : List Int} (h : HT.lexLt (a :: as) (b :: bs) = false) : b ≤ a := by
  rw [HT.lexLt_cons] at h
  by_cases e : a = b
  · omega
  · rw [if_neg e] at h
    have := of_decide_eq_false h
    omega
theorem wins_bound {t w : List Nat} {x : Win} (h : x ∈ wins t w) : x.1 ≤ t.length + w.length ∧ x.2.1 ≤ t.length ∧ x.2.2 ≤ t.length := by
  unfold wins winsTo at h
  obtain ⟨a, ha, h⟩ := List.mem_flatMap.mp h
  obtain ⟨k, hk, rfl⟩ := List.mem_map.mp h
  rw [List.mem_range] at ha hk
  have := dst_le ((t.drop a).take (k + 1)) w
  rw [List.length_take, List.length_drop] at this
  refine ⟨?_, ?_, ?_⟩
  · show dst _ _ ≤ _
    omega
  · show a ≤ _
    omega
  · show a + 1 + k ≤ _
    omega
theorem range_one {p : Nat → Bool} {k0 : Nat} : ∀ n, (∀ k, k < n → (p k = true ↔ k = k0)) → (List.range n).filter p = if k0 < n then [k0] else []
  | 0, _ => by simp
  | n + 1, h => by
    rw [List.range_succ, List.filter_append, range_one n fun k hk => h k (by omega)]
    have hn := h n (by omega)
    by_cases c : n = k0
    · subst c
      simp [hn.mpr rfl]
    · have hp : p n = false := by
        cases e : p n with
        | false => rfl
        | true => exact absurd (hn.mp e) c
      simp only [List.filter_cons, hp, List.filter_nil, Bool.false_eq_true, if_false, List.append_nil]
      by_cases c2 : k0 < n
      · rw [if_pos c2, if_pos (by omega)]
      · rw [if_neg c2, if_neg (by omega)]
theorem isAt_iff {t w : List Nat} {a : Nat} : isAt t w a = true ↔ (t.drop a).take w.length = w := by
  show ((t.drop a).take w.length == w) = true ↔ _
  exact beq_iff_eq
theorem winsA_zero {t w : List Nat} (hw : w ≠ []) (a : Nat) : ((winsA t w a (t.length - a)).filter fun x => decide (x.1 = 0)).map (·.2) = if isAt t w a = true then [(a, a + w.length)] else [] := by
  have w0 : 0 < w.length := List.length_pos_iff.mpr hw
  unfold winsA
  rw [List.filter_map, List.map_map]
  have key : ∀ k, k < t.length - a → (((fun x : Win => decide (x.1 = 0)) ∘ winAt t w a) k = true ↔ (isAt t w a = true ∧ k = w.length - 1)) := by
    intro k hk
    show decide (dst ((t.drop a).take (k + 1)) w = 0) = true ↔ _
    rw [decide_eq_true_iff, dst_eq, lev_zero, isAt_iff]
    constructor
    · intro h
      have hl := congrArg List.length h
      rw [List.length_take, List.length_drop] at hl
      have : k + 1 = w.length := by omega
      exact ⟨by rw [← this]; exact h, by omega⟩
    · rintro ⟨h, rfl⟩
      rw [Nat.sub_add_cancel w0]
      exact h
  by_cases c : isAt t w a = true
  · have hle := isAt_le hw c
    rw [if_pos c, range_one (k0 := w.length - 1) _ fun k hk => by rw [key k hk]; exact ⟨fun h => h.2, fun h => ⟨c, h⟩⟩, if_pos (by omega)]
    show [(a, a + 1 + (w.length - 1))] = _
    rw [show a + 1 + (w.length - 1) = a + w.length by omega]
  · rw [if_neg c, List.filter_eq_nil_iff.mpr fun k hk => by rw [key k (List.mem_range.mp hk)]; exact fun h => c h.1]
    rfl
theorem nearL_zero {t w : List Nat} (hw : w ≠ []) : nearL t w 0 = (plc t w).map fun k => (k, k + w.length) := by
  have step : ∀ n, ((winsTo t w n).filter fun x => decide (x.1 = 0)).map (·.2) = (plcN t w n).map fun k => (k, k + w.length) := by
    intro n
    induction n with
    | zero => rfl
    | succ n ih =>
      rw [winsTo_succ, List.filter_append, List.map_append, ih, winsA_zero hw, plcN_succ, List.map_append]
      by_cases c : isAt t w n = true
      · rw [if_pos c, if_pos c]; rfl
      · rw [if_neg c, if_neg c]; rfl
  unfold nearL wins
  rw [step, plcN_end (a := t.length) (w := w) ?_ hw]
  have : 0 < w.length := List.length_pos_iff.mpr hw
  omega
theorem least_zero {t w : List Nat} {m : Nat} (hw : w ≠ []) (h : leastOf t w m) : m = 0 ↔ plc t w ≠ [] := by
  have w0 : 0 < w.length := List.length_pos_iff.mpr hw
  have e : plc t w ≠ [] ↔ nearL t w 0 ≠ [] := by rw [nearL_zero hw]; simp
  rw [e]
  rcases h with ⟨a, b⟩ | ⟨⟨x, hx, rfl⟩, h2⟩
  · have : nearL t w 0 = [] := by unfold nearL; rw [a]; rfl
    rw [this]
    constructor
    · intro h; omega
    · intro h; exact absurd rfl h
  · constructor
    · intro h z
      unfold nearL at z
      rw [List.map_eq_nil_iff, List.filter_eq_nil_iff] at z
      exact z x hx (decide_eq_true h)
    · intro z
      obtain ⟨y, hy⟩ := List.exists_mem_of_ne_nil _ z
      obtain ⟨v, hv, rfl⟩ := List.mem_map.mp hy
      obtain ⟨hv1, hv2⟩ := List.mem_filter.mp hv
      have := h2 v hv1
      have := of_decide_eq_true hv2
      omega
theorem least_none {t : List Nat} {m : Nat} (h : leastOf t [] m) : m = 0 ↔ t = [] := by
  rcases h with ⟨a, b⟩ | ⟨⟨x, hx, rfl⟩, h2⟩
  · constructor
    · intro _
      match t with
      | [] => rfl
      | c :: t =>
        have : winAt (c :: t) [] 0 0 ∈ wins (c :: t) [] := List.mem_flatMap.mpr ⟨0, by simp, List.mem_map.mpr ⟨0, by simp, rfl⟩⟩
        rw [a] at this
        cases this
    · intro _; exact b
  · unfold wins winsTo at hx
    obtain ⟨a, ha, h⟩ := List.mem_flatMap.mp hx
    obtain ⟨k, hk, rfl⟩ := List.mem_map.mp h
    rw [List.mem_range] at ha hk
    have : (winAt t [] a k).1 = min (k + 1) (t.length - a) := by
      show dst _ [] = _
      rw [dst_nil', List.length_take, List.length_drop]
    rw [this]
    constructor
    · intro h; omega
    · intro h; rw [h] at ha; simp at ha
theorem can_all {k : Nat} : ∀ {ds : List PyData}, (∀ d ∈ ds, d.canLay0 = true ∧ d.depth ≤ k) → PyData.canLayAll0 ds = true ∧ PyData.depthAll ds ≤ k
  | [], _ => ⟨rfl, Nat.zero_le _⟩
  | d :: ds, h => by
    obtain ⟨a, b⟩ := h d List.mem_cons_self
    obtain ⟨c, e⟩ := can_all fun x hx => h x (List.mem_cons_of_mem _ hx)
    refine ⟨?_, Nat.max_le.mpr ⟨b, e⟩⟩
    show (PyData.canLay0 d && PyData.canLayAll0 ds) = true
    rw [a, c]
    rfl
theorem can_list {k : Nat} {ds : List PyData} (h : ∀ d ∈ ds, d.canLay0 = true ∧ d.depth ≤ k) : (PyData.list ds).canLay0 = true ∧ (PyData.list ds).depth ≤ k + 1 := ⟨(can_all h).1, Nat.succ_le_succ (can_all h).2⟩
theorem can_tup {k : Nat} {ds : List PyData} (h : ∀ d ∈ ds, d.canLay0 = true ∧ d.depth ≤ k) : (PyData.tuple ds).canLay0 = true ∧ (PyData.tuple ds).depth ≤ k + 1 := ⟨(can_all h).1, Nat.succ_le_succ (can_all h).2⟩
theorem can_ints (is : List Int) : ∀ d ∈ is.map PyData.int, d.canLay0 = true ∧ d.depth ≤ 0 := fun d hd => by
  obtain ⟨i, _, rfl⟩ := List.mem_map.mp hd
  exact ⟨rfl, Nat.le_refl _⟩
theorem can_P (l : List (Nat × Nat)) : (PyData.list (l.map dP)).canLay0 = true ∧ (PyData.list (l.map dP)).depth ≤ 2 := can_list fun d hd => by
  obtain ⟨x, _, rfl⟩ := List.mem_map.mp hd
  exact can_tup (can_ints [(x.1 : Nat), (x.2 : Nat)])
theorem can_W (l : List Win) : (PyData.list (l.map dW)).canLay0 = true ∧ (PyData.list (l.map dW)).depth ≤ 2 := can_list fun d hd => by
  obtain ⟨x, _, rfl⟩ := List.mem_map.mp hd
  exact can_tup (can_ints (wI x))
theorem shaped_of {d : PyData} {k : Nat} (h : d.canLay0 = true ∧ d.depth ≤ k) (hk : k ≤ 64) : SeqAt.shaped d = true := by
  show (d.canLay0 && decide (d.depth ≤ 64)) = true
  rw [h.1, decide_eq_true (Nat.le_trans h.2 hk)]
  rfl
theorem shapedW (l : List Win) : SeqAt.shaped (.list (l.map dW)) = true := shaped_of (can_W l) (by decide)
theorem shapedP (l : List (Nat × Nat)) : SeqAt.shaped (.list (l.map dP)) = true := shaped_of (can_P l) (by decide)
theorem eqv_nil {l : List PyData} : PyData.eqv (.list l) (.list []) = l.isEmpty := by
  cases l <;> simp [PyData.eqv, PyData.eqvAll]
theorem eqvP (l : List (Nat × Nat)) : PyData.eqv (.list (l.map dP)) (.list (l.map dP)) = true := SeqAt.eqv_refl _ (can_P l).1
def dN (m : Nat) (l : List (Nat × Nat)) : PyData := .tuple [.int (m : Nat), .list (l.map dP)]
theorem showN {m : Nat} {l : List (Nat × Nat)} (hm : m ≤ 1000000) (hl : l.length ≤ 10000) (hx : ∀ x ∈ l, x.1 ≤ 1000000 ∧ x.2 ≤ 1000000) : Show (dN m l) 16000000 64 := by
  have si : ∀ k : Nat, k ≤ 1000000 → Show (.int (k : Int)) 301 0 := fun k h => Show.int (Nat.lt_of_le_of_lt (show _ ≤ 1000000 from h) (by decide))
  have sp : ∀ x ∈ l, Show (dP x) 609 1 := fun x hx' => Show.tup (n := 301) (k := 0) (fun d hd => by
    simp only [List.mem_cons, List.not_mem_nil, or_false] at hd
    rcases hd with rfl | rfl
    · exact si _ (hx x hx').1
    · exact si _ (hx x hx').2) (by show 301 * 2 + 2 * 2 + 3 ≤ 609; decide)
  have sl : Show (.list (l.map dP)) 7000000 2 := Show.list (n := 609) (k := 1) (fun d hd => by
    obtain ⟨x, hx', rfl⟩ := List.mem_map.mp hd
    exact sp x hx') (by rw [List.length_map]; omega)
  refine (Show.tup (n := 7000000) (k := 2) (m := 16000000) (fun d hd => ?_) (by show 7000000 * 2 + 2 * 2 + 3 ≤ 16000000; decide)).mono (Nat.le_refl _) (by decide)
  simp only [List.mem_cons, List.not_mem_nil, or_false] at hd
  rcases hd with rfl | rfl
  · exact (si m hm).mono (by decide) (by decide)
  · exact sl
theorem nearL_len (t w : List Nat) (m : Nat) : (nearL t w m).length ≤ t.length * t.length := by
  unfold nearL
  rw [List.length_map]
  exact Nat.le_trans (List.length_filter_le _ _) (winsTo_len t w t.length)
theorem nearL_bound {t w : List Nat} {m : Nat} {x : Nat × Nat} (h : x ∈ nearL t w m) : x.1 ≤ t.length ∧ x.2 ≤ t.length := by
  obtain ⟨y, hy, rfl⟩ := List.mem_map.mp h
  exact (wins_bound (List.mem_filter.mp hy).1).2
theorem leastOf.bound {t w : List Nat} {m : Nat} (h : leastOf t w m) : m ≤ t.length + w.length := by
  rcases h with ⟨_, rfl⟩ | ⟨⟨x, hx, rfl⟩, _⟩
  · omega
  · exact (wins_bound hx).1
theorem dpN {K : PySem.W.Frag} {H : Hp} {p l : Addr} {rs : List Addr} {m : Nat} {xs : List (Nat × Nat)} (h : H p = some (.tup [.int (m : Nat), .ref l])) (h2 : Tls pV H l rs xs) : Dp K H (.ref p) (dN m xs) :=
  .tup (SqT.of h) (.cons (.int _) (.cons (dpP h2) .nil))
end AB

namespace AB
open PySem PySem.Spec PyProof.Rows L2
open TL (tl)
theorem Tls.keep {α : Type} {g : α → List V} {H H' : Hp} {l x : Addr} {rs : List Addr} {xs : List α} (h : Tls g H l rs xs) (hl : l ≠ x) (hr : ∀ r ∈ rs, r ≠ x) (hk : ∀ b o, b ≠ x → H b = some o → H' b = some o) : Tls g H' l rs xs :=
  ⟨hk _ _ hl h.top, h.len, fun i r y a b => hk _ _ (hr r (List.mem_of_getElem? a)) (h.row i r y a b), h.ne⟩
theorem Tls.off {α : Type} {g : α → List V} {H : Hp} {l x : Addr} {rs : List Addr} {xs : List α} (h : Tls g H l rs xs) (n : H x = none) : l ≠ x ∧ ∀ r ∈ rs, r ≠ x := by
  refine ⟨ne_of_none h.top n, fun r hr => ?_⟩
  obtain ⟨i, hi⟩ := List.getElem?_of_mem hr
  have hi2 : i < xs.length := by rw [← h.len]; exact (List.getElem?_eq_some_iff.mp hi).1
  exact ne_of_none (h.row i r _ hi (List.getElem?_eq_getElem hi2)) n
def fewNs (t w : List Nat) : List Int := ((wins t w).map fun x => ((x.1 : Nat) : Int)) ++ if (wins t w).isEmpty = true then [((w.length : Nat) : Int)] else []
theorem few_pos (t w : List Nat) : 0 < (fewNs t w).length := by
  unfold fewNs
  cases wins t w <;> simp
theorem few_least {t w : List Nat} {m : Int} (h : m ∈ fewNs t w) (hm : ∀ y ∈ fewNs t w, m ≤ y) : ∃ n : Nat, m = n ∧ leastOf t w n := by
  unfold fewNs at h hm
  cases hw : wins t w with
  | nil =>
    rw [hw] at h
    simp at h
    exact ⟨w.length, h, .inl ⟨hw, rfl⟩⟩
  | cons x0 xs0 =>
    have e : (wins t w).isEmpty = false := by rw [hw]; rfl
    rw [e] at h hm
    simp only [Bool.false_eq_true, if_false, List.append_nil] at h hm
    obtain ⟨x, hx, rfl⟩ := List.mem_map.mp h
    refine ⟨x.1, rfl, .inr ⟨⟨x, hx, rfl⟩, fun y hy => ?_⟩⟩
    have := hm _ (List.mem_map.mpr ⟨y, hy, rfl⟩)
    omega
theorem few_vals (t w : List Nat) (n : Nat) (hn : n = w.length) : nVs ((wins t w).map (·.1)) ++ (List.replicate (if PyData.eqv (.list ((wins t w).map dW)) (.list []) = true then (1 : Int) else 0).toNat [V.int ((n : Nat) : Int)]).flatten = (fewNs t w).map V.int := by
  subst hn
  rw [eqv_nil]
  unfold fewNs nVs
  cases wins t w with
  | nil => simp
  | cons x xs => simp
def spotsOf (t w : List Nat) : List (Nat × Nat) := if w = [] then [] else (plc t w).map fun k => (k, k + w.length)
theorem spots_none (t : List Nat) : spotsOf t [] = [] := rfl
theorem spots_some {t w : List Nat} (h : w ≠ []) : spotsOf t w = (plc t w).map fun k => (k, k + w.length) := if_neg h
theorem spots_zero {t w : List Nat} {m : Nat} (h : leastOf t w m) : (m = 0 ↔ (spotsOf t w ≠ [] ∨ t ++ w = [])) ∧ (m = 0 → nearL t w m = spotsOf t w) := by
  by_cases hw : w = []
  · subst hw
    have hz := least_none h
    rw [spots_none, List.append_nil]
    refine ⟨?_, fun e => ?_⟩
    · rw [hz]
      simp
    · have ht := hz.mp e
      subst ht
      rfl
  · have hz := least_zero hw h
    rw [spots_some hw]
    refine ⟨?_, fun e => ?_⟩
    · rw [hz]
      simp [hw]
    · rw [e, nearL_zero hw]
theorem cut_win {t : Str} (x k : Nat) : tl (cutS t (some (0 + (x : Int))) (some (0 + (x : Int) + 1 + (k : Int)))) = ((tl t).drop x).take (k + 1) := by
  have e1 : (0 + (x : Int)) = ((x : Nat) : Int) := by omega
  have e2 : (0 + (x : Int) + 1 + (k : Int)) = ((x + 1 + k : Nat) : Int) := by omega
  rw [e2, e1, tl_cutS, show x + 1 + k - x = k + 1 by omega]
theorem not_empty_eqv {l : List (Nat × Nat)} : (!PyData.eqv (.list (l.map dP)) (.list [])) = !l.isEmpty := by
  rw [eqv_nil]
  cases l <;> rfl
end AB

namespace AB
open PySem PySem.Spec PyProof.Rows L2
open TL (tl)
/-- whether the window stands once -/
def once (t : List Nat) (a b : Nat) : Bool := decide ((plc t ((t.drop a).take (b - a))).length = 1)
def endC (t : List Nat) (a b : Nat) (f : List Nat) : Bool := decide (0 < f.length) && (decide (1 < b - a) && (decide (t[b - 1]? = f.getLast?) && once t a (b - 1)))
def begC (t : List Nat) (a b : Nat) (f : List Nat) : Bool := decide (0 < f.length) && (decide (1 < b - a) && (decide (t[a]? = f.head?) && once t (a + 1) b))
def endT (t : List Nat) (a : Nat) : Nat → Nat → List Nat → Nat × List Nat
  | 0, b, f => (b, f)
  | n + 1, b, f => if endC t a b f = true then endT t a n (b - 1) f.dropLast else (b, f)
def begT (t : List Nat) (b : Nat) : Nat → Nat → List Nat → Nat × List Nat
  | 0, a, f => (a, f)
  | n + 1, a, f => if begC t a b f = true then begT t b n (a + 1) f.tail else (a, f)
/-- a window and its new text -/
abbrev Ex := Nat × Nat × List Nat
def exV (x : Ex) : List V := [.int (x.1 : Nat), .int (x.2.1 : Nat), .str (sl x.2.2)]
def thinE (t : List Nat) (x : Ex) : Nat × List Nat := endT t x.1 x.2.2.length x.2.1 x.2.2
def thinF (t : List Nat) (x : Ex) : Ex := ((begT t (thinE t x).1 (thinE t x).2.length x.1 (thinE t x).2).1, (thinE t x).1, (begT t (thinE t x).1 (thinE t x).2.length x.1 (thinE t x).2).2)
theorem endT_stop {t : List Nat} {a n b : Nat} {f : List Nat} (h : endC t a b f = false) : endT t a n b f = (b, f) := by
  cases n with
  | zero => rfl
  | succ n => unfold endT; rw [h]; rfl
theorem endT_go {t : List Nat} {a b : Nat} {f : List Nat} (h : endC t a b f = true) : endT t a f.length b f = endT t a f.dropLast.length (b - 1) f.dropLast := by
  match f, h with
  | [], h => simp [endC] at h
  | c :: f, h =>
    show endT t a (f.length + 1) b (c :: f) = _
    have e : (c :: f).dropLast.length = f.length := by simp
    rw [e]
    show (if endC t a b (c :: f) = true then _ else _) = _
    rw [if_pos h]
theorem begT_stop {t : List Nat} {a n b : Nat} {f : List Nat} (h : begC t a b f = false) : begT t b n a f = (a, f) := by
  cases n with
  | zero => rfl
  | succ n => unfold begT; rw [h]; rfl
theorem begT_go {t : List Nat} {a b : Nat} {f : List Nat} (h : begC t a b f = true) : begT t b f.length a f = begT t b f.tail.length (a + 1) f.tail := by
  match f, h with
  | [], h => simp [begC] at h
  | c :: f, h =>
    show begT t b (f.length + 1) a (c :: f) = begT t b f.length (a + 1) f
    show (if begC t a b (c :: f) = true then _ else _) = _
    rw [if_pos h]
    rfl
def spOnce : Sp := fun vs H Q _ => ∃ (t : Str) (a b : Nat) (x y : Int), vs = [.str t, .int x, .int y] ∧ x = a ∧ y = b ∧ t.length ≤ 1000 ∧ a < b ∧ b ≤ t.length ∧ ∀ H', Same H H' → Q (.bl (once (tl t) a b)) H'
def spThin : Sp := fun vs H Q _ => ∃ (t f : Str) (a b : Nat), vs = [.str t, .int (a : Nat), .int (b : Nat), .str f] ∧ t.length ≤ 1000 ∧ f.length ≤ 1000 ∧ a < b ∧ b ≤ t.length ∧
  ∀ H' p, Same H H' → H p = none → H' p = some (.tup (exV (thinF (tl t) (a, b, tl f)))) → Q (.ref p) H'
theorem tl_cutInit {z : Str} : tl (cutS z none (some (-1))) = (tl z).dropLast := by
  have hl := TL.len_tl z
  show ((z.cps.toList.drop (HT.sIx z.length 0 none)).take (HT.sIx z.length z.length (some (-1)) - HT.sIx z.length 0 none)) = _
  have e : HT.sIx z.length z.length (some (-1)) = z.length - 1 := by
    show (if (-1 : Int) < 0 then ((-1 : Int) + (z.length : Int)).toNat else min (-1 : Int).toNat z.length) = _
    rw [if_pos (by decide)]
    omega
  rw [e, HT.sIx_none, List.drop_zero, Nat.sub_zero, List.dropLast_eq_take, ← hl]
theorem tl_cutTail {z : Str} : tl (cutS z (some 1) none) = (tl z).tail := by
  have := tl_cutFrom (z := z) (a := 1)
  rw [List.drop_one] at this
  exact this
theorem atI_lastN {xs : List Nat} {n c : Nat} (h : xs[n]? = some c) (hl : xs.length = n + 1) : atI xs (-1) = some c := by
  have e : xs = xs.take n ++ [c] := by
    have e1 := List.take_of_length_le (i := n + 1) (l := xs) (by omega)
    rw [List.take_add_one, h] at e1
    exact e1.symm
  rw [e]
  exact atI_last _ _
end AB

namespace AB
open PySem PySem.Spec PyProof.Rows L2
open TL (tl)
/-- a tuple of tuples -/
structure Tts {α : Type} (g : α → List V) (H : Hp) (l : Addr) (rs : List Addr) (xs : List α) : Prop where
  top : H l = some (.tup (rs.map V.ref))
  len : rs.length = xs.length
  row : ∀ (i : Nat) r x, rs[i]? = some r → xs[i]? = some x → H r = some (.tup (g x))
theorem Tts.same {α : Type} {g : α → List V} {H H' : Hp} {l : Addr} {rs : List Addr} {xs : List α} (h : Tts g H l rs xs) (s : Same H H') : Tts g H' l rs xs := ⟨s _ _ h.top, h.len, fun i r x a b => s _ _ (h.row i r x a b)⟩
/-- the tuple of a list of tuples -/
theorem Tls.tup {α : Type} {g : α → List V} {H : Hp} {l p : Addr} {rs : List Addr} {xs : List α} (h : Tls g H l rs xs) (np : H p = none) : Tts g (upd H p (.tup (rs.map V.ref))) p rs xs :=
  ⟨upd_same, h.len, fun i r x a b => same_new np _ _ (h.row i r x a b)⟩
def cutN (t : List Nat) (a b : Nat) : List Nat := (t.drop a).take (b - a)
def thinL (t : List Nat) (xs : List Ex) : List Ex := (xs.filter fun x => !decide (cutN t x.1 x.2.1 = x.2.2)).map (thinF t)
def putF (t : List Nat) : Nat → List Ex → List Nat
  | k, [] => t.drop k
  | k, x :: xs => cutN t k x.1 ++ x.2.2 ++ putF t x.2.1 xs
def ExOk (n : Nat) (x : Ex) : Prop := x.1 < x.2.1 ∧ x.2.1 ≤ n ∧ x.2.2.length ≤ 100
def spThinned : Sp := fun vs H Q _ => ∃ (t : Str) (e : Addr) (rs : List Addr) (xs : List Ex), vs = [.str t, .ref e] ∧ Tts exV H e rs xs ∧ t.length ≤ 100 ∧ xs.length ≤ 100 ∧ (∀ x ∈ xs, ExOk t.length x) ∧
  ∀ H' p qs, Same H H' → H p = none → Tts exV H' p qs (thinL (tl t) xs) → Q (.ref p) H'
def spPut : Sp := fun vs H Q _ => ∃ (t : Str) (e : Addr) (rs : List Addr) (xs : List Ex), vs = [.str t, .ref e] ∧ Tts exV H e rs xs ∧ t.length ≤ 100 ∧ xs.length ≤ 100 ∧ (∀ x ∈ xs, ExOk t.length x) ∧
  ∀ H', Same H H' → Q (.str (sl (putF (tl t) 0 xs))) H'
def costF (xs : List Ex) : Int := (xs.map fun x => ((x.2.1 : Nat) : Int) - (x.1 : Nat) + (x.2.2.length : Nat) + 0).sum
def spCost : Sp := fun vs H Q _ => ∃ (e : Addr) (rs : List Addr) (xs : List Ex), vs = [.ref e, .int 0] ∧ Tts exV H e rs xs ∧ xs.length ≤ 100 ∧ (∀ x ∈ xs, x.2.2.length ≤ 1000 ∧ x.1 ≤ 1000 ∧ x.2.1 ≤ 1000) ∧ ∀ H', Same H H' → Q (.int (costF xs)) H'
theorem ne_cut {t f : Str} {a b : Nat} : (!decide (V.str (cutS t (some (a : Int)) (some (b : Int))) = V.str f)) = !decide (cutN (tl t) a b = tl f) := by
  have e := tl_cutS (z := t) (a := a) (b := b)
  by_cases h : cutS t (some (a : Int)) (some (b : Int)) = f
  · rw [decide_eq_true (by rw [h]), decide_eq_true (by unfold cutN; rw [← e, h])]
  · rw [decide_eq_false (fun q => h (V.str.inj q)), decide_eq_false (fun q => h (TL.ext_tl (by rw [e]; exact q)))]
end AB

namespace AB
open PySem PySem.Spec PyProof.Rows L2
open TL (tl)
/-- three numbers, and a text behind them -/
structure Tri where
  a : Int
  b : Int
  c : Int
def Tri.toL (x : Tri) : List Int := [x.a, x.b, x.c]
abbrev En := Tri × Str
def enV (x : En) : List V := [.int x.1.a, .int x.1.b, .int x.1.c, .str x.2]
def dflt : En := (⟨0, 0, 0⟩, "")
theorem vals4 {x : En} {its : List Value} (h : Vals (enV x) its) : ∃ t1 t2 t3 t4, its = [.int x.1.a t1, .int x.1.b t2, .int x.1.c t3, .str x.2 t4] := by
  cases h with
  | cons h1 h =>
    cases h with
    | cons h2 h =>
      cases h with
      | cons h3 h =>
        cases h with
        | cons h4 h =>
          cases h
          obtain ⟨t1, rfl⟩ := h1
          obtain ⟨t2, rfl⟩ := h2
          obtain ⟨t3, rfl⟩ := h3
          obtain ⟨t4, rfl⟩ := h4
          exact ⟨t1, t2, t3, t4, rfl⟩
section
variable {prog : Program} {w : World} {A : Around} {E : Value → Shared → Prop} {s : Shared}
/-- such tuples are compared by their numbers, if equal numbers mean equal tuples -/
theorem ltE {l b : Addr} {i1 i2 : List Value} {x y : En} {Q : Value → Shared → Prop} (hl : IsTup s.heap l i1.toArray) (hb : IsTup s.heap b i2.toArray) (v1 : Vals (enV x) i1) (v2 : Vals (enV y) i2)
    (huq : y.1 = x.1 → x = y) (hu : A.units < cLine) (h : Q (.bool (HT.lexLt x.1.toL y.1.toL)) s) : wpAny (model prog w) A (richCompare .Lt (.ref l) (.ref b)) Q E s := by
  obtain ⟨t1, t2, t3, t4, rfl⟩ := vals4 v1
  obtain ⟨u1, u2, u3, u4, rfl⟩ := vals4 v2
  obtain ⟨⟨cls, dd, data, sl⟩, ho, hc, n, hd⟩ := id hl
  obtain ⟨⟨cls2, dd2, data2, sl2⟩, ho2, hc2, n2, hd2⟩ := id hb
  simp only at hc hd hc2 hd2
  subst hc hd hc2 hd2
  have ei : ∀ (A : Around) (a c : Int) (t u : Tok), SeqAt.EqAt A s (.int a t) (.int c u) (decide (a = c)) := fun A a c t u => by
    obtain ⟨e, he, hiff⟩ := HT.eqAt_int A s a t c u
    have : e = decide (a = c) := by
      by_cases q : a = c
      · rw [decide_eq_true q, hiff.mpr q]
      · rw [decide_eq_false q]
        cases e with
        | false => rfl
        | true => exact absurd (hiff.mp rfl) q
    rw [← this]
    exact he
  let e : Nat → Bool := fun j => match j with | 0 => decide (x.1.a = y.1.a) | 1 => decide (x.1.b = y.1.b) | 2 => decide (x.1.c = y.1.c) | _ => x.2 == y.2
  let r : Nat → Bool := fun j => match j with | 0 => decide (x.1.a < y.1.a) | 1 => decide (x.1.b < y.1.b) | 2 => decide (x.1.c < y.1.c) | _ => decide (x.2.cps.toList < y.2.cps.toList)
  have hv : Ob.lexAt e r (decide (4 < 4)) 0 4 = HT.lexLt x.1.toL y.1.toL := by
    show (if decide (x.1.a = y.1.a) = true then (if decide (x.1.b = y.1.b) = true then (if decide (x.1.c = y.1.c) = true then (if (x.2 == y.2) = true then decide (4 < 4) else decide (x.2.cps.toList < y.2.cps.toList)) else decide (x.1.c < y.1.c)) else decide (x.1.b < y.1.b)) else decide (x.1.a < y.1.a)) = _
    unfold Tri.toL
    rw [HT.lexLt_cons, HT.lexLt_cons, HT.lexLt_cons, HT.lexLt_nil_nil]
    by_cases q1 : x.1.a = y.1.a
    · rw [decide_eq_true q1, if_pos rfl, if_pos q1]
      by_cases q2 : x.1.b = y.1.b
      · rw [decide_eq_true q2, if_pos rfl, if_pos q2]
        by_cases q3 : x.1.c = y.1.c
        · rw [decide_eq_true q3, if_pos rfl, if_pos q3]
          have : x = y := huq (by
            obtain ⟨⟨a1, a2, a3⟩, a4⟩ := x
            obtain ⟨⟨b1, b2, b3⟩, b4⟩ := y
            simp only at q1 q2 q3
            subst q1 q2 q3
            rfl)
          rw [this]
          simp
        · rw [decide_eq_false q3, if_neg (by decide), if_neg q3]
      · rw [decide_eq_false q2, if_neg (by decide), if_neg q2]
    · rw [decide_eq_false q1, if_neg (by decide), if_neg q1]
  refine richCompare_meets_room (op := .Lt) ⟨_, ho, rfl⟩ ⟨_, ho2, rfl⟩ PySem.F.slot_tuple_lt PySem.F.entry_tuple_lt (PySem.F.args_tuple_lt_2 _ _) (Ob.tuple_ltAt l b _ _ n n2 dd dd2 sl sl2 e r)
    ⟨ho, ho2, fun j h1 h2 => ?_, fun j h1 h2 hj => ?_, show Value.bool _ ≠ Value.notImplemented ∧ Q (.bool _) s from ⟨(fun z => nomatch z), by
      show Q (.bool (Ob.lexAt e r (decide (4 < 4)) 0 4)) s
      rw [hv]
      exact h⟩⟩ hu
  · match j, h1 with
    | 0, _ => exact ei _ _ _ _ _
    | 1, _ => exact ei _ _ _ _ _
    | 2, _ => exact ei _ _ _ _ _
    | 3, _ => exact SeqAt.EqAt.str_str _ _ _ _
    | j + 4, h => exact absurd h (by simp)
  · match j, h1 with
    | 0, _ => exact Ob.RcOp.lt_int _ _ _ _
    | 1, _ => exact Ob.RcOp.lt_int _ _ _ _
    | 2, _ => exact Ob.RcOp.lt_int _ _ _ _
    | 3, _ => exact fun prog w E Q q => PyProof.Rows.lt_str q
    | j + 4, h => exact absurd h (by simp)
end
section
variable {X : Cx}
/-- min(xs), xs a list of such tuples, no two with the same numbers -/
def rMinE (K : PySem.W.Frag) : List V → Hp → VK → Prop := fun vs H Q => ∃ (a : Addr) (rs : List Addr) (nss : List En), vs = [V.ref a] ∧ SqL K H a (rs.map V.ref) ∧ rs.length = nss.length ∧ 0 < rs.length ∧ (nss.map (·.1)).Nodup ∧
  (∀ (i : Nat) r ns, rs[i]? = some r → nss[i]? = some ns → SqT K H r (enV ns)) ∧
  ∀ (i : Nat) r ns, rs[i]? = some r → nss[i]? = some ns → (∀ ms ∈ nss, HT.lexLt ms.1.toL ns.1.toL = false) → Q (.ref r) H
theorem cr_minE (hc : X.calm = true) (hu : X.A.units + 64 < cLine) : CallR X (.builtin "min") (rMinE X.K) := by
  intro pins s σ H vs us Q I r h
  obtain ⟨a, rs, nss, rfl, hs, hlen, h0, hnd, ht, q⟩ := h
  obtain ⟨its, rv, hl, _⟩ := I.list hs
  rw [Vals.ref1 r]
  obtain rfl := vals_of_refs rv
  have hl := hl.isList
  have lt : a < s.heap.objs.size := by obtain ⟨_, e, _⟩ := hl; exact Heap.lt_size e
  have nm : (toString "min" ++ toString ".loop" : String) = "min.loop" := by decide
  refine call_function_tree PySem.F.kind_min PySem.F.plain_min PySem.F.entry_min (PySem.F.args_min1 _) ?_
  refine wpAny_bind (m := Builtin.Builtins.bindParams "min" ["key", "default"] 0 ⟨[], []⟩) (wpAny_of_eq (show Builtin.Builtins.bindParams "min" ["key", "default"] 0 ⟨[], []⟩ = pure [none, none] from rfl) ?_)
  refine wpAny_bind (wpAny_pure ?_)
  refine wpAny_bind (wpAny_pyIter_list hl ?_)
  refine wpAny_bind (wpAny_newObj_type ?_)
  rw [nm]
  have W := Walks.list (prog := X.prog) (w := X.w) (A := X.A.in1) (I.ok.hd hc) s.heap.objs.size a (Nat.ne_of_lt lt) (rs.map Value.ref).toArray
  have rlt : ∀ b, b ∈ rs → b < s.heap.objs.size := fun b hb => by
    obtain ⟨i, hi⟩ := List.getElem?_of_mem hb
    have hi2 : i < nss.length := by rw [← hlen]; exact (List.getElem?_eq_some_iff.mp hi).1
    obtain ⟨its1, _, ⟨o, e, _⟩, _⟩ := I.tuple (ht i b _ hi (List.getElem?_eq_getElem hi2))
    exact Heap.lt_size e
  have get : ∀ (i : Nat) (u : Value), (rs.map Value.ref).toArray[i]? = some u → ∃ r ns, rs[i]? = some r ∧ nss[i]? = some ns ∧ u = .ref r ∧ r ∈ rs := by
    intro i u h
    rw [List.getElem?_toArray, List.getElem?_map] at h
    cases hr : rs[i]? with
    | none => rw [hr] at h; cases h
    | some r =>
      rw [hr] at h
      have hi2 : i < nss.length := by rw [← hlen]; exact (List.getElem?_eq_some_iff.mp hr).1
      exact ⟨r, _, rfl, List.getElem?_eq_getElem hi2, (Option.some.inj h).symm, List.mem_of_getElem? hr⟩
  have cmp : LtH X.prog X.w X.A.in1 (fun h => ∀ b o, b ∈ rs → s.heap.get? b = some o → h.get? b = some o) (fun i v => (rs.map Value.ref).toArray[i]? = some v)
      (fun i j => HT.lexLt (nss.getD i dflt).1.toL (nss.getD j dflt).1.toL) := by
    intro i j u v s1 Q1 E1 g hu1 hv1 hq
    obtain ⟨r1, ns1, a1, b1, rfl, m1⟩ := get i u hu1
    obtain ⟨r2, ns2, a2, b2, rfl, m2⟩ := get j v hv1
    obtain ⟨i1, v1, ⟨o1, e1, k1⟩, _⟩ := I.tuple (ht i r1 ns1 a1 b1)
    obtain ⟨i2, v2, ⟨o2, e2, k2⟩, _⟩ := I.tuple (ht j r2 ns2 a2 b2)
    have hq : Q1 (.bool (HT.lexLt (nss.getD i dflt).1.toL (nss.getD j dflt).1.toL)) s1 := hq
    rw [List.getD_eq_getElem?_getD, List.getD_eq_getElem?_getD, b1, b2] at hq
    refine ltE (l := r1) (b := r2) ⟨o1, g _ _ m1 e1, k1⟩ ⟨o2, g _ _ m2 e2, k2⟩ v1 v2 (fun e => ?_) (by simp only [Around.in1_units]; omega) hq
    have hi := (List.getElem?_eq_some_iff.mp b1).1
    have hj := (List.getElem?_eq_some_iff.mp b2).1
    have : i = j := by
      have f1 : (nss.map (·.1))[i]? = some ns1.1 := by rw [List.getElem?_map, b1]; rfl
      have f2 : (nss.map (·.1))[j]? = some ns1.1 := by rw [List.getElem?_map, b2]; show some ns2.1 = _; rw [e]
      exact (List.getElem?_inj (by rw [List.length_map]; exact hi) hnd).mp (f1.trans f2.symm)
    subst this
    rw [b1] at b2
    exact Option.some.inj b2
  have fresh : s.heap.objs.size ∉ rs := fun h => Nat.lt_irrefl _ (rlt _ h)
  have fresh2 : s.heap.objs.size + 1 ∉ rs := fun h => Nat.not_lt.mpr (Nat.le_succ _) (rlt _ h)
  refine wpAny_pure ⟨plainId_quiet PySem.F.plain_min_loop _, min_first W cmp ?_ ?_ (by simpa using h0) ?_ ?_ (Heap.get?_push_size _ rfl) fun v h' tk hv kp => ?_⟩
  · intro hm
    rw [Heap.size_push] at hm
    rcases List.mem_cons.mp hm with h | h
    · exact Nat.succ_ne_self _ h
    · have h := List.mem_singleton.mp h
      exact Nat.not_lt.mpr (Nat.le_succ _) (h ▸ lt)
  · intro h1 h2 g1 k b o mb e
    refine k b o (fun hm => ?_) (fun z => ?_) (g1 b o mb e)
    · obtain rfl := List.mem_singleton.mp hm
      exact fresh mb
    · rw [z, Heap.size_push] at mb
      exact fresh2 mb
  · exact ⟨⟨_, Heap.get?_push_of_some _ (Heap.get?_push_size _ rfl), rfl, rfl⟩, (hl.push _).push _⟩
  · exact fun b o _ e => Heap.get?_push_of_some _ (Heap.get?_push_of_some _ e)
  · obtain ⟨r, ns, a1, b1, rfl, m1⟩ := get _ v hv
    have best := argBest_least (bt := fun i j => HT.lexLt (nss.getD i dflt).1.toL (nss.getD j dflt).1.toL) (fun i j k => lex_tr _ _ _) (fun i => lex_irr _) ((rs.map Value.ref).toArray.size - 1)
    refine ⟨.ref r, H, I.kept fun b o e => ?_, rfl, q _ r ns a1 b1 fun ms hms => ?_⟩
    · refine kp b o (fun hm => ?_) (fun z => ?_) (Heap.get?_push_of_some _ (Heap.get?_push_of_some _ e))
      · obtain rfl := List.mem_singleton.mp hm
        exact Nat.lt_irrefl _ (Heap.lt_size e)
      · have := Heap.lt_size e
        rw [z, Heap.size_push] at this
        exact Nat.not_lt.mpr (Nat.le_succ _) this
    · obtain ⟨j, hj⟩ := List.getElem?_of_mem hms
      have hj2 : j < nss.length := (List.getElem?_eq_some_iff.mp hj).1
      have := best.2 j (by simp; omega)
      rw [List.getD_eq_getElem?_getD, List.getD_eq_getElem?_getD, hj, b1] at this
      exact this
theorem minEK {K : PySem.W.Frag} (h : X.K = K) (hc : X.calm = true) (hu : X.A.units + 64 < cLine) : CallR X (.builtin "min") (rMinE K) := h ▸ cr_minE hc hu
end
end AB

namespace AB
open PySem PySem.Spec PyProof.Rows L2
open TL (tl)
/-- where the part of the other text ends that stands for the window -/
def beh (t o : List Nat) (b : Nat) : Int := (o.length : Int) - ((t.length : Int) - (b : Int))
def okW (t o : List Nat) (a b : Nat) : Bool := decide ((a : Int) ≤ beh t o b) && (decide (t.take a = o.take a) && (decide (t.drop b = o.drop (beh t o b).toNat) && once t a b))
def enOf (t o : List Nat) (a b : Nat) : En := (⟨(b : Int) - a + beh t o b - a, a, b⟩, sl (cutN o a (beh t o b).toNat))
def candA (t o : List Nat) (a k : Nat) : List En := (List.range k).flatMap fun j => if okW t o a (a + 1 + j) = true then [enOf t o a (a + 1 + j)] else []
def candTo (t o : List Nat) (n : Nat) : List En := (List.range n).flatMap fun a => candA t o a (t.length - a)
def cands (t o : List Nat) : List En := candTo t o t.length
theorem candA_succ (t o : List Nat) (a k : Nat) : candA t o a (k + 1) = candA t o a k ++ if okW t o a (a + 1 + k) = true then [enOf t o a (a + 1 + k)] else [] := by
  unfold candA
  rw [List.range_succ, List.flatMap_append]
  simp
theorem candTo_succ (t o : List Nat) (n : Nat) : candTo t o (n + 1) = candTo t o n ++ candA t o n (t.length - n) := by
  unfold candTo
  rw [List.range_succ, List.flatMap_append]
  simp
theorem candA_mem {t o : List Nat} {a k : Nat} {x : En} (h : x ∈ candA t o a k) : ∃ j, j < k ∧ x = enOf t o a (a + 1 + j) := by
  obtain ⟨j, hj, hx⟩ := List.mem_flatMap.mp h
  refine ⟨j, List.mem_range.mp hj, ?_⟩
  by_cases c : okW t o a (a + 1 + j) = true
  · rw [if_pos c] at hx
    exact List.mem_singleton.mp hx
  · rw [if_neg c] at hx
    cases hx
theorem candTo_mem {t o : List Nat} {n : Nat} {x : En} (h : x ∈ candTo t o n) : ∃ a b, a < n ∧ a < b ∧ x = enOf t o a b := by
  obtain ⟨a, ha, hx⟩ := List.mem_flatMap.mp h
  obtain ⟨j, _, rfl⟩ := candA_mem hx
  exact ⟨a, a + 1 + j, List.mem_range.mp ha, by omega, rfl⟩
theorem candA_len (t o : List Nat) (a : Nat) : ∀ k, (candA t o a k).length ≤ k
  | 0 => Nat.zero_le _
  | k + 1 => by
    have := candA_len t o a k
    rw [candA_succ, List.length_append]
    by_cases c : okW t o a (a + 1 + k) = true
    · rw [if_pos c]
      show _ + 1 ≤ _
      omega
    · rw [if_neg c]
      show _ + 0 ≤ _
      omega
theorem candTo_len (t o : List Nat) : ∀ n, (candTo t o n).length ≤ n * t.length
  | 0 => by simp [candTo]
  | n + 1 => by
    have := candTo_len t o n
    have := candA_len t o n (t.length - n)
    rw [candTo_succ, List.length_append, Nat.succ_mul]
    omega
theorem candA_nodup (t o : List Nat) (a : Nat) : ∀ k, ((candA t o a k).map (·.1)).Nodup
  | 0 => List.nodup_nil
  | k + 1 => by
    rw [candA_succ, List.map_append, List.nodup_append]
    refine ⟨candA_nodup t o a k, ?_, ?_⟩
    · by_cases c : okW t o a (a + 1 + k) = true
      · rw [if_pos c]; simp
      · rw [if_neg c]; simp
    · intro x hx y hy e
      subst e
      obtain ⟨u, hu, rfl⟩ := List.mem_map.mp hx
      obtain ⟨v, hv, e2⟩ := List.mem_map.mp hy
      obtain ⟨j, hj, rfl⟩ := candA_mem hu
      by_cases c : okW t o a (a + 1 + k) = true
      · rw [if_pos c] at hv
        obtain rfl := List.mem_singleton.mp hv
        have e3 : ((a + 1 + k : Nat) : Int) = ((a + 1 + j : Nat) : Int) := congrArg Tri.c e2
        omega
      · rw [if_neg c] at hv
        cases hv
theorem candTo_nodup (t o : List Nat) : ∀ n, ((candTo t o n).map (·.1)).Nodup
  | 0 => List.nodup_nil
  | n + 1 => by
    rw [candTo_succ, List.map_append, List.nodup_append]
    refine ⟨candTo_nodup t o n, candA_nodup _ _ _ _, ?_⟩
    intro x hx y hy e
    subst e
    obtain ⟨u, hu, rfl⟩ := List.mem_map.mp hx
    obtain ⟨v, hv, e2⟩ := List.mem_map.mp hy
    obtain ⟨a, b, ha, _, rfl⟩ := candTo_mem hu
    obtain ⟨j, hj, rfl⟩ := candA_mem hv
    have e3 : ((n : Nat) : Int) = ((a : Nat) : Int) := congrArg Tri.b e2
    omega
def dE (x : En) : PyData := .tuple [.int x.1.b, .int x.1.c, .str x.2]
def isSingle (t o : List Nat) (d : PyData) : Prop := (t = o ∧ d = .tuple []) ∨ (t ≠ o ∧ cands t o = [] ∧ d = .none) ∨
  (t ≠ o ∧ ∃ x ∈ cands t o, (∀ y ∈ cands t o, HT.lexLt y.1.toL x.1.toL = false) ∧ d = .tuple [dE x])
theorem lex_tot {x y : Tri} (h : HT.lexLt x.toL y.toL = false) (g : HT.lexLt y.toL x.toL = false) : x = y := by
  obtain ⟨a, b, c⟩ := x
  obtain ⟨a', b', c'⟩ := y
  unfold Tri.toL at h g
  simp only [HT.lexLt_cons, HT.lexLt_nil_nil] at h g
  by_cases q1 : a = a'
  · subst q1
    rw [if_pos rfl] at h g
    by_cases q2 : b = b'
    · subst q2
      rw [if_pos rfl] at h g
      by_cases q3 : c = c'
      · rw [q3]
      · rw [if_neg q3] at h
        rw [if_neg (Ne.symm q3)] at g
        have := of_decide_eq_false h
        have := of_decide_eq_false g
        omega
    · rw [if_neg q2] at h
      rw [if_neg (Ne.symm q2)] at g
      have := of_decide_eq_false h
      have := of_decide_eq_false g
      omega
  · rw [if_neg q1] at h
    rw [if_neg (Ne.symm q1)] at g
    have := of_decide_eq_false h
    have := of_decide_eq_false g
    omega
theorem nodup_fst {l : List En} (h : (l.map (·.1)).Nodup) {x y : En} (hx : x ∈ l) (hy : y ∈ l) (e : x.1 = y.1) : x = y := by
  obtain ⟨i, hi⟩ := List.getElem?_of_mem hx
  obtain ⟨j, hj⟩ := List.getElem?_of_mem hy
  have f1 : (l.map (·.1))[i]? = some x.1 := by rw [List.getElem?_map, hi]; rfl
  have f2 : (l.map (·.1))[j]? = some x.1 := by rw [List.getElem?_map, hj]; show some y.1 = _; rw [e]
  have : i = j := (List.getElem?_inj (by rw [List.length_map]; exact (List.getElem?_eq_some_iff.mp hi).1) h).mp (f1.trans f2.symm)
  subst this
  rw [hi] at hj
  exact Option.some.inj hj
theorem isSingle.uniq {t o : List Nat} {d d' : PyData} (h : isSingle t o d) (g : isSingle t o d') : d = d' := by
  rcases h with ⟨a, rfl⟩ | ⟨a, b, rfl⟩ | ⟨a, x, hx, hm, rfl⟩
  · rcases g with ⟨_, rfl⟩ | ⟨c, _⟩ | ⟨c, _⟩
    · rfl
    · exact absurd a c
    · exact absurd a c
  · rcases g with ⟨c, _⟩ | ⟨_, _, rfl⟩ | ⟨_, y, hy, _⟩
    · exact absurd c a
    · rfl
    · rw [b] at hy; cases hy
  · rcases g with ⟨c, _⟩ | ⟨_, c, _⟩ | ⟨_, y, hy, hm2, rfl⟩
    · exact absurd c a
    · rw [c] at hx; cases hx
    · rw [nodup_fst (candTo_nodup t o t.length) hx hy (lex_tot (hm2 x hx) (hm y hy))]
/-- the same said of the whole text -/
theorem whole_iff {t o : List Nat} {a b : Nat} (hab : a ≤ b) (hb : b ≤ t.length) (h : (a : Int) ≤ beh t o b) :
    (t.take a ++ cutN o a (beh t o b).toNat ++ t.drop b = o) ↔ (t.take a = o.take a ∧ t.drop b = o.drop (beh t o b).toNat) := by
  have hn : (beh t o b).toNat + t.length = o.length + b := by
    unfold beh at h ⊢
    omega
  have ha : a ≤ (beh t o b).toNat := by omega
  revert hn ha
  generalize (beh t o b).toNat = n
  intro hn ha
  have la : (t.take a).length = a := by rw [List.length_take]; omega
  have lc : (cutN o a n).length = n - a := by unfold cutN; rw [List.length_take, List.length_drop]; omega
  have lac : (t.take a ++ cutN o a n).length = n := by rw [List.length_append, la, lc]; omega
  constructor
  · intro h
    refine ⟨?_, ?_⟩
    · have := congrArg (List.take a) h
      rw [List.append_assoc, List.take_append_of_le_length (by omega), List.take_of_length_le (by omega)] at this
      exact this
    · have := congrArg (List.drop n) h
      rw [List.drop_append_of_le_length (by omega), List.drop_of_length_le (by omega)] at this
      simpa using this
  · rintro ⟨h1, h2⟩
    rw [h1, h2]
    have e1 : o.take a ++ cutN o a n = o.take n := by
      unfold cutN
      have := List.take_add (l := o) (i := a) (j := n - a)
      rw [Nat.add_sub_cancel' ha] at this
      exact this.symm
    rw [e1, List.take_append_drop]
theorem eqS {x y : Str} : decide (V.str x = V.str y) = decide (tl x = tl y) := by
  by_cases h : x = y
  · rw [h]
    simp
  · rw [decide_eq_false fun e => h (V.str.inj e), decide_eq_false fun e => h (TL.ext_tl e)]
theorem shapedE (l : List En) (hs : ∀ x ∈ l, PyData.canLay0 (.str x.2) = true) : SeqAt.shaped (.list (l.map fun x => .tuple [.int x.1.a, .int x.1.b, .int x.1.c, .str x.2])) = true := by
  refine shaped_of (k := 2) (can_list fun d hd => ?_) (by decide)
  obtain ⟨x, hx, rfl⟩ := List.mem_map.mp hd
  refine can_tup fun d hd => ?_
  simp only [List.mem_cons, List.not_mem_nil, or_false] at hd
  rcases hd with rfl | rfl | rfl | rfl
  · exact ⟨rfl, Nat.le_refl _⟩
  · exact ⟨rfl, Nat.le_refl _⟩
  · exact ⟨rfl, Nat.le_refl _⟩
  · exact ⟨hs x hx, Nat.le_refl _⟩
theorem dpE {K : PySem.W.Frag} {H : Hp} {l : Addr} {rs : List Addr} {xs : List En} (h : Tls enV H l rs xs) : Dp K H (.ref l) (.list (xs.map fun x => .tuple [.int x.1.a, .int x.1.b, .int x.1.c, .str x.2])) :=
  .lst (SqL.of h.top) (Tls.dp (d := fun x : En => [.int x.1.a, .int x.1.b, .int x.1.c, .str x.2]) (fun x => .cons (.int _) (.cons (.int _) (.cons (.int _) (.cons (.str _) .nil)))) h.len h.row)
def spSingle (K : PySem.W.Frag) : Sp := fun vs H Q _ => ∃ (t o : Str), vs = [.str t, .str o] ∧ t.length ≤ 100 ∧ o.length ≤ 100 ∧ Lt o ∧ ∀ H' v d, Same H H' → Dp K H' v d → isSingle (tl t) (tl o) d → Q v H'
theorem strOk_of {z : Str} (h : Lt z) : PyData.canLay0 (.str z) = true := by
  show z.cps.all (fun c => decide (c < 0x110000)) = true
  rw [Array.all_eq_true]
  intro i hi
  have := letters_small _ (h (z.cps[i]) (by show _ ∈ z.cps.toList; simp))
  exact decide_eq_true (by omega)
theorem cands_ok {t o : Str} (h : Lt o) {x : En} (hx : x ∈ cands (tl t) (tl o)) : PyData.canLay0 (.str x.2) = true := by
  obtain ⟨a, b, _, _, rfl⟩ := candTo_mem hx
  refine strOk_of fun c hc => h c ?_
  have hc : c ∈ tl (sl (cutN (tl o) a (beh (tl t) (tl o) b).toNat)) := hc
  rw [tl_sl] at hc
  exact List.mem_of_mem_drop (List.mem_of_mem_take hc)
end AB

namespace AB
open PySem PySem.Spec PyProof.Rows L2
open TL (tl)
theorem cutN_len {t : List Nat} {a b : Nat} (h : b ≤ t.length) : (cutN t a b).length = b - a := by
  unfold cutN
  rw [List.length_take, List.length_drop]
  omega
theorem cutN_join {t : List Nat} {a b c : Nat} (h1 : a ≤ b) (h2 : b ≤ c) : cutN t a c = cutN t a b ++ cutN t b c := by
  unfold cutN
  have := List.take_add (l := t.drop a) (i := b - a) (j := c - b)
  rw [List.drop_drop, show b - a + (c - b) = c - a by omega, show a + (b - a) = b by omega] at this
  exact this
theorem drop_join {t : List Nat} {a b : Nat} (h1 : a ≤ b) : t.drop a = cutN t a b ++ t.drop b := by
  unfold cutN
  have := List.take_append_drop (b - a) (t.drop a)
  rw [List.drop_drop, show a + (b - a) = b by omega] at this
  exact this.symm
theorem cutN_get {t : List Nat} {a c : Nat} (h : t[a]? = some c) : cutN t a (a + 1) = [c] := by
  unfold cutN
  rw [show a + 1 - a = 1 by omega, drop_cons h]
  rfl
/-- a window thinned: the same letters are gone on both sides -/
structure Thin (t : List Nat) (x y : Ex) : Prop where
  ex : ∃ pre suf : List Nat, x.2.2 = pre ++ y.2.2 ++ suf ∧ cutN t x.1 y.1 = pre ∧ cutN t y.2.1 x.2.1 = suf
  lo : x.1 ≤ y.1
  mi : y.1 < y.2.1
  hi : y.2.1 ≤ x.2.1
theorem Thin.refl {t : List Nat} {x : Ex} (h : x.1 < x.2.1) : Thin t x x := ⟨⟨[], [], by simp, by simp [cutN], by simp [cutN]⟩, Nat.le_refl _, h, Nat.le_refl _⟩
theorem Thin.trans {t : List Nat} {x y z : Ex} (h : Thin t x y) (g : Thin t y z) : Thin t x z := by
  obtain ⟨p1, s1, e1, c1, d1⟩ := h.ex
  obtain ⟨p2, s2, e2, c2, d2⟩ := g.ex
  refine ⟨⟨p1 ++ p2, s2 ++ s1, by rw [e1, e2]; simp, ?_, ?_⟩, Nat.le_trans h.lo g.lo, g.mi, Nat.le_trans g.hi h.hi⟩
  · rw [cutN_join h.lo g.lo, c1, c2]
  · rw [cutN_join g.hi h.hi, d1, d2]
theorem endT_thin {t : List Nat} {a : Nat} : ∀ (n b : Nat) (f : List Nat), a < b → b ≤ t.length → Thin t (a, b, f) (a, (endT t a n b f).1, (endT t a n b f).2)
  | 0, b, f, h, _ => Thin.refl h
  | n + 1, b, f, h, hb => by
    by_cases c : endC t a b f = true
    · have e : endT t a (n + 1) b f = endT t a n (b - 1) f.dropLast := by
        show (if endC t a b f = true then _ else _) = _
        rw [if_pos c]
      rw [e]
      unfold endC at c
      simp only [Bool.and_eq_true, decide_eq_true_eq] at c
      obtain ⟨c1, c2, c3, c4⟩ := c
      refine Thin.trans (y := (a, b - 1, f.dropLast)) ?_ (endT_thin n (b - 1) f.dropLast (by omega) (by omega))
      have hne : f ≠ [] := List.length_pos_iff.mp c1
      refine ⟨⟨[], [f.getLast hne], ?_, by simp [cutN], ?_⟩, Nat.le_refl _, show a < b - 1 by omega, show b - 1 ≤ b by omega⟩
      · show f = [] ++ f.dropLast ++ [f.getLast hne]
        rw [List.nil_append, List.dropLast_concat_getLast]
      · show cutN t (b - 1) b = _
        rw [List.getLast?_eq_some_getLast hne] at c3
        have := cutN_get c3
        rw [show b - 1 + 1 = b by omega] at this
        exact this
    · have e : endT t a (n + 1) b f = (b, f) := by
        show (if endC t a b f = true then _ else _) = _
        rw [if_neg c]
      rw [e]
      exact Thin.refl h
theorem begT_thin {t : List Nat} {b : Nat} : ∀ (n a : Nat) (f : List Nat), a < b → b ≤ t.length → Thin t (a, b, f) ((begT t b n a f).1, b, (begT t b n a f).2)
  | 0, a, f, h, _ => Thin.refl h
  | n + 1, a, f, h, hb => by
    by_cases c : begC t a b f = true
    · have e : begT t b (n + 1) a f = begT t b n (a + 1) f.tail := by
        show (if begC t a b f = true then _ else _) = _
        rw [if_pos c]
      rw [e]
      unfold begC at c
      simp only [Bool.and_eq_true, decide_eq_true_eq] at c
      obtain ⟨c1, c2, c3, c4⟩ := c
      refine Thin.trans (y := (a + 1, b, f.tail)) ?_ (begT_thin n (a + 1) f.tail (by omega) hb)
      match f, c1, c3 with
      | d :: f, _, c3 =>
        refine ⟨⟨[d], [], ?_, ?_, by simp [cutN]⟩, show a ≤ a + 1 by omega, show a + 1 < b by omega, Nat.le_refl _⟩
        · simp
        · exact cutN_get c3
    · have e : begT t b (n + 1) a f = (a, f) := by
        show (if begC t a b f = true then _ else _) = _
        rw [if_neg c]
      rw [e]
      exact Thin.refl h
theorem thinF_thin {t : List Nat} {x : Ex} (h : x.1 < x.2.1) (hb : x.2.1 ≤ t.length) : Thin t x (thinF t x) := by
  have h1 := endT_thin (t := t) (a := x.1) x.2.2.length x.2.1 x.2.2 h hb
  have h2 := begT_thin (t := t) (b := (thinE t x).1) (thinE t x).2.length x.1 (thinE t x).2 h1.mi (Nat.le_trans h1.hi hb)
  exact h1.trans h2
def RowsOk (n : Nat) : Nat → List Ex → Prop
  | _, [] => True
  | k, x :: xs => k ≤ x.1 ∧ x.1 < x.2.1 ∧ x.2.1 ≤ n ∧ RowsOk n x.2.1 xs
theorem RowsOk.low {n : Nat} : ∀ {xs : List Ex} {k k' : Nat}, RowsOk n k xs → k' ≤ k → RowsOk n k' xs
  | [], _, _, _, _ => trivial
  | _ :: _, _, _, h, hk => ⟨Nat.le_trans hk h.1, h.2⟩
theorem putF_from {t : List Nat} : ∀ {xs : List Ex} {k b : Nat}, RowsOk t.length b xs → k ≤ b → putF t k xs = cutN t k b ++ putF t b xs
  | [], k, b, _, h => drop_join h
  | x :: xs, k, b, hr, h => by
    show cutN t k x.1 ++ x.2.2 ++ putF t x.2.1 xs = cutN t k b ++ (cutN t b x.1 ++ x.2.2 ++ putF t x.2.1 xs)
    rw [cutN_join h hr.1]
    simp
theorem thinL_cons (t : List Nat) (x : Ex) (xs : List Ex) : thinL t (x :: xs) = if cutN t x.1 x.2.1 = x.2.2 then thinL t xs else thinF t x :: thinL t xs := by
  unfold thinL
  rw [List.filter_cons]
  by_cases c : cutN t x.1 x.2.1 = x.2.2
  · rw [if_neg (by simp [c]), if_pos c]
  · rw [if_pos (by simp [c]), if_neg c]
    rfl
theorem thinL_ok {t : List Nat} : ∀ {xs : List Ex} {k : Nat}, RowsOk t.length k xs → RowsOk t.length k (thinL t xs)
  | [], _, _ => trivial
  | x :: xs, k, h => by
    obtain ⟨h1, h2, h3, h4⟩ := h
    have ih := thinL_ok h4
    rw [thinL_cons]
    by_cases c : cutN t x.1 x.2.1 = x.2.2
    · rw [if_pos c]
      exact ih.low (by omega)
    · rw [if_neg c]
      have T := thinF_thin h2 h3
      exact ⟨Nat.le_trans h1 T.lo, T.mi, Nat.le_trans T.hi h3, ih.low T.hi⟩
/-- what is put is the same -/
theorem put_thin {t : List Nat} : ∀ {xs : List Ex} {k : Nat}, RowsOk t.length k xs → putF t k (thinL t xs) = putF t k xs
  | [], _, _ => rfl
  | x :: xs, k, h => by
    obtain ⟨h1, h2, h3, h4⟩ := h
    have ih := put_thin h4
    have hk := thinL_ok h4
    rw [thinL_cons]
    by_cases c : cutN t x.1 x.2.1 = x.2.2
    · rw [if_pos c, putF_from hk (show k ≤ x.2.1 by omega), ih]
      show _ = cutN t k x.1 ++ x.2.2 ++ putF t x.2.1 xs
      rw [cutN_join h1 (Nat.le_of_lt h2), c]
    · rw [if_neg c]
      have T := thinF_thin h2 h3
      obtain ⟨pre, suf, e1, e2, e3⟩ := T.ex
      show cutN t k (thinF t x).1 ++ (thinF t x).2.2 ++ putF t (thinF t x).2.1 (thinL t xs) = cutN t k x.1 ++ x.2.2 ++ putF t x.2.1 xs
      rw [putF_from hk T.hi, ih, cutN_join h1 T.lo, e2, e3, e1]
      simp
theorem costF_cons (x : Ex) (xs : List Ex) : costF (x :: xs) = ((x.2.1 : Nat) : Int) - (x.1 : Nat) + (x.2.2.length : Nat) + 0 + costF xs := by
  unfold costF
  rw [List.map_cons, List.sum_cons]
theorem cost_thin {t : List Nat} : ∀ {xs : List Ex} {k : Nat}, RowsOk t.length k xs → costF (thinL t xs) ≤ costF xs
  | [], _, _ => Int.le_refl _
  | x :: xs, k, h => by
    obtain ⟨h1, h2, h3, h4⟩ := h
    have ih := cost_thin h4
    rw [thinL_cons, costF_cons]
    by_cases c : cutN t x.1 x.2.1 = x.2.2
    · rw [if_pos c]
      omega
    · rw [if_neg c, costF_cons]
      have T := thinF_thin h2 h3
      obtain ⟨pre, suf, e1, e2, e3⟩ := T.ex
      have := congrArg List.length e1
      rw [List.length_append, List.length_append] at this
      have a1 := T.lo
      have a2 := T.hi
      omega
/-- a window around one that stands once stands once -/
theorem isAt_cut {t : List Nat} {a e p : Nat} (hae : a ≤ e) (he : e ≤ t.length) : isAt t (cutN t a e) p = true ↔ ∀ i, i < e - a → t[p + i]? = t[a + i]? := by
  rw [isAt_iff, cutN_len he]
  constructor
  · intro h i hi
    have := congrArg (fun l => l[i]?) h
    simp only [cutN] at this
    rw [List.getElem?_take_of_lt hi, List.getElem?_take_of_lt hi, List.getElem?_drop, List.getElem?_drop] at this
    exact this
  · intro h
    apply List.ext_getElem?
    intro i
    by_cases c : i < e - a
    · unfold cutN
      rw [List.getElem?_take_of_lt c, List.getElem?_take_of_lt c, List.getElem?_drop, List.getElem?_drop]
      exact h i c
    · unfold cutN
      rw [List.getElem?_take_eq_none (by omega), List.getElem?_take_eq_none (by omega)]
theorem plc_nodup (t w : List Nat) : (plc t w).Nodup := List.Pairwise.filter _ List.nodup_range
theorem once_super {t : List Nat} {a a' e : Nat} (h1 : a ≤ a') (h2 : a' < e) (h3 : e ≤ t.length) (h : once t a' e = true) : once t a e = true := by
  have w1 : cutN t a' e ≠ [] := fun z => by
    have := cutN_len (t := t) (a := a') h3
    rw [z] at this
    simp at this
    omega
  have w2 : cutN t a e ≠ [] := fun z => by
    have := cutN_len (t := t) (a := a) h3
    rw [z] at this
    simp at this
    omega
  have l1 : (plc t (cutN t a' e)).length = 1 := of_decide_eq_true h
  refine decide_eq_true ?_
  show (plc t (cutN t a e)).length = 1
  have mem : a ∈ plc t (cutN t a e) := (mem_plc w2).mpr ((isAt_cut (by omega) h3).mpr fun _ _ => rfl)
  have sub : ∀ p ∈ plc t (cutN t a e), p + (a' - a) ∈ plc t (cutN t a' e) := fun p hp => by
    have hp := (isAt_cut (by omega) h3).mp ((mem_plc w2).mp hp)
    refine (mem_plc w1).mpr ((isAt_cut (by omega) h3).mpr fun i hi => ?_)
    have := hp (a' - a + i) (by omega)
    rw [show p + (a' - a) + i = p + (a' - a + i) by omega, this, show a + (a' - a + i) = a' + i by omega]
  have uniq : ∀ p ∈ plc t (cutN t a e), p = a := fun p hp => by
    match hl : plc t (cutN t a' e), l1 with
    | [q], _ =>
      have m1 := sub p hp
      have m2 := sub a mem
      rw [hl] at m1 m2
      have m1 := List.mem_singleton.mp m1
      have m2 := List.mem_singleton.mp m2
      omega
  match hl : plc t (cutN t a e), mem, plc_nodup t (cutN t a e) with
  | [], m, _ => cases m
  | [q], _, _ => rfl
  | q :: r :: l, _, nd =>
    have u1 := uniq q (by rw [hl]; simp)
    have u2 := uniq r (by rw [hl]; simp)
    rw [u1, u2] at nd
    simp at nd
theorem endT_end {t : List Nat} {a : Nat} : ∀ (n b : Nat) (f : List Nat), f.length ≤ n → endC t a (endT t a n b f).1 (endT t a n b f).2 = false
  | 0, b, f, h => by
    have : f = [] := List.length_eq_zero_iff.mp (by omega)
    subst this
    rfl
  | n + 1, b, f, h => by
    cases c : endC t a b f with
    | true =>
      have e : endT t a (n + 1) b f = endT t a n (b - 1) f.dropLast := by
        show (if endC t a b f = true then _ else _) = _
        rw [if_pos c]
      rw [e]
      exact endT_end n _ _ (by rw [List.length_dropLast]; omega)
    | false =>
      rw [endT_stop c]
      exact c
theorem begT_end {t : List Nat} {b : Nat} : ∀ (n a : Nat) (f : List Nat), f.length ≤ n → begC t (begT t b n a f).1 b (begT t b n a f).2 = false
  | 0, a, f, h => by
    have : f = [] := List.length_eq_zero_iff.mp (by omega)
    subst this
    rfl
  | n + 1, a, f, h => by
    cases c : begC t a b f with
    | true =>
      have e : begT t b (n + 1) a f = begT t b n (a + 1) f.tail := by
        show (if begC t a b f = true then _ else _) = _
        rw [if_pos c]
      rw [e]
      exact begT_end n _ _ (by rw [List.length_tail]; omega)
    | false =>
      rw [begT_stop c]
      exact c
theorem thinF_again {t : List Nat} {x : Ex} (h : x.1 < x.2.1) (hb : x.2.1 ≤ t.length) : thinF t (thinF t x) = thinF t x := by
  have h1 := endT_thin (t := t) (a := x.1) x.2.2.length x.2.1 x.2.2 h hb
  have h2 := begT_thin (t := t) (b := (thinE t x).1) (thinE t x).2.length x.1 (thinE t x).2 h1.mi (Nat.le_trans h1.hi hb)
  have e1 : endC t x.1 (thinE t x).1 (thinE t x).2 = false := endT_end _ _ _ (Nat.le_refl _)
  have e2 : begC t (thinF t x).1 (thinF t x).2.1 (thinF t x).2.2 = false := begT_end _ _ _ (Nat.le_refl _)
  obtain ⟨pre, suf, f1, f2, f3⟩ := h2.ex
  have hsuf : suf = [] := by rw [← f3]; simp [cutN]
  have f1 : (thinE t x).2 = pre ++ (thinF t x).2.2 := by
    have : (thinE t x).2 = pre ++ (thinF t x).2.2 ++ suf := f1
    rw [this, hsuf, List.append_nil]
  have lo : x.1 ≤ (thinF t x).1 := h2.lo
  have mi : (thinF t x).1 < (thinF t x).2.1 := h2.mi
  have hi : (thinF t x).2.1 ≤ t.length := Nat.le_trans h1.hi hb
  have eb : (thinE t x).1 = (thinF t x).2.1 := rfl
  have e3 : endC t (thinF t x).1 (thinF t x).2.1 (thinF t x).2.2 = false := by
    cases c : endC t (thinF t x).1 (thinF t x).2.1 (thinF t x).2.2 with
    | false => rfl
    | true =>
      unfold endC at c
      simp only [Bool.and_eq_true, decide_eq_true_eq] at c
      obtain ⟨c1, c2, c3, c4⟩ := c
      have os := once_super lo (show (thinF t x).1 < (thinF t x).2.1 - 1 by omega) (by omega) c4
      have : endC t x.1 (thinE t x).1 (thinE t x).2 = true := by
        unfold endC
        rw [eb, f1]
        have hne : (thinF t x).2.2 ≠ [] := List.length_pos_iff.mp c1
        have e4 : (pre ++ (thinF t x).2.2).getLast? = (thinF t x).2.2.getLast? := by rw [List.getLast?_append, List.getLast?_eq_some_getLast hne]; rfl
        rw [e4, decide_eq_true c3, os, decide_eq_true (show 1 < (thinF t x).2.1 - x.1 by omega), decide_eq_true (show 0 < (pre ++ (thinF t x).2.2).length by rw [List.length_append]; omega)]
        rfl
      rw [this] at e1
      cases e1
  have g1 : thinE t (thinF t x) = ((thinF t x).2.1, (thinF t x).2.2) := endT_stop e3
  show ((begT t (thinE t (thinF t x)).1 (thinE t (thinF t x)).2.length (thinF t x).1 (thinE t (thinF t x)).2).1, (thinE t (thinF t x)).1, (begT t (thinE t (thinF t x)).1 (thinE t (thinF t x)).2.length (thinF t x).1 (thinE t (thinF t x)).2).2) = thinF t x
  rw [g1]
  show ((begT t (thinF t x).2.1 (thinF t x).2.2.length (thinF t x).1 (thinF t x).2.2).1, (thinF t x).2.1, (begT t (thinF t x).2.1 (thinF t x).2.2.length (thinF t x).1 (thinF t x).2.2).2) = thinF t x
  rw [begT_stop e2]
theorem thin_ne {t : List Nat} {x y : Ex} (T : Thin t x y) (h : cutN t x.1 x.2.1 ≠ x.2.2) : cutN t y.1 y.2.1 ≠ y.2.2 := fun e => h (by
  obtain ⟨pre, suf, e1, e2, e3⟩ := T.ex
  rw [cutN_join T.lo (Nat.le_trans (Nat.le_of_lt T.mi) T.hi), cutN_join (Nat.le_of_lt T.mi) T.hi, e2, e3, e, e1]
  simp)
theorem thinL_again {t : List Nat} : ∀ {xs : List Ex} {k : Nat}, RowsOk t.length k xs → thinL t (thinL t xs) = thinL t xs
  | [], _, _ => rfl
  | x :: xs, k, h => by
    obtain ⟨h1, h2, h3, h4⟩ := h
    have ih := thinL_again h4
    rw [thinL_cons]
    by_cases c : cutN t x.1 x.2.1 = x.2.2
    · rw [if_pos c]
      exact ih
    · rw [if_neg c, thinL_cons, if_neg (thin_ne (thinF_thin h2 h3) c), thinF_again h2 h3, ih]
end AB

namespace AB
open PySem PySem.Spec PyProof.Rows L2
open TL (tl)
theorem Tls.kept {α : Type} {g : α → List V} {H H' : Hp} {l p c : Addr} {n : Nat} {rs : List Addr} {xs : List α} (h : Tls g H l rs xs) (hp : Pen H p c n) (k : Keep p H H') : Tls g H' l rs xs :=
  ⟨k _ _ (hp.ne_lst h.top) h.top, h.len, fun i r x a b => k _ _ (hp.ne_tup (h.row i r x a b)) (h.row i r x a b), h.ne⟩
def spAround : Sp := fun vs H Q _ => ∃ (t : Str), vs = [.str t, .int (t.length : Nat), .int 0] ∧ t.length ≤ 50 ∧
  ∀ H' l rs xs, Same H H' → H l = none → Tls pV H' l rs xs → (∀ x ∈ xs, x.1 < x.2 ∧ x.2 ≤ t.length) → xs.length ≤ 10000 → Q (.ref l) H'
def lastE : Nat → List Ex → Nat
  | k, [] => k
  | _, x :: xs => lastE x.2.1 xs
theorem rows_snoc {n : Nat} {x : Ex} : ∀ {xs : List Ex} {k : Nat}, RowsOk n k xs → lastE k xs ≤ x.1 → x.1 < x.2.1 → x.2.1 ≤ n → RowsOk n k (xs ++ [x]) ∧ lastE k (xs ++ [x]) = x.2.1
  | [], k, _, h, h1, h2 => ⟨⟨h, h1, h2, trivial⟩, rfl⟩
  | y :: ys, k, hr, h, h1, h2 => by
    obtain ⟨a, b, c, d⟩ := hr
    have := rows_snoc (x := x) d h h1 h2
    exact ⟨⟨a, b, c, this.1⟩, this.2⟩
def spDrawn : Sp := fun vs H Q _ => ∃ (p c : Addr) (n : Nat) (t z : Str), vs = [.ref p, .str t, .str z] ∧ Pen H p c n ∧ n ≤ 700000 ∧ 0 < z.length ∧ z.length ≤ 1000 ∧ Lt z ∧ Lt t ∧ t.length ≤ 50 ∧
  ∀ H' e rs xs, Keep p H H' → Pen H' p c (n + 50) → Tts exV H' e rs xs → xs.length ≤ 4 → RowsOk t.length 0 xs → (∀ x ∈ xs, ExOk t.length x ∧ ∀ d ∈ x.2.2, d ∈ tl lettersS) → Q (.ref e) H'
end AB

namespace AB
open PySem PySem.Spec PyProof.Rows L2
open TL (tl)
/-- a def whose binding is told apart -/
structure FX0 (K : PySem.W.Frag) (mg : Str → Option Value) (x : Str) (st : Stmt) (f : Addr) (fd : FuncData) : Prop where
  F : Fun K x x st f fd
  g : mg x = some (.ref f)
def dX (x : Ex) : PyData := .tuple [.int (x.1 : Nat), .int (x.2.1 : Nat), .str (sl x.2.2)]
theorem dpX {K : PySem.W.Frag} {H : Hp} {l : Addr} {rs : List Addr} {xs : List Ex} (h : Tts exV H l rs xs) : Dp K H (.ref l) (.tuple (xs.map dX)) :=
  .tup (SqT.of h.top) (Tls.dp (d := fun x : Ex => [.int (x.1 : Nat), .int (x.2.1 : Nat), .str (sl x.2.2)]) (fun x => .cons (.int _) (.cons (.int _) (.cons (.str _) .nil))) h.len h.row)
def costs (xs : List Ex) : List Int := xs.map fun x => ((x.2.1 : Nat) : Int) - (x.1 : Nat) + (x.2.2.length : Nat) + 0
theorem costs_sum (xs : List Ex) : (costs xs).sum = costF xs := rfl
theorem show_nat {k : Nat} (h : k ≤ 1000000) : Show (.int ((k : Nat) : Int)) 301 0 := Show.int (Nat.lt_of_le_of_lt (show _ ≤ 1000000 from h) (by decide))
theorem show_lt {z : Str} (h : Lt z) (hl : z.length ≤ 100) : Show (.str z) 1002 0 := Show.str (m := 100) h.small hl
theorem show_three {a b : Nat} {z : Str} (ha : a ≤ 1000000) (hb : b ≤ 1000000) (h : Lt z) (hl : z.length ≤ 100) : Show (.tuple [.int ((a : Nat) : Int), .int ((b : Nat) : Int), .str z]) 4000 1 := by
  refine Show.tup (n := 1002) (k := 0) (fun d hd => ?_) (by show 1002 * 3 + 2 * 3 + 3 ≤ 4000; decide)
  simp only [List.mem_cons, List.not_mem_nil, or_false] at hd
  rcases hd with rfl | rfl | rfl
  · exact (show_nat ha).mono (by decide) (by decide)
  · exact (show_nat hb).mono (by decide) (by decide)
  · exact show_lt h hl
theorem show_single {t o : Str} {d : PyData} (h : isSingle (tl t) (tl o) d) (lt : t.length ≤ 100) (lo : o.length ≤ 100) (ho : Lt o) : Show d 16000000 64 := by
  rcases h with ⟨_, rfl⟩ | ⟨_, _, rfl⟩ | ⟨_, x, hx, _, rfl⟩
  · exact (Show.tup (n := 1) (k := 0) (m := 3) (fun d hd => by cases hd) (by decide)).mono (by decide) (by decide)
  · exact Show.none.mono (by decide) (by decide)
  · have hl := TL.len_tl t
    obtain ⟨a, ha, hx⟩ := List.mem_flatMap.mp hx
    obtain ⟨j, hj, rfl⟩ := candA_mem hx
    rw [List.mem_range] at ha
    refine (Show.tup (n := 4000) (k := 1) (m := 5000) (fun d hd => ?_) (by show 4000 * 1 + 2 * 1 + 3 ≤ 5000; decide)).mono (by decide) (by decide)
    obtain rfl := List.mem_singleton.mp hd
    have hs : ∀ c ∈ tl (sl (cutN (tl o) a (beh (tl t) (tl o) (a + 1 + j)).toNat)), c ∈ tl o := fun c hc => by
      rw [tl_sl] at hc
      exact List.mem_of_mem_drop (List.mem_of_mem_take hc)
    refine show_three (a := a) (b := a + 1 + j) (by omega) (by omega) (ho.of_mem hs) ?_
    show (sl _).length ≤ 100
    rw [sl_len]
    unfold cutN
    rw [List.length_take, List.length_drop, ← TL.len_tl]
    omega
def ExGood (n : Nat) (x : Ex) : Prop := ExOk n x ∧ ∀ d ∈ x.2.2, d ∈ tl lettersS
theorem show_rows {n : Nat} {xs : List Ex} (hn : n ≤ 1000) (hl : xs.length ≤ 100) (h : ∀ x ∈ xs, ExGood n x) : Show (.tuple (xs.map dX)) 16000000 64 := by
  refine (Show.tup (n := 4000) (k := 1) (m := 1000000) (fun d hd => ?_) (by rw [List.length_map]; omega)).mono (by decide) (by decide)
  obtain ⟨x, hx, rfl⟩ := List.mem_map.mp hd
  obtain ⟨⟨h1, h2, h3⟩, h4⟩ := h x hx
  refine show_three (by omega) (by omega) (fun c hc => h4 c (by rw [tl_sl] at hc; exact hc)) ?_
  rw [sl_len]
  exact h3
theorem thinL_good {t : List Nat} {n : Nat} (hn : n = t.length) : ∀ {xs : List Ex}, (∀ x ∈ xs, ExGood n x) → ∀ x ∈ thinL t xs, ExGood n x := fun h y hy => by
  obtain ⟨x, hx, rfl⟩ := List.mem_map.mp hy
  obtain ⟨⟨h1, h2, h3⟩, h4⟩ := h x (List.mem_filter.mp hx).1
  have T := thinF_thin (t := t) h1 (by omega)
  obtain ⟨pre, suf, e1, _, _⟩ := T.ex
  have el := congrArg List.length e1
  rw [List.length_append, List.length_append] at el
  refine ⟨⟨T.mi, Nat.le_trans T.hi h2, by omega⟩, fun d hd => h4 d ?_⟩
  rw [e1]
  simp [hd]
theorem thinL_len (t : List Nat) (xs : List Ex) : (thinL t xs).length ≤ xs.length := by
  unfold thinL
  rw [List.length_map]
  exact List.length_filter_le _ _
/-- one positional value, one keyword-only default -/
theorem kwBinds {K : PySem.W.Frag} {x kw : Str} {st : Stmt} {v : Int} {tk : Tok} {ps : List Str} {f D : Addr} {oc : Value} {od an : Option Addr} {osl : Array (Option Value)} {doc pm cdv ct : Value}
    (l : K.lookup f = some ⟨oc, od, .func (PySem.W.fnOf x x (defArgs st) (defBody st) (defScope st) .none (.ref D) doc pm an cdv ct), osl⟩) (c : PySem.W.codeIn K cdv x = true) (k : PySem.W.keepIn K (.ref f) = true)
    (kd : PySem.W.nsIn K D kw = some (some (.int v tk)))
    (h : ∀ (D : Addr) (doc pm : Value) (an : Option Addr) (cdv ct u z : Value), KwChain D [(kw, z)] (bindArgs (PySem.W.fnOf x x (defArgs st) (defBody st) (defScope st) .none (.ref D) doc pm an cdv ct) ⟨[u], []⟩) (ps.zip [u, z])) (hp : ps.length = 2 := by rfl) :
    ∃ ds, Vals [V.int v] ds ∧ Binds K (PySem.W.fnOf x x (defArgs st) (defBody st) (defScope st) .none (.ref D) doc pm an cdv ct) ps ds := by
  have F : FunD K x x (defArgs st) (defBody st) (defScope st) [] [(kw, V.int v)] f (PySem.W.fnOf x x (defArgs st) (defBody st) (defScope st) .none (.ref D) doc pm an cdv ct) :=
    ⟨⟨oc, od, .none, .ref D, doc, pm, an, cdv, ct, osl, rfl, l, c, .inl ⟨rfl, rfl⟩, .inr ⟨D, rfl, fun q hq => by
      obtain rfl := List.mem_singleton.mp hq
      exact ⟨_, kd, ⟨_, rfl⟩⟩⟩⟩, k⟩
  exact F.binds0 1 (by simp) (by simp [hp]) fun D doc pm an cdv ct us ks h1 h2 => match us, ks, h1, h2 with
    | [u], [z], _, _ => h D doc pm an cdv ct u z
end AB

namespace Law
open PySem PySem.Spec PyProof.Rows L2 AB
def topS (i : Nat) : Stmt := PySem.Challenge.pw_anchoredits_k65_single_and_thinned_excha.main.body.getD i (.Pass ⟨0, 0, 0, 0⟩)
abbrev s_places : Stmt := topS 1
abbrev N_places : List Str := ["text", "word", "found", "place"]
abbrev P_places : List Str := ["text", "word"]
theorem sc_places : FnScope N_places P_places (defScope s_places) :=
  ⟨rfl, rfl, rfl, by decide +kernel, rfl, by decide +kernel, by decide +kernel⟩

abbrev s_stands_once : Stmt := topS 3
abbrev N_stands_once : List Str := ["text", "begin", "end"]
abbrev P_stands_once : List Str := ["text", "begin", "end"]
theorem sc_stands_once : FnScope N_stands_once P_stands_once (defScope s_stands_once) :=
  ⟨rfl, rfl, rfl, by decide +kernel, rfl, by decide +kernel, by decide +kernel⟩

abbrev s_cost_of : Stmt := topS 5
abbrev N_cost_of : List Str := ["exchange", "each", "begin", "end", "new"]
abbrev P_cost_of : List Str := ["exchange", "each"]
theorem sc_cost_of : FnScope N_cost_of P_cost_of (defScope s_cost_of) :=
  ⟨rfl, rfl, rfl, by decide +kernel, rfl, by decide +kernel, by decide +kernel⟩

abbrev s_single : Stmt := topS 6
abbrev N_single : List Str := ["one", "other", "found", "begin", "end", "behind", "cost", "new"]
abbrev P_single : List Str := ["one", "other"]
theorem sc_single : FnScope N_single P_single (defScope s_single) :=
  ⟨rfl, rfl, rfl, by decide +kernel, rfl, by decide +kernel, by decide +kernel⟩

abbrev s_thin : Stmt := topS 7
abbrev N_thin : List Str := ["text", "begin", "end", "new"]
abbrev P_thin : List Str := ["text", "begin", "end", "new"]
theorem sc_thin : FnScope N_thin P_thin (defScope s_thin) :=
  ⟨rfl, rfl, rfl, by decide +kernel, rfl, by decide +kernel, by decide +kernel⟩

abbrev s_thinned : Stmt := topS 8
abbrev N_thinned : List Str := ["text", "exchange", "begin", "end", "new"]
abbrev P_thinned : List Str := ["text", "exchange"]
theorem sc_thinned : FnScope N_thinned P_thinned (defScope s_thinned) :=
  ⟨rfl, rfl, rfl, by decide +kernel, rfl, by decide +kernel, by decide +kernel⟩

abbrev s_L_pen : Stmt := topS 10
abbrev N_L_pen : List Str := ["_law_script"]
abbrev P_L_pen : List Str := ["_law_script"]
theorem sc_L_pen : FnScope N_L_pen P_L_pen (defScope s_L_pen) :=
  ⟨rfl, rfl, rfl, by decide +kernel, rfl, by decide +kernel, by decide +kernel⟩

abbrev s_L_draw : Stmt := topS 11
abbrev N_L_draw : List Str := ["_law_pen_here", "_law_many", "_law_digit", "_law_turn", "_law_cell", "_law_primes", "_law_prime", "_law_drawn"]
abbrev P_L_draw : List Str := ["_law_pen_here", "_law_many"]
theorem sc_L_draw : FnScope N_L_draw P_L_draw (defScope s_L_draw) :=
  ⟨rfl, rfl, rfl, by decide +kernel, rfl, by decide +kernel, by decide +kernel⟩

abbrev s_L_pick : Stmt := topS 12
abbrev N_L_pick : List Str := ["_law_pen_here", "_law_options"]
abbrev P_L_pick : List Str := ["_law_pen_here", "_law_options"]
theorem sc_L_pick : FnScope N_L_pick P_L_pick (defScope s_L_pick) :=
  ⟨rfl, rfl, rfl, by decide +kernel, rfl, by decide +kernel, by decide +kernel⟩

abbrev s_L_signs : Stmt := topS 13
abbrev N_L_signs : List Str := []
abbrev P_L_signs : List Str := []
theorem sc_L_signs : FnScope N_L_signs P_L_signs (defScope s_L_signs) :=
  ⟨rfl, rfl, rfl, by decide +kernel, rfl, by decide +kernel, by decide +kernel⟩

abbrev s_L_few : Stmt := topS 14
abbrev N_L_few : List Str := ["_law_pen_here", "_law_some", "_law_rare", "_law_k"]
abbrev P_L_few : List Str := ["_law_pen_here"]
theorem sc_L_few : FnScope N_L_few P_L_few (defScope s_L_few) :=
  ⟨rfl, rfl, rfl, by decide +kernel, rfl, by decide +kernel, by decide +kernel⟩

abbrev s_L_word : Stmt := topS 15
abbrev N_L_word : List Str := ["_law_pen_here", "_law_signs_here", "_law_least", "_law_most_letters", "_law_many", "_law_k"]
abbrev P_L_word : List Str := ["_law_pen_here", "_law_signs_here", "_law_least", "_law_most_letters"]
theorem sc_L_word : FnScope N_L_word P_L_word (defScope s_L_word) :=
  ⟨rfl, rfl, rfl, by decide +kernel, rfl, by decide +kernel, by decide +kernel⟩

abbrev s_L_places : Stmt := topS 16
abbrev N_L_places : List Str := ["_law_text_here", "_law_was", "_law_size", "_law_k"]
abbrev P_L_places : List Str := ["_law_text_here", "_law_was"]
theorem sc_L_places : FnScope N_L_places P_L_places (defScope s_L_places) :=
  ⟨rfl, rfl, rfl, by decide +kernel, rfl, by decide +kernel, by decide +kernel⟩

abbrev s_L_ntext : Stmt := topS 17
abbrev N_L_ntext : List Str := ["_law_pen_here", "_law_signs_here", "_law_most_letters", "_law_some", "_law_found", "_law_k"]
abbrev P_L_ntext : List Str := ["_law_pen_here", "_law_signs_here", "_law_most_letters"]
theorem sc_L_ntext : FnScope N_L_ntext P_L_ntext (defScope s_L_ntext) :=
  ⟨rfl, rfl, rfl, by decide +kernel, rfl, by decide +kernel, by decide +kernel⟩

abbrev s_L_nonce : Stmt := topS 18
abbrev N_L_nonce : List Str := ["_law_text_here", "_law_a", "_law_b"]
abbrev P_L_nonce : List Str := ["_law_text_here", "_law_a", "_law_b"]
theorem sc_L_nonce : FnScope N_L_nonce P_L_nonce (defScope s_L_nonce) :=
  ⟨rfl, rfl, rfl, by decide +kernel, rfl, by decide +kernel, by decide +kernel⟩

abbrev s_L_naround : Stmt := topS 19
abbrev N_L_naround : List Str := ["_law_text_here", "_law_a", "_law_b", "_law_found", "_law_k", "_law_tip"]
abbrev P_L_naround : List Str := ["_law_text_here", "_law_a", "_law_b"]
theorem sc_L_naround : FnScope N_L_naround P_L_naround (defScope s_L_naround) :=
  ⟨rfl, rfl, rfl, by decide +kernel, rfl, by decide +kernel, by decide +kernel⟩

abbrev s_L_nput : Stmt := topS 20
abbrev N_L_nput : List Str := ["_law_text_here", "_law_rows", "_law_found", "_law_behind", "_law_a", "_law_b", "_law_fresh"]
abbrev P_L_nput : List Str := ["_law_text_here", "_law_rows"]
theorem sc_L_nput : FnScope N_L_nput P_L_nput (defScope s_L_nput) :=
  ⟨rfl, rfl, rfl, by decide +kernel, rfl, by decide +kernel, by decide +kernel⟩

abbrev s_L_ndrawn : Stmt := topS 21
abbrev N_L_ndrawn : List Str := ["_law_pen_here", "_law_text_here", "_law_signs_here", "_law_rows", "_law_behind", "_law_k", "_law_spans", "_law_a", "_law_b", "_law_same", "_law_some", "_law_span"]
abbrev P_L_ndrawn : List Str := ["_law_pen_here", "_law_text_here", "_law_signs_here"]
theorem sc_L_ndrawn : FnScope N_L_ndrawn P_L_ndrawn (defScope s_L_ndrawn) :=
  ⟨rfl, rfl, rfl, by decide +kernel, rfl, by decide +kernel, by decide +kernel⟩

abbrev s_L_nsingle : Stmt := topS 22
abbrev N_L_nsingle : List Str := ["_law_left", "_law_right", "_law_found", "_law_a", "_law_b", "_law_rest"]
abbrev P_L_nsingle : List Str := ["_law_left", "_law_right"]
theorem sc_L_nsingle : FnScope N_L_nsingle P_L_nsingle (defScope s_L_nsingle) :=
  ⟨rfl, rfl, rfl, by decide +kernel, rfl, by decide +kernel, by decide +kernel⟩

abbrev s_L_nthin : Stmt := topS 23
abbrev N_L_nthin : List Str := ["_law_here", "_law_a", "_law_b", "_law_fresh"]
abbrev P_L_nthin : List Str := ["_law_here", "_law_a", "_law_b", "_law_fresh"]
theorem sc_L_nthin : FnScope N_L_nthin P_L_nthin (defScope s_L_nthin) :=
  ⟨rfl, rfl, rfl, by decide +kernel, rfl, by decide +kernel, by decide +kernel⟩

abbrev s_law : Stmt := topS 24
abbrev N_law : List Str := ["_law_script", "_law_pen_here", "_law_turn", "_law_signs_here", "_law_here", "_law_at", "_law_away", "_law_rows", "_law_due", "_law_told", "_law_a", "_law_b", "_law_fresh"]
abbrev P_law : List Str := ["_law_script"]
theorem sc_law : FnScope N_law P_law (defScope s_law) :=
  ⟨rfl, rfl, rfl, by decide +kernel, rfl, by decide +kernel, by decide +kernel⟩

end Law
namespace Law
open PySem PySem.Spec PyProof.Rows L2 AB
section
variable {P : Program} {w : World} {K : PySem.W.Frag} {mg : Str → Option Value} {base : Heap} {f : Addr} {fd : FuncData}
theorem ok_L_draw (X_L_draw : FX K mg "_law_draw" s_L_draw P_L_draw f fd) (B : Bt mg) :
    FnOk P w K mg base CX0 1 f fd P_L_draw spDraw := by
  refine X_L_draw.F.ok sc_L_draw (fun vs H Q E h => ?_) (fun cdv A outer s H vs Q E hr h => ?_)
  · obtain ⟨p, c, n, m, rfl, _⟩ := h
    rfl
  obtain ⟨p, c, n, m, rfl, hp, hn, m0, m1, q⟩ := h
  obtain ⟨t, l, xs, e, ec, lx, t0, t1, l0⟩ := hp.ex
  refine ⟨_, (pss_cons (ps_if (pt_cmpR op_gt (pe_dget (hu_of hr) (pv 0) pe_str (fun _ _ => rfl)) pe_int (nomark _))
  (pss_cons (ps_set (i := 2) sc_L_draw.nd rfl (.inl rfl) (pe_op op_mod (pe_callTy call_int1 (by rfl) B.b_int (by decide +kernel) (pa_cons (pe_dget (hu_of hr) (pv 0) pe_str (fun _ _ => rfl)) pa_nil)) (pv 1)))
  (pss_cons (ps_dput (hu_of hr) (pv 0) pe_str (pe_op op_fdiv (pe_dget (hu_of hr) (pv 0) pe_str (fun _ _ => rfl)) (pv 1)) rfl)
  (pss_one (ps_ret (pv 2)))))
  pss_nil)
  (pss_cons (ps_set (i := 3) sc_L_draw.nd rfl (.inl rfl) (pe_dget (hu_of hr) (pv 0) pe_str (fun _ _ => rfl)))
  (pss_cons (ps_dput (hu_of hr) (pv 0) pe_str (pe_op op_add (pv 3) pe_int) rfl)
  (pss_cons (ps_set (i := 4) sc_L_draw.nd rfl (.inl rfl) (pe_op op_add (pe_op op_mul pe_int (pv 3)) pe_int))
  (C8.pss_cut (ps_if (pt_cmpR (neK_D (K := K) rfl hr.units) (pe_dget (hu_of hr) (pv 0) pe_str (fun _ _ => rfl)) (pe_lst pa_nil) (nomark _))
  (pss_one (ps_set (i := 4) sc_L_draw.nd rfl (.inl rfl) (pe_ix (ixK_list (K := K) rfl) (pe_dget (hu_of hr) (pv 0) pe_str (fun _ _ => rfl)) (pe_op op_mod (pe_callTy call_int1 (by rfl) B.b_int (by decide +kernel) (pa_cons (pv 3) pa_nil)) (pe_callB (lenK (K := K) rfl) (by rfl) B.b_len (by decide +kernel) (pa_cons (pe_dget (hu_of hr) (pv 0) pe_str (fun _ _ => rfl)) pa_nil))) (fun _ _ => rfl))))
  pss_nil)
  (C8.pss_cut (ps_if (PW.pt (pw_and (pt_cmpR op_lt (pv 3) (pe_callB (lenK (K := K) rfl) (by rfl) B.b_len (by decide +kernel) (pa_cons (pe_dget (hu_of hr) (pv 0) pe_str (fun _ _ => rfl)) pa_nil)) (nomark _)) (pw_and1 (pt_cmpR op_ge (pe_callB call_abs (by rfl) B.b_abs (by decide +kernel) (pa_cons (pv 4) pa_nil)) (pe_op op_pow pe_int pe_int) (nomark _)))))
  (pss_cons (ps_dput (hu_of hr) (pv 0) pe_str (pe_op op_fdiv (pe_op op_sub (pe_callB call_abs (by rfl) B.b_abs (by decide +kernel) (pa_cons (pv 4) pa_nil)) (pe_op op_pow pe_int pe_int)) (pv 1)) rfl)
  (pss_one (ps_ret (pe_op op_mod (pe_op op_sub (pe_callB call_abs (by rfl) B.b_abs (by decide +kernel) (pa_cons (pv 4) pa_nil)) (pe_op op_pow pe_int pe_int)) (pv 1)))))
  pss_nil)
  (pss_cons (ps_set (i := 5) sc_L_draw.nd rfl (.inl rfl) (pe_lst (pa_cons pe_int (pa_cons pe_int (pa_cons pe_int (pa_cons pe_int (pa_cons pe_int pa_nil)))))))
  (pss_cons (ps_set (i := 6) sc_L_draw.nd rfl (.inl rfl) (pe_ix (ixK_list (K := K) rfl) (pv 5) (pe_op op_mod (pe_callTy call_int1 (by rfl) B.b_int (by decide +kernel) (pa_cons (pv 3) pa_nil)) pe_int) (fun _ _ => rfl)))
  (pss_cons (ps_set (i := 7) sc_L_draw.nd rfl (.inl rfl) (pe_op op_mod (pe_callTy call_int1 (by rfl) B.b_int (by decide +kernel) (pa_cons (pe_op op_add (pe_op op_add (pe_op op_mul (pe_op op_mod (pe_callTy call_int1 (by rfl) B.b_int (by decide +kernel) (pa_cons (pv 4) pa_nil)) (pv 6)) pe_int) (pe_op op_mul (pv 3) (pe_op op_add (pe_op op_mul pe_int (pv 3)) pe_int))) pe_int) pa_nil)) (pv 6)))
  (pss_cons (ps_set (i := 7) sc_L_draw.nd rfl (.inl rfl) (pe_op op_mod (pe_callTy call_int1 (by rfl) B.b_int (by decide +kernel) (pa_cons (pe_op op_mul (pv 7) (pe_op op_add (pv 7) pe_int)) pa_nil)) (pe_ix (ixK_list (K := K) rfl) (pv 5) (pe_op op_mod (pe_callTy call_int1 (by rfl) B.b_int (by decide +kernel) (pa_cons (pe_op op_add (pv 3) pe_int) pa_nil)) pe_int) (fun _ _ => rfl))))
  (pss_one (ps_ret (pe_op op_mod (pe_callTy call_int1 (by rfl) B.b_int (by decide +kernel) (pa_cons (pe_op op_fdiv (pe_op op_mod (pe_callTy call_int1 (by rfl) B.b_int (by decide +kernel) (pa_cons (pe_op op_add (pe_op op_add (pe_op op_mul (pv 7) (pv 7)) (pe_op op_mul pe_int (pv 7))) (pv 3)) pa_nil)) pe_int) pe_int) pa_nil)) (pv 1)))))))))))))), ?_⟩
  -- if pen['left'] > 0
  refine ⟨_, rfl, p, _, rfl, pen_left e, l, 0, rfl, rfl, _, rfl, ite2 (fun c1 => ?_) (fun c1 => ?_)⟩
  · -- the next digit of a large cell
    refine ⟨_, rfl, p, _, rfl, pen_left e, .inl ⟨_, rfl, _, rfl, _, _, rfl, rfl, m0, ?_⟩⟩
    refine ⟨_, rfl, p, _, rfl, pen_left e, _, rfl, _, _, rfl, rfl, ⟨m0, m1⟩, _, rfl, p, _, rfl, put_left e _, _, rfl, ?_⟩
    refine q _ _ (Int.emod_nonneg _ (by omega)) (Int.emod_lt_of_pos _ m0) Keep.put ?_
    exact ⟨t, _, xs, upd_same, by rw [upd_ne (pen_ne e ec)]; exact ec, lx, t0, by omega, Int.ediv_nonneg l0 (by omega)⟩
  · -- turn = pen['turn']; pen['turn'] = turn + 1; cell = 43 * turn + 19
    refine ⟨_, rfl, p, _, rfl, pen_turn e, ?_⟩
    refine ⟨_, rfl, _, _, rfl, rfl, _, rfl, p, _, rfl, put_turn e _, ?_⟩
    refine ⟨_, rfl, _, _, rfl, rfl, .inl ⟨by decide, by decide⟩, _, _, rfl, rfl, ?_⟩
    have e1 : upd H p (penD c (t + 1) l) p = some (penD c (t + 1) l) := upd_same
    have ec1 : upd H p (penD c (t + 1) l) c = some (.lst (xs.map V.int)) := by rw [upd_ne (pen_ne e ec)]; exact ec
    have k1 : Keep p H (upd H p (penD c (t + 1) l)) := Keep.put
    revert e1 ec1 k1
    generalize upd H p (penD c (t + 1) l) = H1
    intro e1 ec1 k1
    -- if pen['cells'] != []: a cell is there
    refine ⟨fun σ' H' => ∃ y : Int, σ' = [some (.ref p), some (.int m), none, some (.int t), some (.int y), none, none, none] ∧
      H' p = some (penD c (t + 1) l) ∧ H' c = some (.lst (xs.map V.int)) ∧ Keep p H H', ?_, ?_⟩
    · refine ⟨_, rfl, p, _, rfl, pen_cells e1, Nat.zero_le _, fun z nz => ?_⟩
      have e2 : upd H1 z (.lst []) p = some (penD c (t + 1) l) := by rw [upd_ne (ne_of_none e1 nz)]; exact e1
      have ec2 : upd H1 z (.lst []) c = some (.lst (xs.map V.int)) := by rw [upd_ne (ne_of_none ec1 nz)]; exact ec1
      have k2 : Keep p H (upd H1 z (.lst [])) := k1.trans (Keep.new nz)
      have ez : upd H1 z (.lst []) z = some (.lst []) := upd_same
      refine ⟨.list (xs.map .int), .list [], .lst (SqL.of ec2) (dp_ints xs), .lst (SqL.of ez) .nil, shaped_ints xs, by decide, _, rfl, ?_⟩
      refine ite2 (fun c2 => ?_) (fun c2 => ⟨_, rfl, e2, ec2, k2⟩)
      have hx : xs ≠ [] := fun z => by subst z; exact absurd c2 (by decide)
      have lp : 0 < xs.length := List.length_pos_iff.mpr hx
      obtain ⟨y, hy⟩ := ints_at (ns := xs) (i := t) (by omega)
      exact ⟨_, rfl, p, _, rfl, pen_cells e2, _, rfl, .inl ⟨_, rfl, _, rfl, p, _, rfl, pen_cells e2, _, _, rfl, .inl ⟨_, SqL.of ec2, rfl⟩, _, _, rfl, rfl,
        by rw [List.length_map]; omega, c, _, _, _, rfl, rfl, SqL.of ec2, hy, ⟨y, rfl, e2, ec2, k2⟩⟩⟩
    · rintro σ' H' ⟨y, rfl, e3, ec3, k3⟩
      -- if turn < len(pen['cells']) and abs(cell) >= 10 ** 18
      refine ⟨fun σ' H' => σ' = [some (.ref p), some (.int m), none, some (.int t), some (.int y), none, none, none] ∧
        H' p = some (penD c (t + 1) l) ∧ H' c = some (.lst (xs.map V.int)) ∧ Keep p H H', ?_, ?_⟩
      · refine ⟨_, rfl, _, rfl, p, _, rfl, pen_cells e3, _, _, rfl, .inl ⟨_, SqL.of ec3, rfl⟩, _, _, rfl, rfl, _, rfl, ?_⟩
        refine ite2 (fun _ => ?_) (fun _ => iteF ⟨rfl, e3, ec3, k3⟩)
        refine ⟨_, rfl, _, rfl, _, _, rfl, rfl, ⟨by decide, by decide, by decide⟩, _, _, rfl, rfl, _, rfl, ?_⟩
        refine ite2 (fun c3 => ?_) (fun _ => ⟨rfl, e3, ec3, k3⟩)
        refine ⟨_, rfl, _, rfl, _, _, rfl, rfl, ⟨by decide, by decide, by decide⟩, _, _, rfl, rfl, _, rfl, _, _, rfl, rfl, ⟨m0, m1⟩, _, rfl, p, _, rfl, put_left e3 _, ?_⟩
        refine ⟨_, rfl, _, rfl, _, _, rfl, rfl, ⟨by decide, by decide, by decide⟩, _, _, rfl, rfl, _, rfl, _, _, rfl, rfl, m0, ?_⟩
        have c4 := of_decide_eq_true c3
        refine q _ _ (Int.emod_nonneg _ (by omega)) (Int.emod_lt_of_pos _ m0) (k3.trans Keep.put) ?_
        exact ⟨t + 1, _, xs, upd_same, by rw [upd_ne (pen_ne e3 ec3)]; exact ec3, lx, by omega, by omega, Int.ediv_nonneg (by omega) (by omega)⟩
      · rintro σ' H4 ⟨rfl, e4, ec4, k4⟩
        -- primes
        refine ⟨by show 5 ≤ sizeLine; decide, fun z nz => ?_⟩
        have e5 : upd H4 z (.lst (primesL.map V.int)) p = some (penD c (t + 1) l) := by rw [upd_ne (ne_of_none e4 nz)]; exact e4
        have ec5 : upd H4 z (.lst (primesL.map V.int)) c = some (.lst (xs.map V.int)) := by rw [upd_ne (ne_of_none ec4 nz)]; exact ec4
        have k5 : Keep p H (upd H4 z (.lst (primesL.map V.int))) := k4.trans (Keep.new nz)
        have ez : upd H4 z (.lst (primesL.map V.int)) z = some (.lst (primesL.map V.int)) := upd_same
        show tSeq _ _ _ _ (upd H4 z (.lst (primesL.map V.int)))
        revert e5 ec5 k5 ez
        generalize upd H4 z (.lst (primesL.map V.int)) = H5
        intro e5 ec5 k5 ez
        obtain ⟨r1, hr1, r10, r11⟩ := prime_at t
        obtain ⟨r2, hr2, r20, r21⟩ := prime_at (t + 2)
        have p5 : (0 : Int) < 5 := by decide
        refine ⟨_, rfl, _, rfl, .inl ⟨_, rfl, _, _, rfl, rfl, p5, z, _, _, _, rfl, rfl, SqL.of ez, hr1, ?_⟩⟩
        -- drawn = ..
        refine ⟨_, rfl, .inl ⟨_, rfl, _, rfl, _, _, rfl, rfl, r10, _, _, rfl, rfl, .inr ⟨by decide, by decide⟩, _, rfl, _, rfl, _, _, rfl, rfl, .inl ⟨by decide, by decide⟩, _, _, rfl, rfl, _, _, rfl, rfl, .inl ⟨by omega, by omega⟩,
          _, _, rfl, rfl, _, _, rfl, rfl, .inl ⟨_, rfl, _, rfl, _, _, rfl, rfl, r10, ?_⟩⟩⟩
        have b1 : 0 ≤ (y % r1 * 39373 + t * (30011 * t + 8117) + 23) % r1 ∧ (y % r1 * 39373 + t * (30011 * t + 8117) + 23) % r1 < r1 :=
          ⟨Int.emod_nonneg _ (by omega), Int.emod_lt_of_pos _ r10⟩
        show gName 7 (V.int ((y % r1 * 39373 + t * (30011 * t + 8117) + 23) % r1)) _ _ _
        revert b1
        generalize (y % r1 * 39373 + t * (30011 * t + 8117) + 23) % r1 = d1
        rintro ⟨d10, d11⟩
        refine ⟨_, rfl, _, rfl, _, _, rfl, rfl, _, _, rfl, rfl, .inl ⟨by omega, by omega⟩, .inl ⟨_, rfl, _, rfl, _, rfl, _, _, rfl, rfl, .inl ⟨_, rfl, _, _, rfl, rfl, p5, z, _, _, _, rfl, rfl, SqL.of ez, hr2,
          _, _, rfl, rfl, r20, ?_⟩⟩⟩
        have b2 : 0 ≤ (d1 * (d1 + 69621)) % r2 ∧ (d1 * (d1 + 69621)) % r2 < r2 :=
          ⟨Int.emod_nonneg _ (by omega), Int.emod_lt_of_pos _ r20⟩
        show gName 7 (V.int ((d1 * (d1 + 69621)) % r2)) _ _ _
        revert b2
        generalize (d1 * (d1 + 69621)) % r2 = d2
        rintro ⟨d20, d21⟩
        have p6 : (0 : Int) < 2147483549 := by decide
        have p7 : CDiv ((d2 * d2 + 16807 * d2 + t) % 2147483549) 64 := ⟨by decide, by decide⟩
        refine ⟨_, rfl, _, rfl, _, _, rfl, rfl, .inl ⟨by omega, by omega⟩, _, rfl, _, _, rfl, rfl, .inl ⟨by decide, by decide⟩, _, _, rfl, rfl, _, rfl, _, _, rfl, rfl, .inl ⟨_, rfl, _, _, rfl, rfl, p6, _, _, rfl, rfl, p7,
          .inl ⟨_, rfl, _, rfl, _, _, rfl, rfl, m0, ?_⟩⟩⟩
        refine q _ _ (Int.emod_nonneg _ (by omega)) (Int.emod_lt_of_pos _ m0) k5 ?_
        exact ⟨t + 1, l, xs, e5, ec5, lx, by omega, by omega, l0⟩
end
end Law
namespace Law
open PySem PySem.Spec PyProof.Rows L2 AB
open TL (tl)
section
variable {P : Program} {w : World} {K : PySem.W.Frag} {mg : Str → Option Value} {base : Heap} {f : Addr} {fd : FuncData}

theorem ok_L_pen (X_L_pen : FX K mg "_law_pen" s_L_pen P_L_pen f fd) (B : Bt mg) :
    FnOk P w K mg base CX0 1 f fd P_L_pen (spPen K) := by
  refine X_L_pen.F.ok sc_L_pen (fun vs H Q E h => ?_) (fun cdv A outer s H vs Q E hr h => ?_)
  · obtain ⟨a, ns, rfl, _⟩ := h
    rfl
  obtain ⟨a, ns, rfl, hS, hl, q⟩ := h
  refine ⟨_, (pss_one (ps_ret (pe_disp (pps_cons pe_str (pe_callTy (listK_of (K := K) rfl) (by rfl) B.b_list (by decide +kernel) (pa_cons (pe_slice (slK_list (K := K) rfl) (pv 0) po_none (po_some pe_int)) pa_nil)) (pps_cons pe_str pe_int (pps_cons pe_str pe_int pps_nil))) (by rfl) (by rfl) (fun z => by cases z) (by decide)))), ?_⟩
  intro p np
  have s1 : Same H (upd H p (.dK [])) := same_new np
  refine ⟨.ref a, rfl, 63, rfl, a, _, rfl, s1.seq hS, fun c nc => ?_⟩
  refine ⟨c, _, rfl, .inl (SqL.of upd_same), fun d nd => ?_⟩
  have nc' : c ≠ p := fun z => by subst z; rw [upd_same] at nc; cases nc
  have e1 : upd (upd H p (.dK [])) c (.lst (cutV (ns.map V.int) none (some 63))) p = some (.dK []) := by rw [upd_ne nc'.symm, upd_same]
  have np' : d ≠ p := (ne_of_none e1 nd).symm
  have e2 : cutV (ns.map V.int) none (some 63) = ns.map V.int := cutV_whole (n := 63) (by rw [List.length_map]; exact hl)
  refine ⟨?_, penL d, rfl, show 3 ≤ 15 by decide, ?_⟩
  · rw [upd_ne np'.symm]
    exact e1
  rw [pen_merge]
  refine q _ p d ?_ np ?_
  · intro b o e
    have nb : b ≠ p := ne_of_none e np
    have h1 := s1 _ _ e
    have h2 := same_new (o := .lst (cutV (ns.map V.int) none (some 63))) nc _ _ h1
    rw [upd_ne nb]
    exact same_new nd _ _ h2
  · refine ⟨0, 0, ns, upd_same, ?_, hl, Int.le_refl _, Int.le_refl _, Int.le_refl _⟩
    rw [upd_ne np', upd_same, e2]

theorem ok_L_pick {f1 : Addr} {fd1 : FuncData} (X_L_pick : FX K mg "_law_pick" s_L_pick P_L_pick f fd)
    (X_L_draw : FX K mg "_law_draw" s_L_draw P_L_draw f1 fd1) (B : Bt mg) :
    FnOk P w K mg base CX0 2 f fd P_L_pick (spPick K) := by
  have G_L_draw : FnOk P w K mg base CX0 1 f1 fd1 P_L_draw spDraw := ok_L_draw X_L_draw B
  refine X_L_pick.F.ok sc_L_pick (fun vs H Q E h => ?_) (fun cdv A outer s H vs Q E hr h => ?_)
  · obtain ⟨p, c, n, o, rfl, _⟩ := h
    rfl
  obtain ⟨p, c, n, o, rfl, hp, hn, h⟩ := h
  refine ⟨_, (pss_one (ps_ret (pe_ix (ixK_seq (K := K) rfl) (pv 1) (pe_call G_L_draw (hr.mono (by decide)) (by rfl) X_L_draw.g X_L_draw.F.kp X_L_draw.b .nil pass0 (pa_cons (pv 0) (pa_cons (pe_callB (lenK (K := K) rfl) (by rfl) B.b_len (by decide +kernel) (pa_cons (pv 1) pa_nil)) pa_nil))) (fun _ _ => rfl)))), ?_⟩
  rcases h with ⟨z, rfl, z0, z1, q⟩ | ⟨a, xs, rfl, hS, x0, x1, q⟩
  · refine ⟨_, rfl, _, rfl, _, rfl, _, z.length, rfl, ⟨Nat.le_trans z1 (by decide), rfl⟩, p, c, n, z.length, rfl, hp, hn, by omega, by omega, fun H' i i0 i1 k hp' => ?_⟩
    obtain ⟨j, rfl⟩ : ∃ j : Nat, i = (j : Int) := ⟨i.toNat, by omega⟩
    have lj : j < z.cps.toList.length := by rw [len_toList]; omega
    have ej := List.getElem?_eq_getElem lj
    exact .inr (.inr ⟨z, j, _, rfl, rfl, Nat.le_trans z1 (by decide), atI_nat ej, q H' j _ ej k hp'⟩)
  · have lp := List.length_pos_iff.mpr x0
    refine ⟨_, rfl, _, rfl, _, rfl, _, xs.length, rfl, .inl ⟨xs, hS, rfl⟩, p, c, n, xs.length, rfl, hp, hn, by omega, by omega, fun H' i i0 i1 k hp' => ?_⟩
    obtain ⟨j, rfl⟩ : ∃ j : Nat, i = (j : Int) := ⟨i.toNat, by omega⟩
    have lj : j < xs.length := by omega
    have ej := List.getElem?_eq_getElem lj
    exact .inl ⟨a, xs, j, _, rfl, rfl, hp.sqL k hS, atI_nat ej, q H' j _ ej k hp'⟩

theorem td_L_signs (X_L_signs : FX K mg "_law_signs" s_L_signs P_L_signs f fd) : TextDef P w K mg base f lettersS :=
  textDef X_L_signs.F sc_L_signs rfl X_L_signs.b

theorem ok_L_word {f1 f2 : Addr} {fd1 fd2 : FuncData} (X_L_word : FX K mg "_law_word" s_L_word P_L_word f fd)
    (X_L_draw : FX K mg "_law_draw" s_L_draw P_L_draw f1 fd1) (X_L_pick : FX K mg "_law_pick" s_L_pick P_L_pick f2 fd2) (B : Bt mg) :
    FnOk P w K mg base CX0 3 f fd P_L_word spWord := by
  have G_L_draw : FnOk P w K mg base CX0 1 f1 fd1 P_L_draw spDraw := ok_L_draw X_L_draw B
  have G_L_pick : FnOk P w K mg base CX0 2 f2 fd2 P_L_pick (spPick K) := ok_L_pick X_L_pick X_L_draw B
  refine X_L_word.F.ok sc_L_word (fun vs H Q E h => ?_) (fun cdv A outer s H vs Q E hr h => ?_)
  · obtain ⟨p, c, n, z, a, b, rfl, _⟩ := h
    rfl
  obtain ⟨p, c, n, z, a, b, rfl, hp, z0, z1, ab, b1, nb, q⟩ := h
  refine ⟨_, (pss_cons (ps_set (i := 4) sc_L_word.nd rfl (.inl rfl) (pe_op op_add (pv 2) (pe_call G_L_draw (hr.mono (by decide)) (by rfl) X_L_draw.g X_L_draw.F.kp X_L_draw.b .nil pass0 (pa_cons (pv 0) (pa_cons (pe_op op_add (pe_op op_sub (pv 3) (pv 2)) pe_int) pa_nil)))))
  (pss_one (ps_ret (pe_join pe_str (pe_lc (own := [("_law_k", 5)]) (g := gName 5) (tt := tYes) (by rfl) sc_L_word.nd (pi_range1 (by rfl) B.b_range (pa_cons (pv 4) pa_nil)) (blkOk_by (own := [("_law_k", 5)]) (N := N_L_word) (sc := defScope s_L_word) (by decide +kernel)) (fun _ _ _ _ _ => (pg_name (i := 5) sc_L_word.nd rfl (.inl rfl))) (fun _ _ _ _ _ => pts_nil) (fun _ _ _ _ _ => (pe_call G_L_pick (hr.mono (by decide)) (by rfl) X_L_pick.g X_L_pick.F.kp X_L_pick.b .nil pass0 (pa_cons (pv 0) (pa_cons (pv 1) pa_nil))))))))), ?_⟩
  -- many = least + draw(pen, most - least + 1)
  refine ⟨_, rfl, _, rfl, _, rfl, _, rfl, _, _, rfl, rfl, _, _, rfl, rfl, p, c, n, _, rfl, hp, by omega, by omega, by omega, fun H1 i i0 i1 k1 hp1 => ?_⟩
  obtain ⟨j, rfl⟩ : ∃ j : Nat, i = (j : Int) := ⟨i.toNat, by omega⟩
  refine ⟨_, _, rfl, rfl, ⟨_, rfl⟩, _, rfl, (a : Int) + j, rfl, by omega, by omega, fun D nD => ?_⟩
  have hj : ((a : Int) + j).toNat = a + j := by omega
  have Dp := hp1.nep nD
  have Dc := hp1.nec nD
  have nD0 := k1.free Dp nD
  rw [hj]
  refine lc_range (lo := 0) (n := a + j) (fun i H2 => ∃ ys : List Str, H2 D = some (.lst (ys.map V.str)) ∧ ys.length = i ∧
      (∀ y ∈ ys, ∃ d ∈ tl z, y = ⟨#[d]⟩) ∧ Keep p H H2 ∧ Pen H2 p c (n + 1 + i)) ?_ ?_ ?_
  · exact ⟨[], upd_same, rfl, fun _ h => (nomatch h), k1.wr nD0, hp1.new nD⟩
  · rintro i H2 hi ⟨ys, eD, li, hy, k2, hp2⟩
    refine ⟨rfl, _, rfl, _, rfl, p, c, n + 1 + i, .str z, rfl, hp2, by omega, .inl ⟨z, rfl, z0, by omega, fun H3 m d hc k3 hp3 => ?_⟩⟩
    have eD3 := k3 _ _ (hp2.ne_lst eD) eD
    refine ⟨_, eD3, ?_, ys ++ [⟨#[d]⟩], ?_, ?_, ?_, (k2.trans k3).wr nD0, hp3.wr Dp Dc⟩
    · rw [List.length_map, li]
      exact Nat.lt_of_le_of_lt (show i ≤ 2000 by omega) (by decide)
    · rw [upd_same, List.map_append]
      rfl
    · rw [List.length_append, li]
      rfl
    · intro y hm
      rcases List.mem_append.mp hm with h | h
      · exact hy y h
      · exact ⟨d, List.mem_of_getElem? hc, List.mem_singleton.mp h⟩
  · rintro H2 ⟨ys, eD, li, hy, k2, hp2⟩
    have hs := ones_sum hy
    refine ⟨"", D, ys, rfl, rfl, .inl (SqL.of eD), ?_, q _ _ k2 (hp2.mono (by omega)) ?_ ?_ ?_⟩
    · rw [hs.1]
      show ys.length + ys.length * 0 ≤ 16777216
      omega
    · rw [hs.2.1]; omega
    · rw [hs.2.1]; omega
    · exact hs.2.2
end
end Law
namespace Law
open PySem PySem.Spec PyProof.Rows L2 AB
open TL (tl)
section
variable {P : Program} {w : World} {K : PySem.W.Frag} {mg : Str → Option Value} {base : Heap} {f : Addr} {fd : FuncData}
theorem ok_L_few {f1 f2 f3 : Addr} {fd1 fd2 fd3 : FuncData} (X_L_few : FX K mg "_law_few" s_L_few P_L_few f fd)
    (X_L_draw : FX K mg "_law_draw" s_L_draw P_L_draw f1 fd1) (X_L_pick : FX K mg "_law_pick" s_L_pick P_L_pick f2 fd2)
    (X_L_signs : FX K mg "_law_signs" s_L_signs P_L_signs f3 fd3) (B : Bt mg) :
    FnOk P w K mg base CX0 3 f fd P_L_few spFew := by
  have G_L_pick : FnOk P w K mg base CX0 2 f2 fd2 P_L_pick (spPick K) := ok_L_pick X_L_pick X_L_draw B
  have T_L_signs : TextDef P w K mg base f3 lettersS := td_L_signs X_L_signs
  refine X_L_few.F.ok sc_L_few (fun vs H Q E h => ?_) (fun cdv A outer s H vs Q E hr h => ?_)
  · obtain ⟨p, c, n, rfl, _⟩ := h
    rfl
  obtain ⟨p, c, n, rfl, hp, nb, q⟩ := h
  refine ⟨_, (pss_cons (ps_set (i := 1) sc_L_few.nd rfl (.inr rfl) (pe_lst (pa_cons (pe_call G_L_pick (hr.mono (by decide)) (by rfl) X_L_pick.g X_L_pick.F.kp X_L_pick.b .nil pass0 (pa_cons (pv 0) (pa_cons (pe_signsRep T_L_signs (hr.mono (by decide)) (by rfl) X_L_signs.g X_L_signs.F.kp (by decide +kernel) (by decide +kernel)) pa_nil))) (pa_cons (pe_call G_L_pick (hr.mono (by decide)) (by rfl) X_L_pick.g X_L_pick.F.kp X_L_pick.b .nil pass0 (pa_cons (pv 0) (pa_cons pe_str pa_nil))) (pa_cons (pe_call G_L_pick (hr.mono (by decide)) (by rfl) X_L_pick.g X_L_pick.F.kp X_L_pick.b .nil pass0 (pa_cons (pv 0) (pa_cons pe_str pa_nil))) pa_nil)))))
  (pss_cons (ps_set (i := 2) sc_L_few.nd rfl (.inl rfl) (pe_join pe_str (pe_lc (own := [("_law_k", 3)]) (g := gName 3)  (by rfl) sc_L_few.nd (pi_range1 (by rfl) B.b_range (pa_cons pe_int pa_nil)) (blkOk_by (own := [("_law_k", 3)]) (N := N_L_few) (sc := defScope s_L_few) (by decide +kernel)) (fun _ _ _ _ _ => (pg_name (i := 3) sc_L_few.nd rfl (.inl rfl))) (fun _ _ _ _ _ => (pts_one (pt_cmpR (notInK_seq (K := K) rfl) (pe_ix (ixK_list (K := K) rfl) (pv 1) (pv 3) (fun _ _ => rfl)) (pe_slice (slK_list (K := K) rfl) (pv 1) po_none (po_some (pv 3))) (by rfl)))) (fun _ _ _ _ _ => (pe_ix (ixK_list (K := K) rfl) (pv 1) (pv 3) (fun _ _ => rfl))))))
  (pss_one (ps_ret (pe_call G_L_pick (hr.mono (by decide)) (by rfl) X_L_pick.g X_L_pick.F.kp X_L_pick.b .nil pass0 (pa_cons (pv 0) (pa_cons (pe_lst (pa_cons pe_str (pa_cons pe_str (pa_cons pe_str (pa_cons pe_str (pa_cons pe_str (pa_cons pe_str (pa_cons pe_str (pa_cons pe_str (pa_cons pe_str (pa_cons (pv 2) pa_nil))))))))))) pa_nil))))))), ?_⟩
  obtain ⟨s0, s1, s2⟩ := signs94
  -- some = [..]
  refine ⟨_, rfl, p, c, n, _, rfl, hp, by omega, .inl ⟨_, rfl, s0, by omega, fun H1 i1 d1 hd1 k1 hp1 => ?_⟩⟩
  refine ⟨_, rfl, p, c, n + 1, _, rfl, hp1, by omega, .inl ⟨_, rfl, by decide +kernel, by decide +kernel, fun H2 i2 d2 hd2 k2 hp2 => ?_⟩⟩
  refine ⟨_, rfl, p, c, n + 1 + 1, _, rfl, hp2, by omega, .inl ⟨_, rfl, by decide +kernel, by decide +kernel, fun H3 i3 d3 hd3 k3 hp3 => ?_⟩⟩
  refine ⟨by show 3 ≤ sizeLine; decide, fun a na => ?_⟩
  have l1 : d1 ∈ tl lettersS := Lt.dec s2 _ (List.mem_of_getElem? hd1)
  have l2 : d2 ∈ tl lettersS := Lt.dec (z := "yz") (by decide +kernel) _ (List.mem_of_getElem? hd2)
  have l3 : d3 ∈ tl lettersS := Lt.dec (z := "(\n") (by decide +kernel) _ (List.mem_of_getElem? hd3)
  have kA : Keep p H (upd H3 a (.lst ([⟨#[d1]⟩, ⟨#[d2]⟩, ⟨#[d3]⟩].map V.str))) := ((k1.trans k2).trans k3).trans (Keep.new na)
  have eA : upd H3 a (.lst ([⟨#[d1]⟩, ⟨#[d2]⟩, ⟨#[d3]⟩].map V.str)) a = some (.lst ([⟨#[d1]⟩, ⟨#[d2]⟩, ⟨#[d3]⟩].map V.str)) := upd_same
  have hpA : Pen (upd H3 a (.lst ([⟨#[d1]⟩, ⟨#[d2]⟩, ⟨#[d3]⟩].map V.str))) p c (n + 1 + 1 + 1) := hp3.new na
  show tSeq _ _ _ _ (upd H3 a (.lst ([⟨#[d1]⟩, ⟨#[d2]⟩, ⟨#[d3]⟩].map V.str)))
  revert kA eA hpA
  generalize upd H3 a (.lst ([⟨#[d1]⟩, ⟨#[d2]⟩, ⟨#[d3]⟩].map V.str)) = H4
  intro kA eA hpA
  -- rare
  refine ⟨⟨_, rfl⟩, 3, rfl, by decide, by decide, fun D nD => ?_⟩
  refine lc_range (lo := 0) (n := 3) (fun i H5 => ∃ ys : List Str, H5 D = some (.lst (ys.map V.str)) ∧ ys.length ≤ i ∧ (0 < i → ys ≠ []) ∧
      (∀ y ∈ ys, ∃ d ∈ tl (sl [d1, d2, d3]), y = ⟨#[d]⟩) ∧ Same H4 H5) ?_ ?_ ?_
  · exact ⟨[], upd_same, Nat.le_refl _, fun h => absurd h (by decide), fun _ h => (nomatch h), same_new nD⟩
  · rintro i H5 hi ⟨ys, eD, li, ny, hy, s5⟩
    have ea5 := s5 _ _ eA
    have hd : ∃ d ∈ tl (sl [d1, d2, d3]), ([⟨#[d1]⟩, ⟨#[d2]⟩, ⟨#[d3]⟩].map V.str)[i]? = some (.str ⟨#[d]⟩) := by
      match i, hi with
      | 0, _ => exact ⟨d1, by simp [tl], rfl⟩
      | 1, _ => exact ⟨d2, by simp [tl], rfl⟩
      | 2, _ => exact ⟨d3, by simp [tl], rfl⟩
    obtain ⟨d, hdm, hd⟩ := hd
    have e0 : (0 : Int) + (i : Int) = (i : Int) := Int.zero_add _
    have hat : atI ([⟨#[d1]⟩, ⟨#[d2]⟩, ⟨#[d3]⟩].map V.str) ((0 : Int) + (i : Int)) = some (.str ⟨#[d]⟩) := by rw [e0]; exact atI_nat hd
    refine ⟨rfl, _, rfl, _, rfl, a, _, _, _, rfl, rfl, SqL.of ea5, hat, _, rfl, _, rfl, _, rfl, a, _, rfl, SqL.of ea5, fun s ns => ?_⟩
    refine ⟨s, _, rfl, .inl (SqL.of upd_same), rfl, ?_, _, rfl, ite2 (fun c1 => ?_) (fun c1 => ?_)⟩
    · rw [e0, cutV_to (by show i ≤ 3; omega), ← List.map_take]
      exact flat_strs _
    · have eD6 : upd H5 s (.lst (cutV ([⟨#[d1]⟩, ⟨#[d2]⟩, ⟨#[d3]⟩].map V.str) none (some (0 + (i : Int))))) D = some (.lst (ys.map V.str)) := by rw [upd_ne (ne_of_none eD ns)]; exact eD
      have ea6 : upd H5 s (.lst (cutV ([⟨#[d1]⟩, ⟨#[d2]⟩, ⟨#[d3]⟩].map V.str) none (some (0 + (i : Int))))) a = some (.lst ([⟨#[d1]⟩, ⟨#[d2]⟩, ⟨#[d3]⟩].map V.str)) := by rw [upd_ne (ne_of_none ea5 ns)]; exact ea5
      refine ⟨_, rfl, _, rfl, a, _, _, _, rfl, rfl, SqL.of ea6, hat, _, eD6, ?_, ys ++ [⟨#[d]⟩], ?_, ?_, ?_, ?_, ?_⟩
      · rw [List.length_map]
        exact Nat.lt_of_le_of_lt (show ys.length ≤ 3 by omega) (by decide)
      · rw [upd_same, List.map_append]
        rfl
      · rw [List.length_append]
        show ys.length + 1 ≤ i + 1
        omega
      · intro _ h
        simp at h
      · intro y hm
        rcases List.mem_append.mp hm with h | h
        · exact hy y h
        · exact ⟨d, hdm, List.mem_singleton.mp h⟩
      · exact AB.Same.wr (s5.trans (same_new ns)) nD
    · refine ⟨ys, by rw [upd_ne (ne_of_none eD ns)]; exact eD, by omega, fun _ => ?_, hy, s5.trans (same_new ns)⟩
      by_cases h0 : 0 < i
      · exact ny h0
      · exfalso
        apply c1
        have : i = 0 := by omega
        subst this
        rfl
  · rintro H5 ⟨ys, eD, li, ny, hy, s5⟩
    have hs := ones_sum hy
    have lys := List.length_pos_iff.mpr (ny (by decide))
    refine ⟨"", D, ys, rfl, rfl, .inl (SqL.of eD), ?_, ?_⟩
    · rw [hs.1]
      show ys.length + ys.length * 0 ≤ 16777216
      omega
    have lr : Lt (Txt.join "" ys) := fun x hx => by
      have := hs.2.2 x hx
      have h3 : x = d1 ∨ x = d2 ∨ x = d3 := by simpa [tl] using this
      rcases h3 with rfl | rfl | rfl
      · exact l1
      · exact l2
      · exact l3
    have l0 := hs.2.1
    revert lr l0
    generalize Txt.join "" ys = r
    intro lr l0
    refine ⟨_, rfl, _, rfl, by show 10 ≤ sizeLine; decide, fun l nl => ?_⟩
    refine ⟨p, c, n + 1 + 1 + 1, _, rfl, (hpA.same s5).new nl, by omega, .inr ⟨l, (fewL r).map V.str, rfl, SqL.of upd_same, by unfold fewL; simp, by show 10 ≤ 100000; decide, fun H' i v hv k hp' => ?_⟩⟩
    obtain ⟨y, hy, rfl⟩ := at_map_str hv
    obtain ⟨y1, y2, y3⟩ := fewL_ok (by omega) (by omega) lr y hy
    exact q H' y (((kA.trans (AB.Same.keep s5)).trans (Keep.new nl)).trans k) hp' y1 y2 y3
end
end Law
namespace Law
open PySem PySem.Spec PyProof.Rows L2 AB
open TL (tl)
section
variable {P : Program} {w : World} {K : PySem.W.Frag} {mg : Str → Option Value} {base : Heap} {f : Addr} {fd : FuncData}
theorem ok_L_ntext {f1 f2 f3 : Addr} {d1 d2 d3 : FuncData} (X_L_ntext : FX K mg "_law_ntext" s_L_ntext P_L_ntext f fd)
    (X_L_draw : FX K mg "_law_draw" s_L_draw P_L_draw f1 d1) (X_L_pick : FX K mg "_law_pick" s_L_pick P_L_pick f2 d2)
    (X_L_word : FX K mg "_law_word" s_L_word P_L_word f3 d3) (B : Bt mg) :
    FnOk P w K mg base CX0 4 f fd P_L_ntext spNtext := by
  have G_L_draw : FnOk P w K mg base CX0 1 f1 d1 P_L_draw spDraw := ok_L_draw X_L_draw B
  have G_L_pick : FnOk P w K mg base CX0 2 f2 d2 P_L_pick (spPick K) := ok_L_pick X_L_pick X_L_draw B
  have G_L_word : FnOk P w K mg base CX0 3 f3 d3 P_L_word spWord := ok_L_word X_L_word X_L_draw X_L_pick B
  refine X_L_ntext.F.ok sc_L_ntext (fun vs H Q E h => ?_) (fun cdv A outer s H vs Q E hr h => ?_)
  · obtain ⟨p, c, n, z, m, rfl, _⟩ := h
    rfl
  obtain ⟨p, c, n, z, m, rfl, hp, hn, z0, z1, hm, q⟩ := h
  refine ⟨_, (pss_cons (ps_par (i := 3) (j := 4) (by rfl) sc_L_ntext.nd rfl rfl (by decide) rfl rfl (pa_cons (pe_lst (pa_cons (pe_call G_L_word (hr.mono (by decide)) (by rfl) X_L_word.g X_L_word.F.kp X_L_word.b .nil pass0 (pa_cons (pv 0) (pa_cons (pv 1) (pa_cons pe_int (pa_cons pe_int pa_nil))))) (pa_cons (pe_call G_L_word (hr.mono (by decide)) (by rfl) X_L_word.g X_L_word.F.kp X_L_word.b .nil pass0 (pa_cons (pv 0) (pa_cons (pv 1) (pa_cons pe_int (pa_cons pe_int pa_nil))))) pa_nil))) (pa_cons pe_str pa_nil)) (by rfl))
  (pss_cons (ps_for PassesOwn.never rfl (pi_range1 (by rfl) B.b_range (pa_cons (pe_call G_L_draw (hr.mono (by decide)) (by rfl) X_L_draw.g X_L_draw.F.kp X_L_draw.b .nil pass0 (pa_cons (pv 0) (pa_cons pe_int pa_nil))) pa_nil)) (pg_name (i := 5) sc_L_ntext.nd rfl (.inl rfl))
  (pss_one (ps_set (i := 4) sc_L_ntext.nd rfl (.inl rfl) (pe_op op_add_str (pv 4) (pe_call G_L_pick (hr.mono (by decide)) (by rfl) X_L_pick.g X_L_pick.F.kp X_L_pick.b .nil pass0 (pa_cons (pv 0) (pa_cons (pe_op op_cat (pv 3) (pe_lst (pa_cons (pe_call G_L_pick (hr.mono (by decide)) (by rfl) X_L_pick.g X_L_pick.F.kp X_L_pick.b .nil pass0 (pa_cons (pv 0) (pa_cons (pv 1) pa_nil))) pa_nil))) pa_nil)))))))
  (pss_one (ps_ret (pe_slice sl_str (pv 4) po_none (po_some (pv 2))))))), ?_⟩
  refine ⟨_, rfl, _, rfl, p, c, n, z, 1, 4, rfl, hp, z0, z1, by omega, by omega, by omega, fun H1 w1 k1 hp1 a1 b1 m1 => ?_⟩
  refine ⟨_, rfl, _, rfl, p, c, _, z, 1, 3, rfl, hp1, z0, z1, by omega, by omega, by omega, fun H2 w2 k2 hp2 a2 b2 m2 => ?_⟩
  refine ⟨by show 2 ≤ sizeLine; decide, fun l nl => ⟨_, _, rfl, ?_⟩⟩
  have lp := hp2.nep nl
  have lc := hp2.nec nl
  have el : upd H2 l (.lst ([w1, w2].map V.str)) l = some (.lst ([w1, w2].map V.str)) := upd_same
  have hpl : Pen (upd H2 l (.lst ([w1, w2].map V.str))) p c _ := hp2.new nl
  have kl : Keep p H (upd H2 l (.lst ([w1, w2].map V.str))) := (k1.trans k2).trans (Keep.new nl)
  show tSeq _ _ _ _ (upd H2 l (.lst ([w1, w2].map V.str)))
  revert el hpl kl
  generalize upd H2 l (.lst ([w1, w2].map V.str)) = H3
  intro el hpl kl
  refine ⟨_, rfl, p, c, _, 9, rfl, hpl, by omega, by decide, by decide, fun H4 i i0 i1 k4 hp4 => ⟨i, rfl, by omega, by omega, ?_⟩⟩
  have el4 := k4 _ _ lp el
  obtain ⟨j, rfl⟩ : ∃ j : Nat, i = (j : Int) := ⟨i.toNat, by omega⟩
  have hj : ((j : Int)).toNat = j := by omega
  rw [hj]
  refine for_range (lo := 0) (n := j) (fun k σ H5 => ∃ g y5, σ = [some (.ref p), some (.str z), some (.int m), some (.ref l), some (.str g), y5] ∧ g.length ≤ 4 * k ∧
      (∀ d ∈ tl g, d ∈ tl z) ∧ H5 l = some (.lst ([w1, w2].map V.str)) ∧ Keep p H H5 ∧ Pen H5 p c (n + 10 + 2 * k)) ?_ ?_ ?_
  · exact ⟨"", none, rfl, Nat.zero_le _, fun d hd => (by cases hd), el4, kl.trans k4, hp4.mono (by omega)⟩
  · rintro k σ H5 hk ⟨g, y5, rfl, hg, hgz, el5, k5, hp5⟩
    refine ⟨_, rfl, _, rfl, _, rfl, _, rfl, _, rfl, p, c, _, .str z, rfl, hp5, by omega, .inl ⟨z, rfl, z0, by omega, fun H6 i6 d hd k6 hp6 => ?_⟩⟩
    have el6 := k6 _ _ lp el5
    refine ⟨by show 1 ≤ sizeLine; decide, fun q1 nq => ?_⟩
    have el7 : upd H6 q1 (.lst [V.str ⟨#[d]⟩]) l = some (.lst ([w1, w2].map V.str)) := same_new nq _ _ el6
    refine ⟨l, q1, _, _, rfl, rfl, el7, upd_same, by show 3 ≤ sizeLine; decide, fun r nr => ?_⟩
    have el8 := same_new (o := .lst ([w1, w2].map V.str ++ [V.str ⟨#[d]⟩])) nr _ _ el7
    refine ⟨p, c, _, .ref r, rfl, (hp6.new nq).new nr, by omega, .inr ⟨r, [w1, w2, ⟨#[d]⟩].map V.str, rfl, SqL.of upd_same, by simp, by show 3 ≤ 100000; decide, fun H9 i9 v hv k9 hp9 => ?_⟩⟩
    obtain ⟨y, hy, rfl⟩ := at_map_str hv
    have hyz : y.length ≤ 4 ∧ ∀ e ∈ tl y, e ∈ tl z := by
      simp only [List.mem_cons, List.not_mem_nil, or_false] at hy
      rcases hy with rfl | rfl | rfl
      · exact ⟨b1, m1⟩
      · exact ⟨by omega, m2⟩
      · refine ⟨by show 1 ≤ 4; decide, fun e he => ?_⟩
        have : e = d := by simpa using he
        subst this
        exact List.mem_of_getElem? hd
    have gl : (g ++ y).length = g.length + y.length := by rw [TL.len_tl, TL.tl_append, List.length_append, ← TL.len_tl, ← TL.len_tl]
    refine ⟨g, y, rfl, rfl, Nat.le_trans (show g.length + y.length ≤ 1000 by omega) (by decide), ?_⟩
    refine ⟨g ++ y, _, rfl, by omega, ?_, k9 _ _ lp el8, ((((k5.trans k6).trans (Keep.new nq)).trans (Keep.new nr)).trans k9), hp9.mono (by omega)⟩
    intro e he
    rw [TL.tl_append] at he
    exact (List.mem_append.mp he).elim (hgz e) (hyz.2 e)
  · rintro σ H5 ⟨g, y5, rfl, hg, hgz, el5, k5, hp5⟩
    refine ⟨_, rfl, _, rfl, _, rfl, g, rfl, Nat.le_trans (show g.length ≤ 1000 by omega) (by decide), ?_⟩
    refine q _ _ k5 (hp5.mono (by omega)) ?_ ?_
    · rw [TL.len_tl]
      show ((g.cps.toList.drop _).take (HT.sIx g.length g.length (some (m : Int)) - HT.sIx g.length 0 none)).length ≤ m
      rw [HT.sIx_nat, HT.sIx_none, List.length_take]
      omega
    · intro e he
      exact hgz e (List.mem_of_mem_drop (List.mem_of_mem_take he))
end
end Law
namespace Law
open PySem PySem.Spec PyProof.Rows L2 AB
open TL (tl)
section
variable {P : Program} {w : World} {K : PySem.W.Frag} {mg : Str → Option Value} {base : Heap} {f : Addr} {fd : FuncData}
theorem ok_places (X_places : FX K mg "places" s_places P_places f fd) (B : Bt mg) :
    FnOk P w K mg base CX0 1 f fd P_places spPlaces := by
  refine X_places.F.ok sc_places (fun vs H Q E h => ?_) (fun cdv A outer s H vs Q E hr h => ?_)
  · obtain ⟨t, u, rfl, _⟩ := h
    rfl
  obtain ⟨t, u, rfl, lt, u0, u1, q⟩ := h
  have hu := tl_ne u0
  have ht := TL.len_tl t
  refine ⟨_, (pss_cons (ps_par (i := 2) (j := 3) (by rfl) sc_places.nd rfl rfl (by decide) rfl rfl (pa_cons (pe_lst pa_nil) (pa_cons (pe_bm PySem.F.plainAttrs_str PySem.F.slot_str_find PySem.F.type_str_find mt_find (pv 0) (pa_cons (pv 1) pa_nil)) pa_nil)) (by rfl))
  (pss_cons (ps_while PassesOwn.never (pt_cmpR op_ge (pv 3) pe_int (nomark _))
  (pss_cons (ps_expr (pe_bm PySem.F.plainAttrs_list PySem.F.slot_list_append PySem.F.type_list_append mt_append (pv 2) (pa_cons (pv 3) pa_nil)))
  (pss_one (ps_set (i := 3) sc_places.nd rfl (.inl rfl) (pe_bm PySem.F.plainAttrs_str PySem.F.slot_str_find PySem.F.type_str_find mt_find3 (pv 0) (pa_cons (pv 1) (pa_cons (pe_op op_add (pv 3) pe_int) pa_nil)))))))
  (pss_one (ps_ret (pv 2))))), ?_⟩
  refine ⟨Nat.zero_le _, fun o no => ⟨_, rfl, rfl, _, rfl, _, _, rfl, rfl, _, _, rfl, ?_⟩⟩
  have s0 : Same H (upd H o (.lst [])) := same_new no
  refine ⟨fun m σ' H' => ∃ place : Int, σ' = [some (.str t), some (.str u), some (.ref o), some (.int place)] ∧ Same H H' ∧
      ((place = -1 ∧ H' o = some (.lst (nVs (plc (tl t) (tl u))))) ∨
        ∃ k : Nat, place = k ∧ isAt (tl t) (tl u) k = true ∧ H' o = some (.lst (nVs (plcN (tl t) (tl u) k))) ∧ m = t.length + 1 - k), ?_, ?_⟩
  · rcases find_from (x := t) hu 0 with ⟨a, b⟩ | ⟨k, r, a, b, c, d⟩
    · refine ⟨0, -1, ?_, s0, .inl ⟨rfl, ?_⟩⟩
      · show [_, _, _, some (V.int (Txt.find t u))] = _
        unfold Txt.find
        rw [a]
      · rw [upd_same]
        unfold plc
        rw [plcN_skip' (a := 0) (Nat.zero_le _) fun j h1 _ => b j h1]
        rfl
    · refine ⟨t.length + 1 - k, (k : Int), ?_, s0, .inr ⟨k, rfl, c, ?_, rfl⟩⟩
      · show [_, _, _, some (V.int (Txt.find t u))] = _
        unfold Txt.find
        rw [a]
      · rw [upd_same, plcN_skip' (a := 0) (Nat.zero_le _) fun j h1 h2 => d j h1 h2]
        rfl
  · rintro m σ' H' ⟨place, rfl, s1, hW⟩
    refine ⟨_, rfl, _, _, rfl, rfl, _, rfl, ?_⟩
    rcases hW with ⟨rfl, eo⟩ | ⟨k, rfl, hk, eo, rfl⟩
    · exact ⟨_, rfl, q H' o s1 no eo⟩
    · have hkl := isAt_le hu hk
      have lk := plcN_len (tl t) (tl u) k
      rw [show decide ((0 : Int) ≤ (k : Int)) = true from decide_eq_true (by omega)]
      refine ⟨_, fun _ _ h => h, ?_⟩
      refine ⟨_, rfl, .inl ⟨rfl, _, SqL.of eo⟩, _, rfl, o, _, _, rfl, rfl, eo, ?_, ?_⟩
      · rw [nVs_len]
        exact Nat.lt_of_le_of_lt (show _ ≤ 100001 by omega) (by decide)
      refine ⟨_, rfl, rfl, _, rfl, _, rfl, _, _, rfl, rfl, _, _, _, rfl, rfl, ?_⟩
      have s2 : Same H (upd H' o (.lst (nVs (plcN (tl t) (tl u) k) ++ [V.int (k : Int)]))) := AB.Same.wr s1 no
      have e1 : nVs (plcN (tl t) (tl u) k) ++ [V.int (k : Int)] = nVs (plcN (tl t) (tl u) (k + 1)) := by
        rw [plcN_succ, if_pos hk, nVs_app]
      have e2 : ((k : Int) + 1) = ((k + 1 : Nat) : Int) := by omega
      rcases find_from (x := t) hu (k + 1) with ⟨a, b⟩ | ⟨j, r, a, b, c, d⟩
      · refine ⟨0, by omega, -1, ?_, s2, .inl ⟨rfl, ?_⟩⟩
        · show [_, _, _, some (V.int (Txt.find3 t u ((k : Int) + 1)))] = _
          rw [e2, find3_nat, a]
        · rw [upd_same, e1]
          unfold plc
          rw [plcN_skip' (a := k + 1) (b := (tl t).length + 1) (by omega) fun j h1 _ => b j h1]
      · have := isAt_le hu c
        refine ⟨t.length + 1 - j, by omega, (j : Int), ?_, s2, .inr ⟨j, rfl, c, ?_, rfl⟩⟩
        · show [_, _, _, some (V.int (Txt.find3 t u ((k : Int) + 1)))] = _
          rw [e2, find3_nat, a]
        · rw [upd_same, e1, plcN_skip' (a := k + 1) (b := j) (by omega) fun i h1 h2 => d i h1 h2]
end
end Law
namespace Law
open PySem PySem.Spec PyProof.Rows L2 AB
open TL (tl)
section
variable {P : Program} {w : World} {K : PySem.W.Frag} {mg : Str → Option Value} {base : Heap} {f : Addr} {fd : FuncData}
theorem ok_L_places (X_L_places : FX K mg "_law_places" s_L_places P_L_places f fd) (B : Bt mg) :
    FnOk P w K mg base CX0 1 f fd P_L_places spPlaces := by
  refine X_L_places.F.ok sc_L_places (fun vs H Q E h => ?_) (fun cdv A outer s H vs Q E hr h => ?_)
  · obtain ⟨t, u, rfl, _⟩ := h
    rfl
  obtain ⟨t, u, rfl, lt, u0, u1, q⟩ := h
  have hu := tl_ne u0
  have ht := TL.len_tl t
  have hul := TL.len_tl u
  have big : 100000 ≤ sizeLine := by decide
  refine ⟨_, (pss_cons (ps_set (i := 2) sc_L_places.nd rfl (.inr rfl) (pe_callB (lenK (K := K) rfl) (by rfl) B.b_len (by decide +kernel) (pa_cons (pv 1) pa_nil)))
  (pss_one (ps_ret (pe_lc (own := [("_law_k", 3)]) (g := gName 3)  (by rfl) sc_L_places.nd (pi_range1 (by rfl) B.b_range (pa_cons (pe_op op_add (pe_op op_sub (pe_callB (lenK (K := K) rfl) (by rfl) B.b_len (by decide +kernel) (pa_cons (pv 0) pa_nil)) (pv 2)) pe_int) pa_nil)) (blkOk_by (own := [("_law_k", 3)]) (N := N_L_places) (sc := defScope s_L_places) (by decide +kernel)) (fun _ _ _ _ _ => (pg_name (i := 3) sc_L_places.nd rfl (.inl rfl))) (fun _ _ _ _ _ => (pts_one (pt_cmpR op_eq (pe_slice sl_str (pv 0) (po_some (pv 3)) (po_some (pe_op op_add (pv 3) (pv 2)))) (pv 1) (nomark _)))) (fun _ _ _ _ _ => (pv 3)))))), ?_⟩
  refine ⟨_, rfl, _, _, rfl, ⟨Nat.le_trans u1 big, rfl⟩, ?_⟩
  refine ⟨_, rfl, _, _, rfl, ⟨Nat.le_trans lt big, rfl⟩, _, rfl, _, _, rfl, rfl, _, _, rfl, rfl, (t.length : Int) - u.length + 1, rfl, by omega, by omega, fun D nD => ?_⟩
  have hn : ((t.length : Int) - u.length + 1).toNat = t.length + 1 - u.length := by omega
  rw [hn]
  refine lc_range (lo := 0) (n := t.length + 1 - u.length) (fun i H2 => H2 D = some (.lst (nVs (plcN (tl t) (tl u) i))) ∧ Same H H2) ?_ ?_ ?_
  · exact ⟨upd_same, same_new nD⟩
  · rintro i H2 hi ⟨eD, s2⟩
    have lk := plcN_len (tl t) (tl u) i
    refine ⟨rfl, _, rfl, _, rfl, _, rfl, _, rfl, _, rfl, _, _, rfl, rfl, _, rfl, t, rfl, Nat.le_trans lt big, _, rfl, rfl, _, rfl, ?_⟩
    have e := cut_isAt (z := t) (y := u) i
    rw [Int.zero_add, e]
    refine ite2 (fun c1 => ?_) (fun c1 => ?_)
    · refine ⟨_, rfl, _, eD, ?_, ?_, AB.Same.wr s2 nD⟩
      · rw [nVs_len]
        exact Nat.lt_of_le_of_lt (show _ ≤ 100001 by omega) (by decide)
      · rw [upd_same, plcN_succ, if_pos c1, nVs_app]
    · refine ⟨?_, s2⟩
      rw [plcN_succ, if_neg c1, List.append_nil]
      exact eD
  · rintro H2 ⟨eD, s2⟩
    rw [plcN_end (by rw [← ht, ← hul]; exact Nat.le_refl _) hu] at eD
    exact q H2 D s2 nD eD
end
end Law
namespace Law
open PySem PySem.Spec PyProof.Rows L2 AB
open TL (tl)
section
variable {P : Program} {w : World} {K : PySem.W.Frag} {mg : Str → Option Value} {base : Heap} {f : Addr} {fd : FuncData}
theorem ok_stands_once {f1 : Addr} {d1 : FuncData} (X_stands_once : FX K mg "stands_once" s_stands_once P_stands_once f fd) (X_places : FX K mg "places" s_places P_places f1 d1) (B : Bt mg) :
    FnOk P w K mg base CX0 2 f fd P_stands_once spOnce := by
  have G_places : FnOk P w K mg base CX0 1 f1 d1 P_places spPlaces := ok_places X_places B
  refine X_stands_once.F.ok sc_stands_once (fun vs H Q E h => ?_) (fun cdv A outer s H vs Q E hr h => ?_)
  · obtain ⟨t, a, b, x, y, rfl, _⟩ := h
    rfl
  obtain ⟨t, a, b, x, y, rfl, rfl, rfl, lt, hab, hb, q⟩ := h
  have ht := TL.len_tl t
  have tb : t.length ≤ sizeLine := Nat.le_trans lt (by decide)
  have cl := cutS_length t (some (a : Int)) (some (b : Int))
  have c0 : 0 < (cutS t (some (a : Int)) (some (b : Int))).length := by
    rw [TL.len_tl, tl_cutS, List.length_take, List.length_drop]
    omega
  refine ⟨_, (pss_one (ps_ret (pe_cmpR op_eq (pe_callB (lenK (K := K) rfl) (by rfl) B.b_len (by decide +kernel) (pa_cons (pe_call G_places (hr.mono (by decide)) (by rfl) X_places.g X_places.F.kp X_places.b .nil pass0 (pa_cons (pv 0) (pa_cons (pe_slice sl_str (pv 0) (po_some (pv 1)) (po_some (pv 2))) pa_nil))) pa_nil)) pe_int (nomark _)))), ?_⟩
  refine ⟨_, rfl, _, rfl, _, rfl, _, rfl, _, rfl, _, rfl, t, rfl, tb, t, _, rfl, by omega, c0, by omega, fun H1 p s1 np ep => ?_⟩
  refine ⟨_, _, rfl, .inl ⟨_, SqL.of ep, rfl⟩, rfl, ?_⟩
  have e : decide (V.int ((nVs (plc (tl t) (tl (cutS t (some (a : Int)) (some (b : Int)))))).length : Nat) = V.int 1) = once (tl t) a b := by
    rw [nVs_len, tl_cutS]
    exact dec_nat (n := 1)
  rw [e]
  exact q H1 s1
theorem ok_L_nonce {f1 : Addr} {d1 : FuncData} (X_L_nonce : FX K mg "_law_nonce" s_L_nonce P_L_nonce f fd) (X_L_places : FX K mg "_law_places" s_L_places P_L_places f1 d1) (B : Bt mg) :
    FnOk P w K mg base CX0 2 f fd P_L_nonce spOnce := by
  have G_L_places : FnOk P w K mg base CX0 1 f1 d1 P_L_places spPlaces := ok_L_places X_L_places B
  refine X_L_nonce.F.ok sc_L_nonce (fun vs H Q E h => ?_) (fun cdv A outer s H vs Q E hr h => ?_)
  · obtain ⟨t, a, b, x, y, rfl, _⟩ := h
    rfl
  obtain ⟨t, a, b, x, y, rfl, rfl, rfl, lt, hab, hb, q⟩ := h
  have ht := TL.len_tl t
  have tb : t.length ≤ sizeLine := Nat.le_trans lt (by decide)
  have cl := cutS_length t (some (a : Int)) (some (b : Int))
  have c0 : 0 < (cutS t (some (a : Int)) (some (b : Int))).length := by
    rw [TL.len_tl, tl_cutS, List.length_take, List.length_drop]
    omega
  refine ⟨_, (pss_one (ps_ret (pe_and (pe_cmpR op_lt (pv 1) (pv 2) (nomark _)) (pe_one (pe_cmpR op_eq (pe_callB (lenK (K := K) rfl) (by rfl) B.b_len (by decide +kernel) (pa_cons (pe_call G_L_places (hr.mono (by decide)) (by rfl) X_L_places.g X_L_places.F.kp X_L_places.b .nil pass0 (pa_cons (pv 0) (pa_cons (pe_slice sl_str (pv 0) (po_some (pv 1)) (po_some (pv 2))) pa_nil))) pa_nil)) pe_int (nomark _)))))), ?_⟩
  refine ⟨_, rfl, _, rfl, _, _, rfl, rfl, true, congrArg V.bl (decide_eq_true (by omega)), ?_⟩
  refine ⟨_, rfl, _, rfl, _, rfl, _, rfl, _, rfl, _, rfl, t, rfl, tb, t, _, rfl, by omega, c0, by omega, fun H1 p s1 np ep => ?_⟩
  refine ⟨_, _, rfl, .inl ⟨_, SqL.of ep, rfl⟩, rfl, ?_⟩
  have e : decide (V.int ((nVs (plc (tl t) (tl (cutS t (some (a : Int)) (some (b : Int)))))).length : Nat) = V.int 1) = once (tl t) a b := by
    rw [nVs_len, tl_cutS]
    exact dec_nat (n := 1)
  rw [e]
  exact q H1 s1
theorem ok_thin {f1 f2 : Addr} {d1 d2 : FuncData} (X_thin : FX K mg "thin" s_thin P_thin f fd) (X_stands_once : FX K mg "stands_once" s_stands_once P_stands_once f1 d1) (X_places : FX K mg "places" s_places P_places f2 d2) (B : Bt mg) :
    FnOk P w K mg base CX0 3 f fd P_thin spThin := by
  have G_stands_once : FnOk P w K mg base CX0 2 f1 d1 P_stands_once spOnce := ok_stands_once X_stands_once X_places B
  refine X_thin.F.ok sc_thin (fun vs H Q E h => ?_) (fun cdv A outer s H vs Q E hr h => ?_)
  · obtain ⟨t, g, a, b, rfl, _⟩ := h
    rfl
  obtain ⟨t, g, a, b, rfl, lt, lg, hab, hbt, q⟩ := h
  have ht := TL.len_tl t
  have tb : t.length ≤ sizeLine := Nat.le_trans lt (by decide)
  refine ⟨_, (C8.pss_cut (ps_while PassesOwn.never (PW.pt (pw_and (pt_cmpR op_ne (pv 3) pe_str (nomark _)) (pw_and (pt_cmpR op_gt (pe_op op_sub (pv 2) (pv 1)) pe_int (nomark _)) (pw_and (pt_cmpR op_eq (pe_ix ix_str (pv 0) (pe_op op_sub (pv 2) pe_int) (fun _ _ => rfl)) (pe_ix ix_str (pv 3) (pe_un un_neg pe_int) (fun _ _ => rfl)) (nomark _)) (pw_and1 (pt_val (pe_call G_stands_once (hr.mono (by decide)) (by rfl) X_stands_once.g X_stands_once.F.kp X_stands_once.b .nil pass0 (pa_cons (pv 0) (pa_cons (pv 1) (pa_cons (pe_op op_sub (pv 2) pe_int) pa_nil))))))))))
  (pss_one (ps_par (i := 2) (j := 3) (by rfl) sc_thin.nd rfl rfl (by decide) rfl rfl (pa_cons (pe_op op_sub (pv 2) pe_int) (pa_cons (pe_slice sl_str (pv 3) po_none (po_some (pe_un un_neg pe_int))) pa_nil)) (by rfl))))
  (C8.pss_cut (ps_while PassesOwn.never (PW.pt (pw_and (pt_cmpR op_ne (pv 3) pe_str (nomark _)) (pw_and (pt_cmpR op_gt (pe_op op_sub (pv 2) (pv 1)) pe_int (nomark _)) (pw_and (pt_cmpR op_eq (pe_ix ix_str (pv 0) (pv 1) (fun _ _ => rfl)) (pe_ix ix_str (pv 3) pe_int (fun _ _ => rfl)) (nomark _)) (pw_and1 (pt_val (pe_call G_stands_once (hr.mono (by decide)) (by rfl) X_stands_once.g X_stands_once.F.kp X_stands_once.b .nil pass0 (pa_cons (pv 0) (pa_cons (pe_op op_add (pv 1) pe_int) (pa_cons (pv 2) pa_nil))))))))))
  (pss_one (ps_par (i := 1) (j := 3) (by rfl) sc_thin.nd rfl rfl (by decide) rfl rfl (pa_cons (pe_op op_add (pv 1) pe_int) (pa_cons (pe_slice sl_str (pv 3) (po_some pe_int) po_none) pa_nil)) (by rfl))))
  (pss_one (ps_ret (pe_tup (pa_cons (pv 1) (pa_cons (pv 2) (pa_cons (pv 3) pa_nil)))))))), ?_⟩
  refine ⟨fun σ' H' => ∃ (b' : Nat) (g' : Str), σ' = [some (.str t), some (.int (a : Nat)), some (.int (b' : Nat)), some (.str g')] ∧ Same H H' ∧ a < b' ∧ b' ≤ b ∧ g'.length ≤ g.length ∧ (b', tl g') = thinE (tl t) (a, b, tl g), ?_, ?_⟩
  · refine ⟨fun m σ' H' => ∃ (b' : Nat) (g' : Str), σ' = [some (.str t), some (.int (a : Nat)), some (.int (b' : Nat)), some (.str g')] ∧ Same H H' ∧ a < b' ∧ b' ≤ b ∧ g'.length ≤ g.length ∧ m = g'.length ∧ endT (tl t) a (tl g').length b' (tl g') = thinE (tl t) (a, b, tl g), ?_, ?_⟩
    · exact ⟨_, b, g, rfl, Same.refl H, hab, Nat.le_refl _, Nat.le_refl _, rfl, rfl⟩
    rintro m σ' H' ⟨b', g', rfl, s', h1, h2, h3, rfl, hE⟩
    have hg' := TL.len_tl g'
    have gb : g'.length ≤ sizeLine := Nat.le_trans (show g'.length ≤ 1000 by omega) (by decide)
    have out : endC (tl t) a b' (tl g') = false → ∃ (b'' : Nat) (g'' : Str), [some (V.str t), some (.int (a : Nat)), some (.int (b' : Nat)), some (.str g')] = [some (V.str t), some (.int (a : Nat)), some (.int (b'' : Nat)), some (.str g'')] ∧ Same H H' ∧ a < b'' ∧ b'' ≤ b ∧ g''.length ≤ g.length ∧ (b'', tl g'') = thinE (tl t) (a, b, tl g) := fun e =>
      ⟨b', g', rfl, s', h1, h2, h3, by rw [← hE, endT_stop e]⟩
    refine ⟨_, rfl, rfl, _, congrArg V.bl ne_empty, ite2 (fun c1 => ?_) (fun c1 => ?_)⟩
    · have g0 : 0 < g'.length := of_decide_eq_true c1
      refine ⟨_, rfl, _, rfl, _, _, rfl, rfl, _, _, rfl, rfl, _, rfl, ite2 (fun c2 => ?_) (fun c2 => ?_)⟩
      · have hba : 1 < b' - a := by
          have := of_decide_eq_true c2
          omega
        have e1 : ((b' : Nat) : Int) - 1 = ((b' - 1 : Nat) : Int) := by omega
        have hc : (tl t)[b' - 1]? = some ((tl t)[b' - 1]'(by omega)) := List.getElem?_eq_getElem (by omega)
        have hd : (tl g')[(tl g').length - 1]? = some ((tl g')[(tl g').length - 1]'(by omega)) := List.getElem?_eq_getElem (by omega)
        have hd2 : (tl g').getLast? = some ((tl g')[(tl g').length - 1]'(by omega)) := by rw [List.getLast?_eq_getElem?]; exact hd
        revert hc hd hd2
        generalize (tl t)[b' - 1]'(by omega) = c
        generalize (tl g')[(tl g').length - 1]'(by omega) = d
        intro hc hd hd2
        refine ⟨_, rfl, _, rfl, _, _, rfl, rfl, t, _, c, rfl, rfl, tb, (by rw [e1]; exact atI_nat hc), _, rfl, 1, rfl, g', -1, d, rfl, rfl, gb, atI_lastN (xs := tl g') hd (by omega), rfl, _, congrArg V.bl eq_sign, ite2 (fun c3 => ?_) (fun c3 => ?_)⟩
        · have ecd : c = d := of_decide_eq_true c3
          refine ⟨_, rfl, _, rfl, _, rfl, _, _, rfl, rfl, t, a, b' - 1, _, _, rfl, rfl, e1, lt, by omega, by omega, fun H2 s2 => ⟨_, rfl, ite2 (fun c4 => ?_) (fun c4 => ?_)⟩⟩
          · have hC : endC (tl t) a b' (tl g') = true := by
              unfold endC
              rw [hc, hd2, c4, ecd, decide_eq_true (show 0 < (tl g').length by omega), decide_eq_true hba, decide_eq_true rfl]
              rfl
            refine ⟨_, fun _ _ h => h, ?_⟩
            refine ⟨_, rfl, _, _, rfl, rfl, _, rfl, 1, rfl, _, rfl, g', rfl, gb, _, _, rfl, ?_⟩
            refine ⟨(cutS g' none (some (-1))).length, ?_, b' - 1, cutS g' none (some (-1)), ?_, s'.trans s2, by omega, by omega, ?_, rfl, ?_⟩
            · rw [TL.len_tl, tl_cutInit, List.length_dropLast]
              omega
            · show [_, _, some (V.int (((b' : Nat) : Int) - 1)), _] = _
              rw [e1]
            · rw [TL.len_tl, tl_cutInit, List.length_dropLast]
              omega
            · rw [tl_cutInit, ← endT_go hC]
              exact hE
          · have := out (by unfold endC; rw [Bool.not_eq_true] at c4; rw [c4]; simp)
            obtain ⟨b'', g'', e, _, r⟩ := this
            exact ⟨b'', g'', e, s'.trans s2, r⟩
        · refine out ?_
          unfold endC
          rw [hc, hd2]
          have : ¬ c = d := fun e => c3 (decide_eq_true e)
          simp [this]
      · refine out ?_
        unfold endC
        have : ¬ 1 < b' - a := fun e => c2 (decide_eq_true (by omega))
        simp [this]
    · refine out ?_
      unfold endC
      have : ¬ 0 < (tl g').length := fun e => c1 (decide_eq_true (by omega))
      rw [decide_eq_false this]
      rfl
  rintro σ' H1 ⟨b', g', rfl, s1, h1, h2, h3, hE⟩
  refine ⟨fun σ' H' => ∃ (a' : Nat) (g2 : Str), σ' = [some (.str t), some (.int (a' : Nat)), some (.int (b' : Nat)), some (.str g2)] ∧ Same H H' ∧ (a', tl g2) = begT (tl t) b' (tl g').length a (tl g'), ?_, ?_⟩
  · refine ⟨fun m σ' H' => ∃ (a' : Nat) (g2 : Str), σ' = [some (.str t), some (.int (a' : Nat)), some (.int (b' : Nat)), some (.str g2)] ∧ Same H H' ∧ a' < b' ∧ g2.length ≤ g.length ∧ m = g2.length ∧ begT (tl t) b' (tl g2).length a' (tl g2) = begT (tl t) b' (tl g').length a (tl g'), ?_, ?_⟩
    · exact ⟨_, a, g', rfl, s1, h1, h3, rfl, rfl⟩
    rintro m σ' H' ⟨a', g2, rfl, s', k1, k3, rfl, hE2⟩
    have hg2 := TL.len_tl g2
    have gb : g2.length ≤ sizeLine := Nat.le_trans (show g2.length ≤ 1000 by omega) (by decide)
    have out : begC (tl t) a' b' (tl g2) = false → ∃ (a'' : Nat) (g'' : Str), [some (V.str t), some (.int (a' : Nat)), some (.int (b' : Nat)), some (.str g2)] = [some (V.str t), some (.int (a'' : Nat)), some (.int (b' : Nat)), some (.str g'')] ∧ Same H H' ∧ (a'', tl g'') = begT (tl t) b' (tl g').length a (tl g') := fun e =>
      ⟨a', g2, rfl, s', by rw [← hE2, begT_stop e]⟩
    refine ⟨_, rfl, rfl, _, congrArg V.bl ne_empty, ite2 (fun c1 => ?_) (fun c1 => ?_)⟩
    · have g0 : 0 < g2.length := of_decide_eq_true c1
      refine ⟨_, rfl, _, rfl, _, _, rfl, rfl, _, _, rfl, rfl, _, rfl, ite2 (fun c2 => ?_) (fun c2 => ?_)⟩
      · have hba : 1 < b' - a' := by
          have := of_decide_eq_true c2
          omega
        have e1 : ((a' : Nat) : Int) + 1 = ((a' + 1 : Nat) : Int) := by omega
        have hc : (tl t)[a']? = some ((tl t)[a']'(by omega)) := List.getElem?_eq_getElem (by omega)
        have hd : (tl g2)[0]? = some ((tl g2)[0]'(by omega)) := List.getElem?_eq_getElem (by omega)
        have hd2 : (tl g2).head? = some ((tl g2)[0]'(by omega)) := by rw [List.head?_eq_getElem?]; exact hd
        revert hc hd hd2
        generalize (tl t)[a']'(by omega) = c
        generalize (tl g2)[0]'(by omega) = d
        intro hc hd hd2
        refine ⟨_, rfl, _, rfl, t, _, c, rfl, rfl, tb, atI_nat hc, _, rfl, g2, _, d, rfl, rfl, gb, atI_nat (j := 0) hd, rfl, _, congrArg V.bl eq_sign, ite2 (fun c3 => ?_) (fun c3 => ?_)⟩
        · have ecd : c = d := of_decide_eq_true c3
          refine ⟨_, rfl, _, rfl, _, _, rfl, rfl, _, rfl, t, a' + 1, b', _, _, rfl, e1, rfl, lt, by omega, by omega, fun H2 s2 => ⟨_, rfl, ite2 (fun c4 => ?_) (fun c4 => ?_)⟩⟩
          · have hC : begC (tl t) a' b' (tl g2) = true := by
              unfold begC
              rw [hc, hd2, c4, ecd, decide_eq_true (show 0 < (tl g2).length by omega), decide_eq_true hba, decide_eq_true rfl]
              rfl
            refine ⟨_, fun _ _ h => h, ?_⟩
            refine ⟨_, rfl, _, _, rfl, rfl, _, rfl, _, rfl, g2, rfl, gb, _, _, rfl, ?_⟩
            refine ⟨(cutS g2 (some 1) none).length, ?_, a' + 1, cutS g2 (some 1) none, ?_, s'.trans s2, by omega, ?_, rfl, ?_⟩
            · rw [TL.len_tl, tl_cutTail, List.length_tail]
              omega
            · show [_, some (V.int (((a' : Nat) : Int) + 1)), _, _] = _
              rw [e1]
            · rw [TL.len_tl, tl_cutTail, List.length_tail]
              omega
            · rw [tl_cutTail, ← begT_go hC]
              exact hE2
          · have := out (by unfold begC; rw [Bool.not_eq_true] at c4; rw [c4]; simp)
            obtain ⟨a'', g'', e, _, r⟩ := this
            exact ⟨a'', g'', e, s'.trans s2, r⟩
        · refine out ?_
          unfold begC
          rw [hc, hd2]
          have : ¬ c = d := fun e => c3 (decide_eq_true e)
          simp [this]
      · refine out ?_
        unfold begC
        have : ¬ 1 < b' - a' := fun e => c2 (decide_eq_true (by omega))
        simp [this]
    · refine out ?_
      unfold begC
      have : ¬ 0 < (tl g2).length := fun e => c1 (decide_eq_true (by omega))
      rw [decide_eq_false this]
      rfl
  rintro σ' H2 ⟨a', g2, rfl, s2, hE2⟩
  refine ⟨_, rfl, _, rfl, _, rfl, by show 3 ≤ sizeLine; decide, fun p np => ?_⟩
  refine q _ p (s2.trans (same_new np)) (s2.free np) ?_
  rw [upd_same]
  have hf : thinF (tl t) (a, b, tl g) = (a', b', tl g2) := by
    unfold thinF
    rw [← hE]
    show ((begT (tl t) b' (tl g').length a (tl g')).1, b', (begT (tl t) b' (tl g').length a (tl g')).2) = _
    rw [← hE2]
  rw [hf]
  show _ = some (HO.tup [_, _, V.str (sl (tl g2))])
  rw [sl_tl]
theorem ok_L_nthin {f1 f2 : Addr} {d1 d2 : FuncData} (X_L_nthin : FX K mg "_law_nthin" s_L_nthin P_L_nthin f fd) (X_L_nonce : FX K mg "_law_nonce" s_L_nonce P_L_nonce f1 d1) (X_L_places : FX K mg "_law_places" s_L_places P_L_places f2 d2) (B : Bt mg) :
    FnOk P w K mg base CX0 3 f fd P_L_nthin spThin := by
  have G_L_nonce : FnOk P w K mg base CX0 2 f1 d1 P_L_nonce spOnce := ok_L_nonce X_L_nonce X_L_places B
  refine X_L_nthin.F.ok sc_L_nthin (fun vs H Q E h => ?_) (fun cdv A outer s H vs Q E hr h => ?_)
  · obtain ⟨t, g, a, b, rfl, _⟩ := h
    rfl
  obtain ⟨t, g, a, b, rfl, lt, lg, hab, hbt, q⟩ := h
  have ht := TL.len_tl t
  have tb : t.length ≤ sizeLine := Nat.le_trans lt (by decide)
  refine ⟨_, (C8.pss_cut (ps_while PassesOwn.never (PW.pt (pw_and (pt_cmpR op_ne (pv 3) pe_str (nomark _)) (pw_and (pt_cmpR op_gt (pe_op op_sub (pv 2) (pv 1)) pe_int (nomark _)) (pw_and (pt_cmpR op_eq (pe_ix ix_str (pv 0) (pe_op op_sub (pv 2) pe_int) (fun _ _ => rfl)) (pe_ix ix_str (pv 3) (pe_un un_neg pe_int) (fun _ _ => rfl)) (nomark _)) (pw_and1 (pt_val (pe_call G_L_nonce (hr.mono (by decide)) (by rfl) X_L_nonce.g X_L_nonce.F.kp X_L_nonce.b .nil pass0 (pa_cons (pv 0) (pa_cons (pv 1) (pa_cons (pe_op op_sub (pv 2) pe_int) pa_nil))))))))))
  (pss_one (ps_par (i := 2) (j := 3) (by rfl) sc_L_nthin.nd rfl rfl (by decide) rfl rfl (pa_cons (pe_op op_sub (pv 2) pe_int) (pa_cons (pe_slice sl_str (pv 3) po_none (po_some (pe_un un_neg pe_int))) pa_nil)) (by rfl))))
  (C8.pss_cut (ps_while PassesOwn.never (PW.pt (pw_and (pt_cmpR op_ne (pv 3) pe_str (nomark _)) (pw_and (pt_cmpR op_gt (pe_op op_sub (pv 2) (pv 1)) pe_int (nomark _)) (pw_and (pt_cmpR op_eq (pe_ix ix_str (pv 0) (pv 1) (fun _ _ => rfl)) (pe_ix ix_str (pv 3) pe_int (fun _ _ => rfl)) (nomark _)) (pw_and1 (pt_val (pe_call G_L_nonce (hr.mono (by decide)) (by rfl) X_L_nonce.g X_L_nonce.F.kp X_L_nonce.b .nil pass0 (pa_cons (pv 0) (pa_cons (pe_op op_add (pv 1) pe_int) (pa_cons (pv 2) pa_nil))))))))))
  (pss_one (ps_par (i := 1) (j := 3) (by rfl) sc_L_nthin.nd rfl rfl (by decide) rfl rfl (pa_cons (pe_op op_add (pv 1) pe_int) (pa_cons (pe_slice sl_str (pv 3) (po_some pe_int) po_none) pa_nil)) (by rfl))))
  (pss_one (ps_ret (pe_tup (pa_cons (pv 1) (pa_cons (pv 2) (pa_cons (pv 3) pa_nil)))))))), ?_⟩
  refine ⟨fun σ' H' => ∃ (b' : Nat) (g' : Str), σ' = [some (.str t), some (.int (a : Nat)), some (.int (b' : Nat)), some (.str g')] ∧ Same H H' ∧ a < b' ∧ b' ≤ b ∧ g'.length ≤ g.length ∧ (b', tl g') = thinE (tl t) (a, b, tl g), ?_, ?_⟩
  · refine ⟨fun m σ' H' => ∃ (b' : Nat) (g' : Str), σ' = [some (.str t), some (.int (a : Nat)), some (.int (b' : Nat)), some (.str g')] ∧ Same H H' ∧ a < b' ∧ b' ≤ b ∧ g'.length ≤ g.length ∧ m = g'.length ∧ endT (tl t) a (tl g').length b' (tl g') = thinE (tl t) (a, b, tl g), ?_, ?_⟩
    · exact ⟨_, b, g, rfl, Same.refl H, hab, Nat.le_refl _, Nat.le_refl _, rfl, rfl⟩
    rintro m σ' H' ⟨b', g', rfl, s', h1, h2, h3, rfl, hE⟩
    have hg' := TL.len_tl g'
    have gb : g'.length ≤ sizeLine := Nat.le_trans (show g'.length ≤ 1000 by omega) (by decide)
    have out : endC (tl t) a b' (tl g') = false → ∃ (b'' : Nat) (g'' : Str), [some (V.str t), some (.int (a : Nat)), some (.int (b' : Nat)), some (.str g')] = [some (V.str t), some (.int (a : Nat)), some (.int (b'' : Nat)), some (.str g'')] ∧ Same H H' ∧ a < b'' ∧ b'' ≤ b ∧ g''.length ≤ g.length ∧ (b'', tl g'') = thinE (tl t) (a, b, tl g) := fun e =>
      ⟨b', g', rfl, s', h1, h2, h3, by rw [← hE, endT_stop e]⟩
    refine ⟨_, rfl, rfl, _, congrArg V.bl ne_empty, ite2 (fun c1 => ?_) (fun c1 => ?_)⟩
    · have g0 : 0 < g'.length := of_decide_eq_true c1
      refine ⟨_, rfl, _, rfl, _, _, rfl, rfl, _, _, rfl, rfl, _, rfl, ite2 (fun c2 => ?_) (fun c2 => ?_)⟩
      · have hba : 1 < b' - a := by
          have := of_decide_eq_true c2
          omega
        have e1 : ((b' : Nat) : Int) - 1 = ((b' - 1 : Nat) : Int) := by omega
        have hc : (tl t)[b' - 1]? = some ((tl t)[b' - 1]'(by omega)) := List.getElem?_eq_getElem (by omega)
        have hd : (tl g')[(tl g').length - 1]? = some ((tl g')[(tl g').length - 1]'(by omega)) := List.getElem?_eq_getElem (by omega)
        have hd2 : (tl g').getLast? = some ((tl g')[(tl g').length - 1]'(by omega)) := by rw [List.getLast?_eq_getElem?]; exact hd
        revert hc hd hd2
        generalize (tl t)[b' - 1]'(by omega) = c
        generalize (tl g')[(tl g').length - 1]'(by omega) = d
        intro hc hd hd2
        refine ⟨_, rfl, _, rfl, _, _, rfl, rfl, t, _, c, rfl, rfl, tb, (by rw [e1]; exact atI_nat hc), _, rfl, 1, rfl, g', -1, d, rfl, rfl, gb, atI_lastN (xs := tl g') hd (by omega), rfl, _, congrArg V.bl eq_sign, ite2 (fun c3 => ?_) (fun c3 => ?_)⟩
        · have ecd : c = d := of_decide_eq_true c3
          refine ⟨_, rfl, _, rfl, _, rfl, _, _, rfl, rfl, t, a, b' - 1, _, _, rfl, rfl, e1, lt, by omega, by omega, fun H2 s2 => ⟨_, rfl, ite2 (fun c4 => ?_) (fun c4 => ?_)⟩⟩
          · have hC : endC (tl t) a b' (tl g') = true := by
              unfold endC
              rw [hc, hd2, c4, ecd, decide_eq_true (show 0 < (tl g').length by omega), decide_eq_true hba, decide_eq_true rfl]
              rfl
            refine ⟨_, fun _ _ h => h, ?_⟩
            refine ⟨_, rfl, _, _, rfl, rfl, _, rfl, 1, rfl, _, rfl, g', rfl, gb, _, _, rfl, ?_⟩
            refine ⟨(cutS g' none (some (-1))).length, ?_, b' - 1, cutS g' none (some (-1)), ?_, s'.trans s2, by omega, by omega, ?_, rfl, ?_⟩
            · rw [TL.len_tl, tl_cutInit, List.length_dropLast]
              omega
            · show [_, _, some (V.int (((b' : Nat) : Int) - 1)), _] = _
              rw [e1]
            · rw [TL.len_tl, tl_cutInit, List.length_dropLast]
              omega
            · rw [tl_cutInit, ← endT_go hC]
              exact hE
          · have := out (by unfold endC; rw [Bool.not_eq_true] at c4; rw [c4]; simp)
            obtain ⟨b'', g'', e, _, r⟩ := this
            exact ⟨b'', g'', e, s'.trans s2, r⟩
        · refine out ?_
          unfold endC
          rw [hc, hd2]
          have : ¬ c = d := fun e => c3 (decide_eq_true e)
          simp [this]
      · refine out ?_
        unfold endC
        have : ¬ 1 < b' - a := fun e => c2 (decide_eq_true (by omega))
        simp [this]
    · refine out ?_
      unfold endC
      have : ¬ 0 < (tl g').length := fun e => c1 (decide_eq_true (by omega))
      rw [decide_eq_false this]
      rfl
  rintro σ' H1 ⟨b', g', rfl, s1, h1, h2, h3, hE⟩
  refine ⟨fun σ' H' => ∃ (a' : Nat) (g2 : Str), σ' = [some (.str t), some (.int (a' : Nat)), some (.int (b' : Nat)), some (.str g2)] ∧ Same H H' ∧ (a', tl g2) = begT (tl t) b' (tl g').length a (tl g'), ?_, ?_⟩
  · refine ⟨fun m σ' H' => ∃ (a' : Nat) (g2 : Str), σ' = [some (.str t), some (.int (a' : Nat)), some (.int (b' : Nat)), some (.str g2)] ∧ Same H H' ∧ a' < b' ∧ g2.length ≤ g.length ∧ m = g2.length ∧ begT (tl t) b' (tl g2).length a' (tl g2) = begT (tl t) b' (tl g').length a (tl g'), ?_, ?_⟩
    · exact ⟨_, a, g', rfl, s1, h1, h3, rfl, rfl⟩
    rintro m σ' H' ⟨a', g2, rfl, s', k1, k3, rfl, hE2⟩
    have hg2 := TL.len_tl g2
    have gb : g2.length ≤ sizeLine := Nat.le_trans (show g2.length ≤ 1000 by omega) (by decide)
    have out : begC (tl t) a' b' (tl g2) = false → ∃ (a'' : Nat) (g'' : Str), [some (V.str t), some (.int (a' : Nat)), some (.int (b' : Nat)), some (.str g2)] = [some (V.str t), some (.int (a'' : Nat)), some (.int (b' : Nat)), some (.str g'')] ∧ Same H H' ∧ (a'', tl g'') = begT (tl t) b' (tl g').length a (tl g') := fun e =>
      ⟨a', g2, rfl, s', by rw [← hE2, begT_stop e]⟩
    refine ⟨_, rfl, rfl, _, congrArg V.bl ne_empty, ite2 (fun c1 => ?_) (fun c1 => ?_)⟩
    · have g0 : 0 < g2.length := of_decide_eq_true c1
      refine ⟨_, rfl, _, rfl, _, _, rfl, rfl, _, _, rfl, rfl, _, rfl, ite2 (fun c2 => ?_) (fun c2 => ?_)⟩
      · have hba : 1 < b' - a' := by
          have := of_decide_eq_true c2
          omega
        have e1 : ((a' : Nat) : Int) + 1 = ((a' + 1 : Nat) : Int) := by omega
        have hc : (tl t)[a']? = some ((tl t)[a']'(by omega)) := List.getElem?_eq_getElem (by omega)
        have hd : (tl g2)[0]? = some ((tl g2)[0]'(by omega)) := List.getElem?_eq_getElem (by omega)
        have hd2 : (tl g2).head? = some ((tl g2)[0]'(by omega)) := by rw [List.head?_eq_getElem?]; exact hd
        revert hc hd hd2
        generalize (tl t)[a']'(by omega) = c
        generalize (tl g2)[0]'(by omega) = d
        intro hc hd hd2
        refine ⟨_, rfl, _, rfl, t, _, c, rfl, rfl, tb, atI_nat hc, _, rfl, g2, _, d, rfl, rfl, gb, atI_nat (j := 0) hd, rfl, _, congrArg V.bl eq_sign, ite2 (fun c3 => ?_) (fun c3 => ?_)⟩
        · have ecd : c = d := of_decide_eq_true c3
          refine ⟨_, rfl, _, rfl, _, _, rfl, rfl, _, rfl, t, a' + 1, b', _, _, rfl, e1, rfl, lt, by omega, by omega, fun H2 s2 => ⟨_, rfl, ite2 (fun c4 => ?_) (fun c4 => ?_)⟩⟩
          · have hC : begC (tl t) a' b' (tl g2) = true := by
              unfold begC
              rw [hc, hd2, c4, ecd, decide_eq_true (show 0 < (tl g2).length by omega), decide_eq_true hba, decide_eq_true rfl]
              rfl
            refine ⟨_, fun _ _ h => h, ?_⟩
            refine ⟨_, rfl, _, _, rfl, rfl, _, rfl, _, rfl, g2, rfl, gb, _, _, rfl, ?_⟩
            refine ⟨(cutS g2 (some 1) none).length, ?_, a' + 1, cutS g2 (some 1) none, ?_, s'.trans s2, by omega, ?_, rfl, ?_⟩
            · rw [TL.len_tl, tl_cutTail, List.length_tail]
              omega
            · show [_, some (V.int (((a' : Nat) : Int) + 1)), _, _] = _
              rw [e1]
            · rw [TL.len_tl, tl_cutTail, List.length_tail]
              omega
            · rw [tl_cutTail, ← begT_go hC]
              exact hE2
          · have := out (by unfold begC; rw [Bool.not_eq_true] at c4; rw [c4]; simp)
            obtain ⟨a'', g'', e, _, r⟩ := this
            exact ⟨a'', g'', e, s'.trans s2, r⟩
        · refine out ?_
          unfold begC
          rw [hc, hd2]
          have : ¬ c = d := fun e => c3 (decide_eq_true e)
          simp [this]
      · refine out ?_
        unfold begC
        have : ¬ 1 < b' - a' := fun e => c2 (decide_eq_true (by omega))
        simp [this]
    · refine out ?_
      unfold begC
      have : ¬ 0 < (tl g2).length := fun e => c1 (decide_eq_true (by omega))
      rw [decide_eq_false this]
      rfl
  rintro σ' H2 ⟨a', g2, rfl, s2, hE2⟩
  refine ⟨_, rfl, _, rfl, _, rfl, by show 3 ≤ sizeLine; decide, fun p np => ?_⟩
  refine q _ p (s2.trans (same_new np)) (s2.free np) ?_
  rw [upd_same]
  have hf : thinF (tl t) (a, b, tl g) = (a', b', tl g2) := by
    unfold thinF
    rw [← hE]
    show ((begT (tl t) b' (tl g').length a (tl g')).1, b', (begT (tl t) b' (tl g').length a (tl g')).2) = _
    rw [← hE2]
  rw [hf]
  show _ = some (HO.tup [_, _, V.str (sl (tl g2))])
  rw [sl_tl]
end
end Law
namespace Law
open PySem PySem.Spec PyProof.Rows L2 AB
open TL (tl)
section
variable {P : Program} {w : World} {K : PySem.W.Frag} {mg : Str → Option Value} {base : Heap} {f : Addr} {fd : FuncData}
theorem ok_thinned {f1 f2 f3 : Addr} {d1 d2 d3 : FuncData} (X_thinned : FX K mg "thinned" s_thinned P_thinned f fd) (X_thin : FX K mg "thin" s_thin P_thin f1 d1) (X_stands_once : FX K mg "stands_once" s_stands_once P_stands_once f2 d2)
    (X_places : FX K mg "places" s_places P_places f3 d3) (B : Bt mg) : FnOk P w K mg base CX0 4 f fd P_thinned spThinned := by
  have G_thin : FnOk P w K mg base CX0 3 f1 d1 P_thin spThin := ok_thin X_thin X_stands_once X_places B
  refine X_thinned.F.ok sc_thinned (fun vs H Q E h => ?_) (fun cdv A outer s H vs Q E hr h => ?_)
  · obtain ⟨t, e, rs, xs, rfl, _⟩ := h
    rfl
  obtain ⟨t, e, rs, xs, rfl, T, lt, lx, ok, q⟩ := h
  have tb : t.length ≤ sizeLine := Nat.le_trans lt (by decide)
  refine ⟨_, (pss_one (ps_ret (tupK_of (K := K) rfl (by rfl) B.b_tuple (pe_lc (own := [("begin", 2), ("end", 3), ("new", 4)])   (by rfl) sc_thinned.nd (piK_tup (K := K) rfl (pv 1)) (blkOk_by (own := [("begin", 2), ("end", 3), ("new", 4)]) (N := N_thinned) (sc := defScope s_thinned) (by decide +kernel)) (fun _ _ _ _ _ => (pgK_tup (K := K) (n := 3) rfl rfl (pgs_cons (pg_name (i := 2) sc_thinned.nd rfl (.inl rfl)) (pgs_cons (pg_name (i := 3) sc_thinned.nd rfl (.inl rfl)) (pgs_cons (pg_name (i := 4) sc_thinned.nd rfl (.inl rfl)) pgs_nil))))) (fun _ _ _ _ _ => (pts_one (pt_cmpR op_ne (pe_slice sl_str (pv 0) (po_some (pv 2)) (po_some (pv 3))) (pv 4) (nomark _)))) (fun _ _ _ _ _ => (pe_call G_thin (hr.mono (by decide)) (by rfl) X_thin.g X_thin.F.kp X_thin.b .nil pass0 (pa_cons (pv 0) (pa_cons (pv 2) (pa_cons (pv 3) (pa_cons (pv 4) pa_nil)))))))))), ?_⟩
  refine ⟨_, rfl, e, rfl, ⟨_, SqT.of T.top⟩, fun D nD => ?_⟩
  refine lc_tup (K := K) (a := e) (xs := rs.map V.ref) (fun i H4 => ∃ qs : List Addr, Same H H4 ∧ Tls exV H4 D qs (thinL (tl t) (xs.take i))) ?_ ?_ ?_ ?_
  · exact ⟨[], same_new nD, upd_same, rfl, fun i r x h => by simp at h, fun r h => by cases h⟩
  · rintro i H4 _ ⟨qs, s4, _⟩
    exact SqT.of (s4 _ _ T.top)
  · rintro k v H4 hv ⟨qs, s4, T4⟩
    rw [List.getElem?_map] at hv
    cases hrk : rs[k]? with
    | none => rw [hrk] at hv; cases hv
    | some rk =>
      rw [hrk] at hv
      obtain rfl : V.ref rk = v := Option.some.inj hv
      have hk : k < xs.length := by rw [← T.len]; exact (List.getElem?_eq_some_iff.mp hrk).1
      have hy : xs[k]? = some xs[k] := List.getElem?_eq_getElem hk
      have oky := ok _ (List.getElem_mem hk)
      revert hy oky
      generalize xs[k] = y
      intro hy oky
      obtain ⟨o1, o2, o3⟩ := oky
      have htk : xs.take (k + 1) = xs.take k ++ [y] := by rw [List.take_add_one, hy]; rfl
      refine ⟨rk, _, rfl, SqT.of (s4 _ _ (T.row k rk y hrk hy)), rfl, _, _, rfl, _, _, rfl, _, _, rfl, rfl, rfl, _, rfl, _, rfl, _, rfl, _, rfl, _, rfl, t, rfl, tb, _, rfl, rfl, _, congrArg V.bl ne_cut, ?_⟩
      rw [tl_sl y.2.2]
      refine ite2 (fun c1 => ?_) (fun c1 => ?_)
      · refine ⟨_, rfl, _, rfl, _, rfl, _, rfl, t, sl y.2.2, y.1, y.2.1, rfl, by omega, by rw [sl_len]; omega, o1, o2, fun H5 p s5 np ep => ?_⟩
        rw [tl_sl y.2.2] at ep
        have T5 := T4.same s5
        have pD : p ≠ D := (ne_of_none T4.top np).symm
        refine ⟨_, T5.top, ?_, qs ++ [p], AB.Same.wr (s4.trans s5) nD, ?_⟩
        · rw [List.length_map, T5.len]
          unfold thinL
          rw [List.length_map]
          have h1 := List.length_filter_le (fun x : Ex => !decide (cutN (tl t) x.1 x.2.1 = x.2.2)) (xs.take k)
          rw [List.length_take] at h1
          exact Nat.lt_of_le_of_lt (show _ ≤ 10000 by omega) (by decide)
        · unfold thinL
          rw [htk, List.filter_append, List.map_append, List.filter_cons, if_pos c1]
          refine T5.app ?_ ?_ pD fun b o hb e => by rw [upd_ne hb]; exact e
          · rw [upd_same, List.map_append]
            rfl
          · rw [upd_ne pD]
            exact ep
      · refine ⟨qs, s4, ?_⟩
        unfold thinL
        rw [htk, List.filter_append, List.map_append, List.filter_cons, if_neg c1]
        simpa [thinL] using T4
  · rintro H4 ⟨qs, s4, T4⟩
    rw [List.length_map, T.len, List.take_length] at T4
    refine .inl ⟨D, _, rfl, SqL.of T4.top, fun p np => ?_⟩
    exact q _ p qs (s4.trans (same_new np)) (s4.free np) (T4.tup np)
theorem ok_L_nput (X_L_nput : FX K mg "_law_nput" s_L_nput P_L_nput f fd) (B : Bt mg) : FnOk P w K mg base CX0 1 f fd P_L_nput spPut := by
  refine X_L_nput.F.ok sc_L_nput (fun vs H Q E h => ?_) (fun cdv A outer s H vs Q E hr h => ?_)
  · obtain ⟨t, e, rs, xs, rfl, _⟩ := h
    rfl
  obtain ⟨t, e, rs, xs, rfl, T, lt, lx, ok, q⟩ := h
  have tb : t.length ≤ sizeLine := Nat.le_trans lt (by decide)
  refine ⟨_, (pss_cons (ps_asg (pe_tup (pa_cons pe_str (pa_cons pe_int pa_nil))) (pgK_tup (K := K) (n := 2) rfl rfl (pgs_cons (pg_name (i := 2) sc_L_nput.nd rfl (.inl rfl)) (pgs_cons (pg_name (i := 3) sc_L_nput.nd rfl (.inl rfl)) pgs_nil))))
  (pss_cons (ps_for PassesOwn.never rfl (piK_tup (K := K) rfl (pv 1)) (pgK_tup (K := K) (n := 3) rfl rfl (pgs_cons (pg_name (i := 4) sc_L_nput.nd rfl (.inl rfl)) (pgs_cons (pg_name (i := 5) sc_L_nput.nd rfl (.inl rfl)) (pgs_cons (pg_name (i := 6) sc_L_nput.nd rfl (.inl rfl)) pgs_nil))))
  (pss_cons (ps_set (i := 2) sc_L_nput.nd rfl (.inl rfl) (pe_op op_add_str (pe_op op_add_str (pv 2) (pe_slice sl_str (pv 0) (po_some (pv 3)) (po_some (pv 4)))) (pv 6)))
  (pss_one (ps_set (i := 3) sc_L_nput.nd rfl (.inl rfl) (pv 5)))))
  (pss_one (ps_ret (pe_op op_add_str (pv 2) (pe_slice sl_str (pv 0) (po_some (pv 3)) po_none)))))), ?_⟩
  refine ⟨by show 2 ≤ sizeLine; decide, fun T0 nT0 => ?_⟩
  refine ⟨T0, _, rfl, SqT.of upd_same, rfl, _, _, rfl, _, _, rfl, rfl, ?_⟩
  have T := T.same (same_new (o := .tup [V.str (Str.ofString ""), V.int 0]) nT0)
  have q : ∀ H', Same H H' → Q (.str (sl (putF (tl t) 0 xs))) H' := q
  show tSeq _ _ _ _ (upd H T0 (.tup [V.str (Str.ofString ""), V.int 0]))
  have sU : Same H (upd H T0 (.tup [V.str (Str.ofString ""), V.int 0])) := same_new nT0
  revert T sU
  generalize upd H T0 (.tup [V.str (Str.ofString ""), V.int 0]) = H0
  intro T sU
  refine ⟨_, rfl, e, rfl, ⟨_, SqT.of T.top⟩, ?_⟩
  refine for_tup (K := K) (a := e) (xs := rs.map V.ref) (fun i σ H2 => H2 = H0 ∧ ∃ (g : Str) (k : Nat) (y4 y5 y6 : Option V), σ = [some (.str t), some (.ref e), some (.str g), some (.int (k : Nat)), y4, y5, y6] ∧ g.length ≤ 200 * i ∧ tl g ++ putF (tl t) k (xs.drop i) = putF (tl t) 0 xs) ?_ ?_ ?_ ?_
  · exact ⟨rfl, "", 0, _, _, _, rfl, Nat.zero_le _, rfl⟩
  · rintro i σ H2 _ ⟨rfl, _⟩
    exact SqT.of T.top
  · rintro i v σ H2 hv ⟨rfl, g, k, y4, y5, y6, rfl, lg, hE⟩
    rw [List.getElem?_map] at hv
    cases hrk : rs[i]? with
    | none => rw [hrk] at hv; cases hv
    | some rk =>
      rw [hrk] at hv
      obtain rfl : V.ref rk = v := Option.some.inj hv
      have hk : i < xs.length := by rw [← T.len]; exact (List.getElem?_eq_some_iff.mp hrk).1
      have hy : xs[i]? = some xs[i] := List.getElem?_eq_getElem hk
      have hdr : xs.drop i = xs[i] :: xs.drop (i + 1) := List.drop_eq_getElem_cons hk
      have oky := ok _ (List.getElem_mem hk)
      rw [hdr] at hE
      revert hE hy oky
      generalize xs[i] = y
      intro hE hy oky
      obtain ⟨o1, o2, o3⟩ := oky
      have c1 := cutS_length t (some (k : Int)) (some (y.1 : Int))
      have sy : (sl y.2.2).length ≤ 100 := by rw [sl_len]; exact o3
      refine ⟨rk, _, rfl, SqT.of (T.row i rk y hrk hy), rfl, _, _, rfl, _, _, rfl, _, _, rfl, rfl, ?_⟩
      refine ⟨_, rfl, _, rfl, _, rfl, _, rfl, _, rfl, _, rfl, t, rfl, tb, _, _, rfl, rfl, Nat.le_trans (show _ ≤ 1000000 by omega) (by decide), _, rfl, _, _, rfl, rfl, ?_, ?_⟩
      · rw [app_len]
        exact Nat.le_trans (show _ ≤ 1000000 by omega) (by decide)
      refine ⟨_, rfl, rfl, _, y.2.1, _, _, _, rfl, ?_, ?_⟩
      · rw [app_len, app_len]
        omega
      · rw [TL.tl_append, TL.tl_append, tl_cutS, tl_sl y.2.2]
        rw [← hE]
        show _ = tl g ++ (cutN (tl t) k y.1 ++ y.2.2 ++ putF (tl t) y.2.1 (xs.drop (i + 1)))
        unfold cutN
        simp [List.append_assoc]
  · rintro σ H2 ⟨rfl, g, k, y4, y5, y6, rfl, lg, hE⟩
    rw [List.length_map, T.len, List.drop_length] at hE
    have c1 := cutS_length t (some (k : Int)) none
    rw [List.length_map, T.len] at lg
    refine ⟨_, rfl, _, rfl, _, rfl, _, rfl, t, rfl, tb, _, _, rfl, rfl, Nat.le_trans (show _ ≤ 1000000 by omega) (by decide), ?_⟩
    have e1 : g ++ cutS t (some (k : Int)) none = sl (putF (tl t) 0 xs) := TL.ext_tl (by rw [TL.tl_append, tl_cutFrom, tl_sl (putF _ _ _), ← hE]; rfl)
    rw [e1]
    exact q _ sU
end
end Law
namespace Law
open PySem PySem.Spec PyProof.Rows L2 AB
open TL (tl)
section
variable {P : Program} {w : World} {K : PySem.W.Frag} {mg : Str → Option Value} {base : Heap} {f : Addr} {fd : FuncData}
theorem ok_single {f1 f2 : Addr} {d1 d2 : FuncData} (X_single : FX K mg "single" s_single P_single f fd) (X_stands_once : FX K mg "stands_once" s_stands_once P_stands_once f1 d1) (X_places : FX K mg "places" s_places P_places f2 d2) (B : Bt mg) :
    FnOk P w K mg base CX0 3 f fd P_single (spSingle K) := by
  have G_stands_once : FnOk P w K mg base CX0 2 f1 d1 P_stands_once spOnce := ok_stands_once X_stands_once X_places B
  refine X_single.F.ok sc_single (fun vs H Q E h => ?_) (fun cdv A outer s H vs Q E hr h => ?_)
  · obtain ⟨t, o, rfl, _⟩ := h
    rfl
  obtain ⟨t, o, rfl, lt, lo, lto, q⟩ := h
  have ht := TL.len_tl t
  have hol := TL.len_tl o
  have tb : t.length ≤ sizeLine := Nat.le_trans lt (by decide)
  have ob : o.length ≤ sizeLine := Nat.le_trans lo (by decide)
  have clen : ∀ n, n ≤ 100 → (candTo (tl t) (tl o) n).length ≤ 10000 := fun n hn => by
    have h1 := candTo_len (tl t) (tl o) n
    have h2 : n * (tl t).length ≤ 100 * 100 := Nat.mul_le_mul hn (by omega)
    omega
  refine ⟨_, (pss_cons (ps_if (pt_cmpR op_eq (pv 0) (pv 1) (nomark _))
  (pss_one (ps_ret (pe_tup pa_nil)))
  pss_nil)
  (pss_cons (ps_set (i := 2) sc_single.nd rfl (.inl rfl) (pe_lst pa_nil))
  (pss_cons (ps_for PassesOwn.never rfl (pi_range1 (by rfl) B.b_range (pa_cons (pe_callB (lenK (K := K) rfl) (by rfl) B.b_len (by decide +kernel) (pa_cons (pv 0) pa_nil)) pa_nil)) (pg_name (i := 3) sc_single.nd rfl (.inl rfl))
  (pss_one (ps_for PassesOwn.never rfl (pi_range2 (by rfl) B.b_range (pa_cons (pe_op op_add (pv 3) pe_int) (pa_cons (pe_op op_add (pe_callB (lenK (K := K) rfl) (by rfl) B.b_len (by decide +kernel) (pa_cons (pv 0) pa_nil)) pe_int) pa_nil))) (pg_name (i := 4) sc_single.nd rfl (.inl rfl))
  (pss_cons (ps_set (i := 5) sc_single.nd rfl (.inl rfl) (pe_op op_sub (pe_callB (lenK (K := K) rfl) (by rfl) B.b_len (by decide +kernel) (pa_cons (pv 1) pa_nil)) (pe_op op_sub (pe_callB (lenK (K := K) rfl) (by rfl) B.b_len (by decide +kernel) (pa_cons (pv 0) pa_nil)) (pv 4))))
  (pss_one (ps_if (PW.pt (pw_and (pt_cmpR op_ge (pv 5) (pv 3) (nomark _)) (pw_and (pt_cmpR op_eq (pe_slice sl_str (pv 0) po_none (po_some (pv 3))) (pe_slice sl_str (pv 1) po_none (po_some (pv 3))) (nomark _)) (pw_and1 (pt_cmpR op_eq (pe_slice sl_str (pv 0) (po_some (pv 4)) po_none) (pe_slice sl_str (pv 1) (po_some (pv 5)) po_none) (nomark _))))))
  (pss_one (ps_if (pt_val (pe_call G_stands_once (hr.mono (by decide)) (by rfl) X_stands_once.g X_stands_once.F.kp X_stands_once.b .nil pass0 (pa_cons (pv 0) (pa_cons (pv 3) (pa_cons (pv 4) pa_nil)))))
  (pss_one (ps_expr (pe_bm PySem.F.plainAttrs_list PySem.F.slot_list_append PySem.F.type_list_append mt_append (pv 2) (pa_cons (pe_tup (pa_cons (pe_op op_sub (pe_op op_add (pe_op op_sub (pv 4) (pv 3)) (pv 5)) (pv 3)) (pa_cons (pv 3) (pa_cons (pv 4) (pa_cons (pe_slice sl_str (pv 1) (po_some (pv 3)) (po_some (pv 5))) pa_nil))))) pa_nil))))
  pss_nil))
  pss_nil))))))
  (pss_cons (ps_if (pt_cmpR (eqK_D (K := K) rfl hr.units) (pv 2) (pe_lst pa_nil) (nomark _))
  (pss_one (ps_ret pe_non))
  pss_nil)
  (pss_cons (ps_asg (pe_callB (minEK (K := K) rfl rfl hr.units) (by rfl) B.b_min (by decide +kernel) (pa_cons (pv 2) pa_nil)) (pgK_tup (K := K) (n := 4) rfl rfl (pgs_cons (pg_name (i := 6) sc_single.nd rfl (.inl rfl)) (pgs_cons (pg_name (i := 3) sc_single.nd rfl (.inl rfl)) (pgs_cons (pg_name (i := 4) sc_single.nd rfl (.inl rfl)) (pgs_cons (pg_name (i := 7) sc_single.nd rfl (.inl rfl)) pgs_nil))))))
  (pss_one (ps_ret (pe_tup (pa_cons (pe_tup (pa_cons (pv 3) (pa_cons (pv 4) (pa_cons (pv 7) pa_nil)))) pa_nil))))))))), ?_⟩
  refine ⟨_, rfl, _, rfl, rfl, _, rfl, ite2 (fun c0 => ?_) (fun c0 => ?_)⟩
  · have e : t = o := V.str.inj (of_decide_eq_true c0)
    refine ⟨Nat.zero_le _, fun p np => ?_⟩
    exact q _ (.ref p) (.tuple []) (same_new np) (.tup (SqT.of upd_same) .nil) (.inl ⟨by rw [e], rfl⟩)
  have ne : tl t ≠ tl o := fun e => c0 (decide_eq_true (by rw [TL.ext_tl e]))
  refine ⟨Nat.zero_le _, fun l nl => ?_⟩
  refine ⟨_, rfl, _, _, rfl, ⟨tb, rfl⟩, _, rfl, by omega, by omega, ?_⟩
  rw [Int.toNat_natCast]
  refine for_range (lo := 0) (n := t.length) (fun a σ H2 => ∃ (rs : List Addr) (y3 y4 y5 : Option V), σ = [some (.str t), some (.str o), some (.ref l), y3, y4, y5, none, none] ∧ Same H H2 ∧ Tls enV H2 l rs (candTo (tl t) (tl o) a)) ?_ ?_ ?_
  · exact ⟨[], _, _, _, rfl, same_new nl, upd_same, rfl, fun i r x h => by simp at h, fun r h => by cases h⟩
  · rintro a σ H2 ha ⟨rs, y3, y4, y5, rfl, s2, T2⟩
    refine ⟨_, rfl, _, _, rfl, rfl, _, rfl, _, _, rfl, ⟨tb, rfl⟩, _, _, rfl, rfl, _, _, rfl, by omega, ?_⟩
    have hn : ((t.length : Int) + 1 - (0 + (a : Int) + 1)).toNat = t.length - a := by omega
    rw [hn]
    refine for_range (lo := 0 + (a : Int) + 1) (n := t.length - a) (fun k σ H3 => ∃ (rs : List Addr) (y4 y5 : Option V), σ = [some (.str t), some (.str o), some (.ref l), some (.int (0 + (a : Int))), y4, y5, none, none] ∧ Same H H3 ∧
        Tls enV H3 l rs (candTo (tl t) (tl o) a ++ candA (tl t) (tl o) a k)) ?_ ?_ ?_
    · refine ⟨rs, _, _, rfl, s2, ?_⟩
      rw [show candA (tl t) (tl o) a 0 = [] from rfl, List.append_nil]
      exact T2
    · rintro k σ H3 hk ⟨rs3, y4, y5, rfl, s3, T3⟩
      have ea : (0 + (a : Int)) = ((a : Nat) : Int) := by omega
      have eb : ((a : Int) + 1 + (k : Int)) = ((a + 1 + k : Nat) : Int) := by omega
      have eX : (o.length : Int) - ((t.length : Int) - ((a + 1 + k : Nat) : Int)) = beh (tl t) (tl o) (a + 1 + k) := by
        unfold beh
        rw [ht, hol]
      simp only [Int.zero_add, eb]
      have hno : okW (tl t) (tl o) a (a + 1 + k) = false → Tls enV H3 l rs3 (candTo (tl t) (tl o) a ++ candA (tl t) (tl o) a (k + 1)) := fun e => by
        rw [candA_succ, e]
        simpa using T3
      refine ⟨_, rfl, _, _, rfl, ⟨ob, rfl⟩, _, rfl, _, _, rfl, ⟨tb, rfl⟩, _, rfl, _, _, rfl, rfl, _, _, rfl, rfl, ?_⟩
      refine ⟨_, rfl, _, rfl, _, _, rfl, rfl, _, rfl, ite2 (fun c1 => ?_) (fun c1 => ?_)⟩
      · have hle : ((a : Nat) : Int) ≤ beh (tl t) (tl o) (a + 1 + k) := by
          rw [← eX]
          exact of_decide_eq_true c1
        obtain ⟨n, hnb⟩ : ∃ n : Nat, beh (tl t) (tl o) (a + 1 + k) = (n : Int) := ⟨(beh (tl t) (tl o) (a + 1 + k)).toNat, by omega⟩
        have hnt : (beh (tl t) (tl o) (a + 1 + k)).toNat = n := by omega
        refine ⟨_, rfl, _, rfl, _, rfl, t, rfl, tb, _, rfl, _, rfl, _, rfl, o, rfl, ob, rfl, _, congrArg V.bl eqS, ?_⟩
        rw [tl_cutTo, tl_cutTo]
        refine ite2 (fun c2 => ?_) (fun c2 => ?_)
        · refine ⟨_, rfl, _, rfl, _, rfl, t, rfl, tb, _, rfl, _, rfl, _, rfl, o, rfl, ob, rfl, _, congrArg V.bl eqS, ?_⟩
          have eY : (o.length : Int) - ((t.length : Int) - ((a + 1 + k : Nat) : Int)) = (n : Int) := by rw [eX, hnb]
          show if decide (tl (cutS t (some ((a + 1 + k : Nat) : Int)) none) = tl (cutS o (some ((o.length : Int) - ((t.length : Int) - ((a + 1 + k : Nat) : Int)))) none)) = true then _ else _
          rw [eY, tl_cutFrom, tl_cutFrom]
          refine ite2 (fun c3 => ?_) (fun c3 => ?_)
          · refine ⟨_, rfl, _, rfl, _, rfl, t, a, a + 1 + k, _, _, rfl, rfl, rfl, by omega, by omega, by omega, fun H4 s4 => ⟨_, rfl, ite2 (fun c4 => ?_) (fun c4 => ?_)⟩⟩
            · have hok : okW (tl t) (tl o) a (a + 1 + k) = true := by
                unfold okW
                rw [hnt, decide_eq_true hle, c2, c3, c4]
                rfl
              have T4 := T3.same s4
              refine ⟨_, rfl, .inl ⟨rfl, _, SqL.of T4.top⟩, _, rfl, _, rfl, _, _, rfl, rfl, _, rfl, _, _, rfl, rfl, _, rfl, _, _, rfl, rfl, _, rfl, _, rfl, _, rfl, _, rfl, _, rfl, _, rfl, _, rfl, o, rfl, ob, by show 4 ≤ sizeLine; decide, fun T nT => ?_⟩
              have hv : [V.int (((a + 1 + k : Nat) : Int) - (a : Nat) + ((o.length : Int) - ((t.length : Int) - ((a + 1 + k : Nat) : Int))) - (a : Nat)), V.int (a : Nat), V.int ((a + 1 + k : Nat) : Int), V.str (cutS o (some ((a : Nat) : Int)) (some ((o.length : Int) - ((t.length : Int) - ((a + 1 + k : Nat) : Int)))))] = enV (enOf (tl t) (tl o) a (a + 1 + k)) := by
                have e1 : cutS o (some ((a : Nat) : Int)) (some (n : Int)) = sl (cutN (tl o) a n) := TL.ext_tl (by rw [tl_cutS, tl_sl (cutN _ _ _)]; rfl)
                rw [eX, hnb, e1]
                show _ = [V.int (((a + 1 + k : Nat) : Int) - (a : Nat) + beh (tl t) (tl o) (a + 1 + k) - (a : Nat)), V.int (a : Nat), V.int ((a + 1 + k : Nat) : Int), V.str (sl (cutN (tl o) a (beh (tl t) (tl o) (a + 1 + k)).toNat))]
                rw [hnt, hnb]
              have T5 := fun u => T4.same (same_new (o := u) nT)
              have Tl : T ≠ l := (ne_of_none T4.top nT).symm
              refine ⟨l, _, _, rfl, rfl, (T5 _).top, ?_, ?_⟩
              · rw [List.length_map, T4.len, List.length_append]
                have := clen a (by omega)
                have := candA_len (tl t) (tl o) a k
                exact Nat.lt_of_le_of_lt (show _ ≤ 20000 by omega) (by decide)
              · refine ⟨rs3 ++ [T], _, _, rfl, AB.Same.wr ((s3.trans s4).trans (same_new nT)) nl, ?_⟩
                rw [candA_succ, if_pos hok, ← List.append_assoc]
                refine (T5 _).app ?_ ?_ Tl fun b o hb e => by rw [upd_ne hb]; exact e
                · rw [upd_same, List.map_append]
                  rfl
                · rw [upd_ne Tl, upd_same]
                  exact congrArg (fun z => some (HO.tup z)) hv
            · exact ⟨rs3, _, _, rfl, s3.trans s4, (hno (by unfold okW; rw [Bool.eq_false_iff.mpr c4]; simp)).same s4⟩
          · exact ⟨rs3, _, _, rfl, s3, hno (by unfold okW; rw [hnt, Bool.eq_false_iff.mpr c3]; simp)⟩
        · exact ⟨rs3, _, _, rfl, s3, hno (by unfold okW; rw [Bool.eq_false_iff.mpr c2]; simp)⟩
      · refine ⟨rs3, _, _, rfl, s3, hno ?_⟩
        unfold okW
        rw [decide_eq_false fun e => c1 (decide_eq_true (by rw [← eX] at e; exact e))]
        rfl
    · rintro σ H3 ⟨rs3, y4, y5, rfl, s3, T3⟩
      refine ⟨rs3, _, _, _, rfl, s3, ?_⟩
      rw [candTo_succ, ← ht]
      exact T3
  · rintro σ H2 ⟨rs, y3, y4, y5, rfl, s2, T2⟩
    rw [show candTo (tl t) (tl o) t.length = cands (tl t) (tl o) by rw [ht]; rfl] at T2
    refine ⟨_, rfl, Nat.zero_le _, fun l2 nl2 => ?_⟩
    have s3 : Same H (upd H2 l2 (.lst [])) := s2.trans (same_new nl2)
    have T3 := T2.same (same_new (o := .lst []) nl2)
    refine ⟨.list ((cands (tl t) (tl o)).map fun x => .tuple [.int x.1.a, .int x.1.b, .int x.1.c, .str x.2]), .list [], dpE T3, .lst (SqL.of upd_same) .nil, shapedE _ (fun x hx => cands_ok lto hx), rfl, _, rfl, ?_⟩
    rw [eqv_nil]
    by_cases hw : cands (tl t) (tl o) = []
    · rw [hw]
      exact q _ .non .none s3 .non (.inr (.inl ⟨ne, hw, rfl⟩))
    · rw [show (List.map (fun x : En => PyData.tuple [.int x.1.a, .int x.1.b, .int x.1.c, .str x.2]) (cands (tl t) (tl o))).isEmpty = false by
        rw [List.isEmpty_eq_false_iff, Ne, List.map_eq_nil_iff]
        exact hw]
      refine ⟨_, rfl, l, rs, cands (tl t) (tl o), rfl, SqL.of T3.top, T3.len, by rw [T3.len]; exact List.length_pos_iff.mpr hw, candTo_nodup _ _ _, fun i r x hr hx => SqT.of (T3.row i r x hr hx), fun i r x hr hx hmin => ?_⟩
      refine ⟨r, _, rfl, SqT.of (T3.row i r x hr hx), rfl, _, _, rfl, _, _, rfl, _, _, rfl, _, _, rfl, rfl, ?_⟩
      refine ⟨_, rfl, _, rfl, _, rfl, by show 3 ≤ sizeLine; decide, fun p1 np1 => ⟨by show 1 ≤ sizeLine; decide, fun p2 np2 => ?_⟩⟩
      refine q _ (.ref p2) (.tuple [dE x]) ((s3.trans (same_new np1)).trans (same_new np2)) ?_ (.inr (.inr ⟨ne, x, List.mem_of_getElem? hx, hmin, rfl⟩))
      exact .tup (SqT.of upd_same) (.cons (.tup (SqT.of (same_new np2 _ _ upd_same)) (.cons (.int _) (.cons (.int _) (.cons (.str _) .nil)))) .nil)
end
end Law
namespace Law
open PySem PySem.Spec PyProof.Rows L2 AB
open TL (tl)
section
variable {P : Program} {w : World} {K : PySem.W.Frag} {mg : Str → Option Value} {base : Heap} {f : Addr} {fd : FuncData}
theorem ok_L_nsingle {f1 f2 : Addr} {d1 d2 : FuncData} (X_L_nsingle : FX K mg "_law_nsingle" s_L_nsingle P_L_nsingle f fd) (X_L_nonce : FX K mg "_law_nonce" s_L_nonce P_L_nonce f1 d1) (X_L_places : FX K mg "_law_places" s_L_places P_L_places f2 d2) (B : Bt mg) :
    FnOk P w K mg base CX0 3 f fd P_L_nsingle (spSingle K) := by
  have G_L_nonce : FnOk P w K mg base CX0 2 f1 d1 P_L_nonce spOnce := ok_L_nonce X_L_nonce X_L_places B
  refine X_L_nsingle.F.ok sc_L_nsingle (fun vs H Q E h => ?_) (fun cdv A outer s H vs Q E hr h => ?_)
  · obtain ⟨t, o, rfl, _⟩ := h
    rfl
  obtain ⟨t, o, rfl, lt, lo, lto, q⟩ := h
  have ht := TL.len_tl t
  have hol := TL.len_tl o
  have tb : t.length ≤ sizeLine := Nat.le_trans lt (by decide)
  have ob : o.length ≤ sizeLine := Nat.le_trans lo (by decide)
  have clen : ∀ n, n ≤ 100 → (candTo (tl t) (tl o) n).length ≤ 10000 := fun n hn => by
    have h1 := candTo_len (tl t) (tl o) n
    have h2 : n * (tl t).length ≤ 100 * 100 := Nat.mul_le_mul hn (by omega)
    omega
  refine ⟨_, (pss_cons (ps_if (pt_cmpR op_eq (pv 0) (pv 1) (nomark _))
  (pss_one (ps_ret (pe_tup pa_nil)))
  pss_nil)
  (pss_cons (ps_set (i := 2) sc_L_nsingle.nd rfl (.inl rfl) (pe_lst pa_nil))
  (pss_cons (ps_for PassesOwn.never rfl (pi_range1 (by rfl) B.b_range (pa_cons (pe_callB (lenK (K := K) rfl) (by rfl) B.b_len (by decide +kernel) (pa_cons (pv 0) pa_nil)) pa_nil)) (pg_name (i := 3) sc_L_nsingle.nd rfl (.inl rfl))
  (pss_one (ps_for PassesOwn.never rfl (pi_range2 (by rfl) B.b_range (pa_cons (pe_op op_add (pv 3) pe_int) (pa_cons (pe_op op_add (pe_callB (lenK (K := K) rfl) (by rfl) B.b_len (by decide +kernel) (pa_cons (pv 0) pa_nil)) pe_int) pa_nil))) (pg_name (i := 4) sc_L_nsingle.nd rfl (.inl rfl))
  (pss_cons (ps_set (i := 5) sc_L_nsingle.nd rfl (.inl rfl) (pe_op op_add (pe_op op_sub (pe_callB (lenK (K := K) rfl) (by rfl) B.b_len (by decide +kernel) (pa_cons (pv 1) pa_nil)) (pe_callB (lenK (K := K) rfl) (by rfl) B.b_len (by decide +kernel) (pa_cons (pv 0) pa_nil))) (pv 4)))
  (pss_one (ps_if (PW.pt (pw_and (pt_cmpR op_ge (pv 5) (pv 3) (nomark _)) (pw_and (pt_cmpR op_eq (pe_op op_add_str (pe_op op_add_str (pe_slice sl_str (pv 0) po_none (po_some (pv 3))) (pe_slice sl_str (pv 1) (po_some (pv 3)) (po_some (pv 5)))) (pe_slice sl_str (pv 0) (po_some (pv 4)) po_none)) (pv 1) (nomark _)) (pw_and1 (pt_val (pe_call G_L_nonce (hr.mono (by decide)) (by rfl) X_L_nonce.g X_L_nonce.F.kp X_L_nonce.b .nil pass0 (pa_cons (pv 0) (pa_cons (pv 3) (pa_cons (pv 4) pa_nil)))))))))
  (pss_one (ps_expr (pe_bm PySem.F.plainAttrs_list PySem.F.slot_list_append PySem.F.type_list_append mt_append (pv 2) (pa_cons (pe_tup (pa_cons (pe_op op_sub (pe_op op_add (pe_op op_sub (pv 4) (pv 3)) (pv 5)) (pv 3)) (pa_cons (pv 3) (pa_cons (pv 4) (pa_cons (pe_slice sl_str (pv 1) (po_some (pv 3)) (po_some (pv 5))) pa_nil))))) pa_nil))))
  pss_nil))))))
  (pss_one (ps_ret (pe_ifExp (pt_cmpR (eqK_D (K := K) rfl hr.units) (pv 2) (pe_lst pa_nil) (nomark _)) pe_non (pe_tup (pa_cons (pe_slice sl_tup (pe_callB (minEK (K := K) rfl rfl hr.units) (by rfl) B.b_min (by decide +kernel) (pa_cons (pv 2) pa_nil)) (po_some pe_int) po_none) pa_nil)))))))), ?_⟩
  refine ⟨_, rfl, _, rfl, rfl, _, rfl, ite2 (fun c0 => ?_) (fun c0 => ?_)⟩
  · have e : t = o := V.str.inj (of_decide_eq_true c0)
    refine ⟨Nat.zero_le _, fun p np => ?_⟩
    exact q _ (.ref p) (.tuple []) (same_new np) (.tup (SqT.of upd_same) .nil) (.inl ⟨by rw [e], rfl⟩)
  have ne : tl t ≠ tl o := fun e => c0 (decide_eq_true (by rw [TL.ext_tl e]))
  refine ⟨Nat.zero_le _, fun l nl => ?_⟩
  refine ⟨_, rfl, _, _, rfl, ⟨tb, rfl⟩, _, rfl, by omega, by omega, ?_⟩
  rw [Int.toNat_natCast]
  refine for_range (lo := 0) (n := t.length) (fun a σ H2 => ∃ (rs : List Addr) (y3 y4 y5 : Option V), σ = [some (.str t), some (.str o), some (.ref l), y3, y4, y5] ∧ Same H H2 ∧ Tls enV H2 l rs (candTo (tl t) (tl o) a)) ?_ ?_ ?_
  · exact ⟨[], _, _, _, rfl, same_new nl, upd_same, rfl, fun i r x h => by simp at h, fun r h => by cases h⟩
  · rintro a σ H2 ha ⟨rs, y3, y4, y5, rfl, s2, T2⟩
    refine ⟨_, rfl, _, _, rfl, rfl, _, rfl, _, _, rfl, ⟨tb, rfl⟩, _, _, rfl, rfl, _, _, rfl, by omega, ?_⟩
    have hn : ((t.length : Int) + 1 - (0 + (a : Int) + 1)).toNat = t.length - a := by omega
    rw [hn]
    refine for_range (lo := 0 + (a : Int) + 1) (n := t.length - a) (fun k σ H3 => ∃ (rs : List Addr) (y4 y5 : Option V), σ = [some (.str t), some (.str o), some (.ref l), some (.int (0 + (a : Int))), y4, y5] ∧ Same H H3 ∧
        Tls enV H3 l rs (candTo (tl t) (tl o) a ++ candA (tl t) (tl o) a k)) ?_ ?_ ?_
    · refine ⟨rs, _, _, rfl, s2, ?_⟩
      rw [show candA (tl t) (tl o) a 0 = [] from rfl, List.append_nil]
      exact T2
    · rintro k σ H3 hk ⟨rs3, y4, y5, rfl, s3, T3⟩
      have ea : (0 + (a : Int)) = ((a : Nat) : Int) := by omega
      have eb : ((a : Int) + 1 + (k : Int)) = ((a + 1 + k : Nat) : Int) := by omega
      have eX : (o.length : Int) - (t.length : Int) + ((a + 1 + k : Nat) : Int) = beh (tl t) (tl o) (a + 1 + k) := by
        unfold beh
        rw [ht, hol]
        omega
      simp only [Int.zero_add, eb]
      have hno : okW (tl t) (tl o) a (a + 1 + k) = false → Tls enV H3 l rs3 (candTo (tl t) (tl o) a ++ candA (tl t) (tl o) a (k + 1)) := fun e => by
        rw [candA_succ, e]
        simpa using T3
      refine ⟨_, rfl, _, _, rfl, ⟨ob, rfl⟩, _, rfl, _, _, rfl, ⟨tb, rfl⟩, _, _, rfl, rfl, _, rfl, _, _, rfl, rfl, ?_⟩
      refine ⟨_, rfl, _, rfl, _, _, rfl, rfl, _, rfl, ite2 (fun c1 => ?_) (fun c1 => ?_)⟩
      · have hle : ((a : Nat) : Int) ≤ beh (tl t) (tl o) (a + 1 + k) := by
          rw [← eX]
          exact of_decide_eq_true c1
        obtain ⟨n, hnb⟩ : ∃ n : Nat, beh (tl t) (tl o) (a + 1 + k) = (n : Int) := ⟨(beh (tl t) (tl o) (a + 1 + k)).toNat, by omega⟩
        have hnt : (beh (tl t) (tl o) (a + 1 + k)).toNat = n := by omega
        have eY : (o.length : Int) - (t.length : Int) + ((a + 1 + k : Nat) : Int) = (n : Int) := by rw [eX, hnb]
        have cb : ∀ (z : Str) lo hi, z.length ≤ 100 → (cutS z lo hi).length ≤ 100 := fun z lo hi h => Nat.le_trans (cutS_length z lo hi) h
        have b1 := cb t none (some ((a : Nat) : Int)) lt
        have b2 := cb o (some ((a : Nat) : Int)) (some ((o.length : Int) - (t.length : Int) + ((a + 1 + k : Nat) : Int))) lo
        have b3 := cb t (some ((a + 1 + k : Nat) : Int)) none lt
        refine ⟨_, rfl, _, rfl, _, rfl, t, rfl, tb, _, rfl, _, rfl, _, rfl, _, rfl, _, rfl, o, rfl, ob, _, _, rfl, rfl, Nat.le_trans (show _ ≤ 1000 by omega) (by decide), _, rfl, _, rfl, _, rfl, t, rfl, tb, _, _, rfl, rfl, ?_, _, rfl, rfl, _, congrArg V.bl eqS, ?_⟩
        · rw [app_len]
          exact Nat.le_trans (show _ ≤ 1000 by omega) (by decide)
        have eT : tl (cutS t none (some ((a : Nat) : Int)) ++ cutS o (some ((a : Nat) : Int)) (some ((o.length : Int) - (t.length : Int) + ((a + 1 + k : Nat) : Int))) ++ cutS t (some ((a + 1 + k : Nat) : Int)) none) = (tl t).take a ++ cutN (tl o) a (beh (tl t) (tl o) (a + 1 + k)).toNat ++ (tl t).drop (a + 1 + k) := by
          rw [TL.tl_append, TL.tl_append, eY, tl_cutTo, tl_cutS, tl_cutFrom, hnt]
          rfl
        have wi := whole_iff (t := tl t) (o := tl o) (a := a) (b := a + 1 + k) (by omega) (by omega) hle
        show if decide (tl (cutS t none (some ((a : Nat) : Int)) ++ cutS o (some ((a : Nat) : Int)) (some ((o.length : Int) - (t.length : Int) + ((a + 1 + k : Nat) : Int))) ++ cutS t (some ((a + 1 + k : Nat) : Int)) none) = tl o) = true then _ else _
        rw [eT]
        refine ite2 (fun c2 => ?_) (fun c2 => ?_)
        · have w2 := wi.mp (of_decide_eq_true c2)
          · refine ⟨_, rfl, _, rfl, _, rfl, t, a, a + 1 + k, _, _, rfl, rfl, rfl, by omega, by omega, by omega, fun H4 s4 => ⟨_, rfl, ite2 (fun c4 => ?_) (fun c4 => ?_)⟩⟩
            · have hok : okW (tl t) (tl o) a (a + 1 + k) = true := by
                unfold okW
                rw [decide_eq_true hle, decide_eq_true w2.1, decide_eq_true w2.2, c4]
                rfl
              have T4 := T3.same s4
              refine ⟨_, rfl, .inl ⟨rfl, _, SqL.of T4.top⟩, _, rfl, _, rfl, _, _, rfl, rfl, _, rfl, _, _, rfl, rfl, _, rfl, _, _, rfl, rfl, _, rfl, _, rfl, _, rfl, _, rfl, _, rfl, _, rfl, _, rfl, o, rfl, ob, by show 4 ≤ sizeLine; decide, fun T nT => ?_⟩
              have hv : [V.int (((a + 1 + k : Nat) : Int) - (a : Nat) + ((o.length : Int) - (t.length : Int) + ((a + 1 + k : Nat) : Int)) - (a : Nat)), V.int (a : Nat), V.int ((a + 1 + k : Nat) : Int), V.str (cutS o (some ((a : Nat) : Int)) (some ((o.length : Int) - (t.length : Int) + ((a + 1 + k : Nat) : Int))))] = enV (enOf (tl t) (tl o) a (a + 1 + k)) := by
                have e1 : cutS o (some ((a : Nat) : Int)) (some (n : Int)) = sl (cutN (tl o) a n) := TL.ext_tl (by rw [tl_cutS, tl_sl (cutN _ _ _)]; rfl)
                rw [eX, hnb, e1]
                show _ = [V.int (((a + 1 + k : Nat) : Int) - (a : Nat) + beh (tl t) (tl o) (a + 1 + k) - (a : Nat)), V.int (a : Nat), V.int ((a + 1 + k : Nat) : Int), V.str (sl (cutN (tl o) a (beh (tl t) (tl o) (a + 1 + k)).toNat))]
                rw [hnt, hnb]
              have T5 := fun u => T4.same (same_new (o := u) nT)
              have Tl : T ≠ l := (ne_of_none T4.top nT).symm
              refine ⟨l, _, _, rfl, rfl, (T5 _).top, ?_, ?_⟩
              · rw [List.length_map, T4.len, List.length_append]
                have := clen a (by omega)
                have := candA_len (tl t) (tl o) a k
                exact Nat.lt_of_le_of_lt (show _ ≤ 20000 by omega) (by decide)
              · refine ⟨rs3 ++ [T], _, _, rfl, AB.Same.wr ((s3.trans s4).trans (same_new nT)) nl, ?_⟩
                rw [candA_succ, if_pos hok, ← List.append_assoc]
                refine (T5 _).app ?_ ?_ Tl fun b o hb e => by rw [upd_ne hb]; exact e
                · rw [upd_same, List.map_append]
                  rfl
                · rw [upd_ne Tl, upd_same]
                  exact congrArg (fun z => some (HO.tup z)) hv
            · exact ⟨rs3, _, _, rfl, s3.trans s4, (hno (by unfold okW; rw [Bool.eq_false_iff.mpr c4]; simp)).same s4⟩
        · refine ⟨rs3, _, _, rfl, s3, hno ?_⟩
          unfold okW
          by_cases q1 : (tl t).take a = (tl o).take a
          · have q2 : ¬ (tl t).drop (a + 1 + k) = (tl o).drop (beh (tl t) (tl o) (a + 1 + k)).toNat := fun q2 => c2 (decide_eq_true (wi.mpr ⟨q1, q2⟩))
            rw [decide_eq_false q2]
            simp
          · rw [decide_eq_false q1]
            simp
      · refine ⟨rs3, _, _, rfl, s3, hno ?_⟩
        unfold okW
        rw [decide_eq_false fun e => c1 (decide_eq_true (by rw [← eX] at e; exact e))]
        rfl
    · rintro σ H3 ⟨rs3, y4, y5, rfl, s3, T3⟩
      refine ⟨rs3, _, _, _, rfl, s3, ?_⟩
      rw [candTo_succ, ← ht]
      exact T3
  · rintro σ H2 ⟨rs, y3, y4, y5, rfl, s2, T2⟩
    rw [show candTo (tl t) (tl o) t.length = cands (tl t) (tl o) by rw [ht]; rfl] at T2
    refine ⟨_, rfl, Nat.zero_le _, fun l2 nl2 => ?_⟩
    have s3 : Same H (upd H2 l2 (.lst [])) := s2.trans (same_new nl2)
    have T3 := T2.same (same_new (o := .lst []) nl2)
    refine ⟨.list ((cands (tl t) (tl o)).map fun x => .tuple [.int x.1.a, .int x.1.b, .int x.1.c, .str x.2]), .list [], dpE T3, .lst (SqL.of upd_same) .nil, shapedE _ (fun x hx => cands_ok lto hx), rfl, _, rfl, ?_⟩
    rw [eqv_nil]
    by_cases hw : cands (tl t) (tl o) = []
    · rw [hw]
      exact q _ .non .none s3 .non (.inr (.inl ⟨ne, hw, rfl⟩))
    · rw [show (List.map (fun x : En => PyData.tuple [.int x.1.a, .int x.1.b, .int x.1.c, .str x.2]) (cands (tl t) (tl o))).isEmpty = false by
        rw [List.isEmpty_eq_false_iff, Ne, List.map_eq_nil_iff]
        exact hw]
      refine ⟨_, rfl, l, rs, cands (tl t) (tl o), rfl, SqL.of T3.top, T3.len, by rw [T3.len]; exact List.length_pos_iff.mpr hw, candTo_nodup _ _ _, fun i r x hr hx => SqT.of (T3.row i r x hr hx), fun i r x hr hx hmin => ?_⟩
      refine ⟨_, rfl, r, _, rfl, SqT.of (T3.row i r x hr hx), (by show ¬ (1 = 0 ∧ _); omega), fun p1 np1 => ⟨by show 1 ≤ sizeLine; decide, fun p2 np2 => ?_⟩⟩
      refine q _ (.ref p2) (.tuple [dE x]) ((s3.trans (same_new np1)).trans (same_new np2)) ?_ (.inr (.inr ⟨ne, x, List.mem_of_getElem? hx, hmin, rfl⟩))
      exact .tup (SqT.of upd_same) (.cons (.tup (SqT.of (same_new np2 _ _ upd_same)) (.cons (.int _) (.cons (.int _) (.cons (.str _) .nil)))) .nil)
end
end Law
namespace Law
open PySem PySem.Spec PyProof.Rows L2 AB
open TL (tl)
section
variable {P : Program} {w : World} {K : PySem.W.Frag} {mg : Str → Option Value} {base : Heap} {f : Addr} {fd : FuncData}
theorem ok_L_naround (X_L_naround : FX K mg "_law_naround" s_L_naround P_L_naround f fd) (B : Bt mg) : FnOk P w K mg base CX0 1 f fd P_L_naround spAround := by
  refine X_L_naround.F.ok sc_L_naround (fun vs H Q E h => ?_) (fun cdv A outer s H vs Q E hr h => ?_)
  · obtain ⟨t, rfl, _⟩ := h
    rfl
  obtain ⟨t, rfl, lt, q⟩ := h
  have tb : t.length ≤ sizeLine := Nat.le_trans lt (by decide)
  refine ⟨_, (pss_cons (ps_set (i := 3) sc_L_naround.nd rfl (.inl rfl) (pe_lst pa_nil))
  (pss_cons (ps_for PassesOwn.never rfl (pi_range1 (by rfl) B.b_range (pa_cons (pe_op op_add (pv 1) pe_int) pa_nil)) (pg_name (i := 4) sc_L_naround.nd rfl (.inr rfl))
  (pss_one (ps_expr (pe_bm PySem.F.plainAttrs_list PySem.F.slot_list_extend PySem.F.type_list_extend mt_extend (pv 3) (pa_cons (pe_lc (own := [("_law_tip", 5)]) (g := gName 5) (tt := tYes) (by rfl) sc_L_naround.nd (pi_range2 (by rfl) B.b_range (pa_cons (pe_callB (call_max2 rfl) (by rfl) B.b_max (by decide +kernel) (pa_cons (pv 2) (pa_cons (pe_op op_add (pv 4) pe_int) pa_nil))) (pa_cons (pe_op op_add (pe_callB (lenK (K := K) rfl) (by rfl) B.b_len (by decide +kernel) (pa_cons (pv 0) pa_nil)) pe_int) pa_nil))) (blkOk_by (own := [("_law_tip", 5)]) (N := N_L_naround) (sc := defScope s_L_naround) (by decide +kernel)) (fun _ _ _ _ _ => (pg_name (i := 5) sc_L_naround.nd rfl (.inl rfl))) (fun _ _ _ _ _ => pts_nil) (fun _ _ _ _ _ => (pe_tup (pa_cons (pv 4) (pa_cons (pv 5) pa_nil))))) pa_nil)))))
  (pss_one (ps_ret (pv 3))))), ?_⟩
  refine ⟨Nat.zero_le _, fun l nl => ?_⟩
  refine ⟨_, rfl, _, _, rfl, rfl, _, rfl, by omega, by omega, ?_⟩
  rw [show ((t.length : Int) + 1).toNat = t.length + 1 by omega]
  refine for_range (lo := 0) (n := t.length + 1) (fun k σ H2 => ∃ (rs : List Addr) (xs : List (Nat × Nat)) (y4 : Option V), σ = [some (.str t), some (.int (t.length : Nat)), some (.int 0), some (.ref l), y4, none] ∧ Same H H2 ∧ Tls pV H2 l rs xs ∧
      (∀ x ∈ xs, x.1 < x.2 ∧ x.2 ≤ t.length) ∧ xs.length ≤ 60 * k) ?_ ?_ ?_
  · exact ⟨[], [], _, rfl, same_new nl, ⟨upd_same, rfl, fun i r x h => by simp at h, fun r h => by cases h⟩, fun x h => (by cases h), Nat.zero_le _⟩
  · rintro k σ H2 hk ⟨rs, xs, y4, rfl, s2, T2, hx, lx⟩
    refine ⟨_, rfl, .inl ⟨rfl, _, SqL.of T2.top⟩, _, rfl, _, rfl, _, _, rfl, rfl, _, _, rfl, _, rfl, _, _, rfl, ⟨tb, rfl⟩, _, _, rfl, rfl, _, _, rfl, by split <;> omega, fun D nD => ?_⟩
    have e1 : (if (0 + (k : Int) + 1) > 0 then (0 + (k : Int) + 1) else 0) = (k : Int) + 1 := by rw [if_pos (by omega)]; omega
    rw [e1]
    have hn : ((t.length : Int) + 1 - ((k : Int) + 1)).toNat = t.length - k := by omega
    rw [hn]
    refine lc_range (lo := (k : Int) + 1) (n := t.length - k) (fun j H9 => ∃ (qs : List Addr) (ys : List (Nat × Nat)), Same H2 H9 ∧ Tls pV H9 D qs ys ∧ (∀ q ∈ qs, q ≠ l) ∧ (∀ x ∈ ys, x.1 < x.2 ∧ x.2 ≤ t.length) ∧ ys.length ≤ j) ?_ ?_ ?_
    · exact ⟨[], [], same_new nD, ⟨upd_same, rfl, fun i r x h => by simp at h, fun r h => by cases h⟩, fun r h => (by cases h), fun r h => (by cases h), Nat.zero_le _⟩
    · rintro j H9 hj ⟨qs, ys, s9, T9, hql, hy, ly⟩
      refine ⟨rfl, _, rfl, _, rfl, by show 2 ≤ sizeLine; decide, fun T nT => ?_⟩
      have T11 := fun u => T9.same (same_new (o := u) nT)
      have TD : T ≠ D := (ne_of_none T9.top nT).symm
      have Tl : T ≠ l := (ne_of_none (s9 _ _ T2.top) nT).symm
      refine ⟨_, (T11 _).top, ?_, qs ++ [T], ys ++ [(k, k + 1 + j)], AB.Same.wr (s9.trans (same_new nT)) nD, ?_, ?_, ?_, by simp; omega⟩
      · rw [List.length_map, T9.len]
        exact Nat.lt_of_le_of_lt (show _ ≤ 10000 by omega) (by decide)
      · refine (T11 _).app ?_ ?_ TD fun b o hb e => by rw [upd_ne hb]; exact e
        · rw [upd_same, List.map_append]
          rfl
        · rw [upd_ne TD, upd_same]
          show some (HO.tup [V.int (0 + (k : Int)), V.int ((k : Int) + 1 + (j : Int))]) = some (HO.tup [V.int ((k : Nat) : Int), V.int ((k + 1 + j : Nat) : Int)])
          rw [show (0 + (k : Int)) = ((k : Nat) : Int) by omega, show ((k : Int) + 1 + (j : Int)) = ((k + 1 + j : Nat) : Int) by omega]
      · intro q hq
        rcases List.mem_append.mp hq with h | h
        · exact hql q h
        · obtain rfl := List.mem_singleton.mp h
          exact Tl
      · intro x hx
        rcases List.mem_append.mp hx with h | h
        · exact hy x h
        · obtain rfl := List.mem_singleton.mp h
          refine ⟨?_, ?_⟩
          · show k < k + 1 + j
            omega
          · show k + 1 + j ≤ t.length
            omega
    · rintro H9 ⟨qs, ys, s9, T9, hql, hy, ly⟩
      have T89 := T2.same s9
      refine ⟨l, D, _, _, rfl, rfl, T89.top, T9.top, ?_, ?_⟩
      · rw [List.length_map, List.length_map, T89.len, T9.len]
        exact Nat.le_trans (show _ ≤ 100000 by omega) (by decide)
      · refine ⟨rs ++ qs, xs ++ ys, _, rfl, AB.Same.wr (s2.trans s9) nl, T89.ext T9 hql, ?_, by rw [List.length_append]; omega⟩
        intro x hx'
        rcases List.mem_append.mp hx' with h | h
        · exact hx x h
        · exact hy x h
  · rintro σ H2 ⟨rs, xs, y4, rfl, s2, T2, hx, lx⟩
    exact ⟨_, rfl, q H2 l rs xs s2 nl T2 hx (by omega)⟩
end
end Law
namespace Law
open PySem PySem.Spec PyProof.Rows L2 AB
open TL (tl)
section
variable {P : Program} {w : World} {K : PySem.W.Frag} {mg : Str → Option Value} {base : Heap} {f : Addr} {fd : FuncData}
theorem ok_L_ndrawn {f1 f2 f3 f4 f5 f6 : Addr} {d1 d2 d3 d4 d5 d6 : FuncData} (X_L_ndrawn : FX K mg "_law_ndrawn" s_L_ndrawn P_L_ndrawn f fd) (X_L_draw : FX K mg "_law_draw" s_L_draw P_L_draw f1 d1) (X_L_pick : FX K mg "_law_pick" s_L_pick P_L_pick f2 d2)
    (X_L_word : FX K mg "_law_word" s_L_word P_L_word f3 d3) (X_L_naround : FX K mg "_law_naround" s_L_naround P_L_naround f4 d4) (X_L_nonce : FX K mg "_law_nonce" s_L_nonce P_L_nonce f5 d5) (X_L_places : FX K mg "_law_places" s_L_places P_L_places f6 d6) (B : Bt mg) :
    FnOk P w K mg base CX0 4 f fd P_L_ndrawn spDrawn := by
  have G_L_draw : FnOk P w K mg base CX0 1 f1 d1 P_L_draw spDraw := ok_L_draw X_L_draw B
  have G_L_pick : FnOk P w K mg base CX0 2 f2 d2 P_L_pick (spPick K) := ok_L_pick X_L_pick X_L_draw B
  have G_L_word : FnOk P w K mg base CX0 3 f3 d3 P_L_word spWord := ok_L_word X_L_word X_L_draw X_L_pick B
  have G_L_naround : FnOk P w K mg base CX0 1 f4 d4 P_L_naround spAround := ok_L_naround X_L_naround B
  have G_L_nonce : FnOk P w K mg base CX0 2 f5 d5 P_L_nonce spOnce := ok_L_nonce X_L_nonce X_L_places B
  refine X_L_ndrawn.F.ok sc_L_ndrawn (fun vs H Q E h => ?_) (fun cdv A outer s H vs Q E hr h => ?_)
  · obtain ⟨p, c, n, t, z, rfl, _⟩ := h
    rfl
  obtain ⟨p, c, n, t, z, rfl, hp, hn, z0, z1, lz, ltt, lt, q⟩ := h
  have tb : t.length ≤ sizeLine := Nat.le_trans lt (by decide)
  refine ⟨_, (pss_cons (ps_asg (pe_tup (pa_cons (pe_lst pa_nil) (pa_cons pe_int pa_nil))) (pgK_tup (K := K) (n := 2) rfl rfl (pgs_cons (pg_name (i := 3) sc_L_ndrawn.nd rfl (.inl rfl)) (pgs_cons (pg_name (i := 4) sc_L_ndrawn.nd rfl (.inr rfl)) pgs_nil))))
  (pss_cons (ps_for PassesOwn.never rfl (pi_range1 (by rfl) B.b_range (pa_cons (pe_call G_L_draw (hr.mono (by decide)) (by rfl) X_L_draw.g X_L_draw.F.kp X_L_draw.b .nil pass0 (pa_cons (pv 0) (pa_cons pe_int pa_nil))) pa_nil)) (pg_name (i := 5) sc_L_ndrawn.nd rfl (.inl rfl))
  (pss_cons (ps_setLc (i := 6) (own := [("_law_span", 11)]) (g := gName 11)  (by rfl) sc_L_ndrawn.nd rfl rfl (sw_true rfl rfl rfl (by decide +kernel)) (piK_list (K := K) rfl (pe_call G_L_naround (hr.mono (by decide)) (by rfl) X_L_naround.g X_L_naround.F.kp X_L_naround.b .nil pass0 (pa_cons (pv 1) (pa_cons (pe_callB (lenK (K := K) rfl) (by rfl) B.b_len (by decide +kernel) (pa_cons (pv 1) pa_nil)) (pa_cons pe_int pa_nil))))) (blkOk_by (own := [("_law_span", 11)]) (N := N_L_ndrawn) (sc := defScope s_L_ndrawn) (by decide +kernel)) (fun _ _ _ _ _ => (pg_name (i := 11) sc_L_ndrawn.nd rfl (.inl rfl))) (fun _ _ _ _ _ => (pts_one (pt_cmpR op_ge (pe_ix (ixK_tup (K := K) rfl) (pv 11) pe_int (fun _ _ => rfl)) (pv 4) (nomark _)))) (fun _ _ _ _ _ => (pv 11)))
  (pss_cons (ps_setLc (i := 6) (own := [("_law_span", 11)]) (g := gName 11)  (by rfl) sc_L_ndrawn.nd rfl rfl (sw_true rfl rfl rfl (by decide +kernel)) (piK_list (K := K) rfl (pv 6)) (blkOk_by (own := [("_law_span", 11)]) (N := N_L_ndrawn) (sc := defScope s_L_ndrawn) (by decide +kernel)) (fun _ _ _ _ _ => (pg_name (i := 11) sc_L_ndrawn.nd rfl (.inl rfl))) (fun _ _ _ _ _ => (pts_one (pt_val (pe_call G_L_nonce (hr.mono (by decide)) (by rfl) X_L_nonce.g X_L_nonce.F.kp X_L_nonce.b .nil pass0 (pa_cons (pv 1) (pa_cons (pe_ix (ixK_tup (K := K) rfl) (pv 11) pe_int (fun _ _ => rfl)) (pa_cons (pe_ix (ixK_tup (K := K) rfl) (pv 11) pe_int (fun _ _ => rfl)) pa_nil))))))) (fun _ _ _ _ _ => (pv 11)))
  (pss_one (ps_if (pt_cmpR (neK_D (K := K) rfl hr.units) (pv 6) (pe_lst pa_nil) (nomark _))
  (pss_cons (ps_asg (pe_call G_L_pick (hr.mono (by decide)) (by rfl) X_L_pick.g X_L_pick.F.kp X_L_pick.b .nil pass0 (pa_cons (pv 0) (pa_cons (pe_slice (slK_list (K := K) rfl) (pv 6) po_none (po_some (pe_op op_add pe_int (pe_call G_L_draw (hr.mono (by decide)) (by rfl) X_L_draw.g X_L_draw.F.kp X_L_draw.b .nil pass0 (pa_cons (pv 0) (pa_cons (pe_callB (lenK (K := K) rfl) (by rfl) B.b_len (by decide +kernel) (pa_cons (pv 6) pa_nil)) pa_nil)))))) pa_nil))) (pgK_tup (K := K) (n := 2) rfl rfl (pgs_cons (pg_name (i := 7) sc_L_ndrawn.nd rfl (.inl rfl)) (pgs_cons (pg_name (i := 8) sc_L_ndrawn.nd rfl (.inl rfl)) pgs_nil))))
  (pss_cons (ps_set (i := 9) sc_L_ndrawn.nd rfl (.inl rfl) (pe_slice sl_str (pv 1) (po_some (pv 7)) (po_some (pv 8))))
  (pss_cons (ps_set (i := 10) sc_L_ndrawn.nd rfl (.inl rfl) (pe_lst (pa_cons (pe_call G_L_word (hr.mono (by decide)) (by rfl) X_L_word.g X_L_word.F.kp X_L_word.b .nil pass0 (pa_cons (pv 0) (pa_cons (pv 2) (pa_cons pe_int (pa_cons pe_int pa_nil))))) (pa_cons (pv 9) (pa_cons (pe_op op_add_str (pe_slice sl_str (pv 9) po_none (po_some pe_int)) (pe_slice sl_str (pv 9) (po_some pe_int) po_none)) (pa_cons (pe_op op_add_str (pe_slice sl_str (pv 9) (po_some pe_int) po_none) pe_str) pa_nil))))))
  (pss_cons (ps_expr (pe_bm PySem.F.plainAttrs_list PySem.F.slot_list_append PySem.F.type_list_append mt_append (pv 3) (pa_cons (pe_tup (pa_cons (pv 7) (pa_cons (pv 8) (pa_cons (pe_call G_L_pick (hr.mono (by decide)) (by rfl) X_L_pick.g X_L_pick.F.kp X_L_pick.b .nil pass0 (pa_cons (pv 0) (pa_cons (pv 10) pa_nil))) pa_nil)))) pa_nil)))
  (pss_one (ps_set (i := 4) sc_L_ndrawn.nd rfl (.inr rfl) (pv 8)))))))
  pss_nil)))))
  (pss_one (ps_ret (tupK_of (K := K) rfl (by rfl) B.b_tuple (pv 3)))))), ?_⟩
  refine ⟨Nat.zero_le _, fun l nl => ⟨by show 2 ≤ sizeLine; decide, fun T0 nT0 => ?_⟩⟩
  refine ⟨T0, _, rfl, SqT.of upd_same, rfl, _, _, rfl, _, _, rfl, rfl, ?_⟩
  have s0 : Same H (upd (upd H l (.lst [])) T0 (.tup [.ref l, .int 0])) := (same_new nl).trans (same_new nT0)
  have TE : Tls exV (upd (upd H l (.lst [])) T0 (.tup [.ref l, .int 0])) l [] [] := ⟨same_new nT0 _ _ upd_same, rfl, fun i r x h => by simp at h, fun r h => by cases h⟩
  refine ⟨_, rfl, p, c, n, 5, rfl, hp.same s0, by omega, by omega, by omega, fun H1 j j0 j1 k1 hp1 => ⟨_, rfl, by omega, by omega, ?_⟩⟩
  have TE1 := TE.kept (hp.same s0) k1
  have lp := hp.nep nl
  have lc := hp.nec nl
  obtain ⟨m, rfl⟩ : ∃ m : Nat, j = (m : Int) := ⟨j.toNat, by omega⟩
  rw [Int.toNat_natCast]
  refine for_range (lo := 0) (n := m) (fun k σ H2 => ∃ (rs : List Addr) (xs : List Ex) (beh : Nat) (y5 y6 y7 y8 y9 y10 : Option V), σ = [some (.ref p), some (.str t), some (.str z), some (.ref l), some (.int (beh : Nat)), y5, y6, y7, y8, y9, y10, none] ∧ Keep p H H2 ∧ Pen H2 p c (n + 1 + 10 * k) ∧
      Tls exV H2 l rs xs ∧ xs.length ≤ k ∧ RowsOk t.length 0 xs ∧ lastE 0 xs = beh ∧ ∀ x ∈ xs, ExOk t.length x ∧ ∀ d ∈ x.2.2, d ∈ tl lettersS) ?_ ?_ ?_
  · exact ⟨[], [], 0, _, _, _, _, _, _, rfl, (show Keep p H _ from fun b u _ e => s0 b u e).trans k1, hp1.mono (by omega), TE1, Nat.zero_le _, trivial, rfl, fun x h => (by cases h)⟩
  · rintro k σ H2 hk ⟨rs, xs, beh, y5, y6, y7, y8, y9, y10, rfl, k2, hp2, T2, lx, hr2, hl2, hx2⟩
    refine ⟨_, rfl, _, rfl, _, _, rfl, ⟨tb, rfl⟩, t, rfl, lt, fun H3 l3 rs3 ps3 s3 nl3 T3 hx3 lx3 => ?_⟩
    refine ⟨l3, rfl, ⟨_, SqL.of T3.top⟩, fun D nD => ?_⟩
    refine lc_list (K := K) (a := l3) (xs := rs3.map V.ref) (fun i H4 => ∃ (qs : List Addr) (ys : List (Nat × Nat)), Same H3 H4 ∧ Tls pV H4 D qs ys ∧ (∀ y ∈ ys, y.1 < y.2 ∧ y.2 ≤ t.length ∧ beh ≤ y.1) ∧ ys.length ≤ i) ?_ ?_ ?_ ?_
    · exact ⟨[], [], same_new nD, ⟨upd_same, rfl, fun i r x h => by simp at h, fun r h => by cases h⟩, fun r h => (by cases h), Nat.zero_le _⟩
    · rintro i H4 _ ⟨qs, ys, s4, _⟩
      exact SqL.of (s4 _ _ T3.top)
    · rintro i v H4 hv ⟨qs, ys, s4, T4, hy, ly⟩
      rw [List.getElem?_map] at hv
      cases hrk : rs3[i]? with
      | none => rw [hrk] at hv; cases hv
      | some rk =>
        rw [hrk] at hv
        obtain rfl : V.ref rk = v := Option.some.inj hv
        have hi : i < ps3.length := by rw [← T3.len]; exact (List.getElem?_eq_some_iff.mp hrk).1
        have hyi : ps3[i]? = some ps3[i] := List.getElem?_eq_getElem hi
        have oky := hx3 _ (List.getElem_mem hi)
        revert hyi oky
        generalize ps3[i] = y
        intro hyi oky
        have er := T3.row i rk y hrk hyi
        refine ⟨rfl, _, rfl, rk, _, _, _, rfl, rfl, SqT.of (s4 _ _ er), rfl, _, rfl, _, _, rfl, rfl, _, rfl, ite2 (fun c1 => ?_) (fun c1 => ?_)⟩
        · have hb : beh ≤ y.1 := by
            have := of_decide_eq_true c1
            omega
          refine ⟨_, rfl, _, T4.top, ?_, qs ++ [rk], ys ++ [y], AB.Same.wr s4 nD, ?_, ?_, by simp; omega⟩
          · rw [List.length_map, T4.len]
            exact Nat.lt_of_le_of_lt (show _ ≤ 10000 by omega) (by decide)
          · have rD : rk ≠ D := ne_of_none er nD
            refine T4.app ?_ ?_ rD fun b o hb e => by rw [upd_ne hb]; exact e
            · rw [upd_same, List.map_append]
              rfl
            · rw [upd_ne rD]
              exact s4 _ _ er
          · intro x hx
            rcases List.mem_append.mp hx with h | h
            · exact hy x h
            · obtain rfl := List.mem_singleton.mp h
              exact ⟨oky.1, oky.2, hb⟩
        · exact ⟨qs, ys, s4, T4, hy, by omega⟩
    rintro H4 ⟨qs4, ys4, s4, T4, hy4, ly4⟩
    rw [List.length_map, T3.len] at ly4
    refine ⟨_, rfl, D, rfl, ⟨_, SqL.of T4.top⟩, fun D2 nD2 => ?_⟩
    refine lc_list (K := K) (a := D) (xs := qs4.map V.ref) (fun i H5 => ∃ (qs : List Addr) (ys : List (Nat × Nat)), Same H4 H5 ∧ Tls pV H5 D2 qs ys ∧ (∀ y ∈ ys, y.1 < y.2 ∧ y.2 ≤ t.length ∧ beh ≤ y.1) ∧ ys.length ≤ i) ?_ ?_ ?_ ?_
    · exact ⟨[], [], same_new nD2, ⟨upd_same, rfl, fun i r x h => by simp at h, fun r h => by cases h⟩, fun r h => (by cases h), Nat.zero_le _⟩
    · rintro i H5 _ ⟨qs, ys, s5, _⟩
      exact SqL.of (s5 _ _ T4.top)
    · rintro i v H5 hv ⟨qs, ys, s5, T5, hy, ly⟩
      rw [List.getElem?_map] at hv
      cases hrk : qs4[i]? with
      | none => rw [hrk] at hv; cases hv
      | some rk =>
        rw [hrk] at hv
        obtain rfl : V.ref rk = v := Option.some.inj hv
        have hi : i < ys4.length := by rw [← T4.len]; exact (List.getElem?_eq_some_iff.mp hrk).1
        have hyi : ys4[i]? = some ys4[i] := List.getElem?_eq_getElem hi
        have oky := hy4 _ (List.getElem_mem hi)
        revert hyi oky
        generalize ys4[i] = y
        intro hyi oky
        have er := T4.row i rk y hrk hyi
        refine ⟨rfl, _, rfl, _, rfl, rk, _, _, _, rfl, rfl, SqT.of (s5 _ _ er), rfl, _, rfl, rk, _, _, _, rfl, rfl, SqT.of (s5 _ _ er), rfl, t, y.1, y.2, _, _, rfl, rfl, rfl, by omega, oky.1, oky.2.1, fun H6 s6 => ⟨_, rfl, ite2 (fun c1 => ?_) (fun c1 => ?_)⟩⟩
        · have T6 := T5.same s6
          refine ⟨_, rfl, _, T6.top, ?_, qs ++ [rk], ys ++ [y], AB.Same.wr (s5.trans s6) nD2, ?_, ?_, by simp; omega⟩
          · rw [List.length_map, T6.len]
            exact Nat.lt_of_le_of_lt (show _ ≤ 10000 by omega) (by decide)
          · have rD : rk ≠ D2 := ne_of_none er nD2
            refine T6.app ?_ ?_ rD fun b o hb e => by rw [upd_ne hb]; exact e
            · rw [upd_same, List.map_append]
              rfl
            · rw [upd_ne rD]
              exact s6 _ _ (s5 _ _ er)
          · intro x hx
            rcases List.mem_append.mp hx with h | h
            · exact hy x h
            · obtain rfl := List.mem_singleton.mp h
              exact oky
        · exact ⟨qs, ys, s5.trans s6, T5.same s6, hy, by omega⟩
    rintro H5 ⟨qs5, ys5, s5, T5, hy5, ly5⟩
    rw [List.length_map, T4.len] at ly5
    have sA : Same H2 H5 := (s3.trans s4).trans s5
    refine ⟨_, rfl, Nat.zero_le _, fun b nb => ?_⟩
    have sB : Same H2 (upd H5 b (.lst [])) := sA.trans (same_new nb)
    have T6 := T5.same (same_new (o := .lst []) nb)
    refine ⟨.list (ys5.map dP), .list [], dpP T6, .lst (SqL.of upd_same) .nil, shapedP _, rfl, _, congrArg V.bl not_empty_eqv, ite2 (fun c1 => ?_) (fun c1 => ?_)⟩
    · have hne : ys5 ≠ [] := by
        intro z
        rw [z] at c1
        simp at c1
      have hpos : 0 < ys5.length := List.length_pos_iff.mpr hne
      have hp6 : Pen (upd H5 b (.lst [])) p c _ := hp2.same sB
      refine ⟨_, rfl, _, rfl, _, rfl, _, rfl, _, _, rfl, .inl ⟨_, SqL.of T6.top, rfl⟩, p, c, _, _, rfl, hp6, by omega, ?_, ?_, fun H7 j7 j70 j71 k7 hp7 => ?_⟩
      · rw [List.length_map, T6.len]
        omega
      · rw [List.length_map, T6.len]
        omega
      rw [List.length_map, T6.len] at j71
      obtain ⟨u, rfl⟩ : ∃ u : Nat, j7 = (u : Int) := ⟨j7.toNat, by omega⟩
      have T7 := T6.kept hp6 k7
      have TA7 := (T2.same sB).kept hp6 k7
      have ecut : cutV (qs5.map V.ref) none (some (1 + (u : Int))) = (qs5.map V.ref).take (1 + u) := by
        have := cutV_to (xs := qs5.map V.ref) (n := 1 + u) (by rw [List.length_map, T7.len]; omega)
        rw [show ((1 + u : Nat) : Int) = 1 + (u : Int) by omega] at this
        exact this
      refine ⟨_, _, rfl, rfl, _, rfl, D2, _, rfl, SqL.of T7.top, fun p8 np8 => ?_⟩
      refine ⟨p, c, _, .ref p8, rfl, hp7.new np8, by omega, .inr ⟨p8, _, rfl, SqL.of upd_same, ?_, ?_, fun H9 i9 v hv k9 hp9 => ?_⟩⟩
      · rw [ecut]
        intro z
        have := congrArg List.length z
        rw [List.length_take, List.length_map, T7.len] at this
        have this : min (1 + u) ys5.length = 0 := this
        omega
      · rw [ecut, List.length_take, List.length_map, T7.len]
        omega
      rw [ecut] at hv
      obtain ⟨r, hr, rfl⟩ := List.mem_map.mp (List.mem_of_mem_take (List.mem_of_getElem? hv))
      obtain ⟨i, hi⟩ := List.getElem?_of_mem hr
      have hi2 : i < ys5.length := by rw [← T7.len]; exact (List.getElem?_eq_some_iff.mp hi).1
      have hyi : ys5[i]? = some ys5[i] := List.getElem?_eq_getElem hi2
      have oky := hy5 _ (List.getElem_mem hi2)
      revert hyi oky
      generalize ys5[i] = y
      intro hyi oky
      obtain ⟨o1, o2, o3⟩ := oky
      have TB := fun u => T7.same (same_new (o := u) np8)
      have T9 := (TB _).kept (hp7.new np8) k9
      have TA9 := (TA7.same (same_new np8)).kept (hp7.new np8) k9
      have er := T9.row i r y hi hyi
      refine ⟨r, _, rfl, SqT.of er, rfl, _, _, rfl, _, _, rfl, rfl, ?_⟩
      refine ⟨_, rfl, _, rfl, _, rfl, _, rfl, _, rfl, t, rfl, tb, ?_⟩
      have sl1 : (cutS t (some ((y.1 : Nat) : Int)) (some ((y.2 : Nat) : Int))).length ≤ 50 := Nat.le_trans (cutS_length _ _ _) lt
      have slt : Lt (cutS t (some ((y.1 : Nat) : Int)) (some ((y.2 : Nat) : Int))) := ltt.cut
      refine ⟨_, rfl, _, rfl, p, c, _, z, 0, 3, rfl, hp9, z0, z1, by omega, by omega, by omega, fun H10 w1 k10 hp10 _ lw1 mw1 => ?_⟩
      generalize cutS t (some ((y.1 : Nat) : Int)) (some ((y.2 : Nat) : Int)) = S at sl1 slt ⊢
      have sb : S.length ≤ sizeLine := Nat.le_trans sl1 (by decide)
      have cb : ∀ lo hi, (cutS S lo hi).length ≤ 50 := fun lo hi => Nat.le_trans (cutS_length S lo hi) sl1
      have cb1 := cb none (some 1)
      have cb2 := cb (some 2) none
      have cb3 := cb (some 1) none
      refine ⟨_, rfl, _, rfl, _, rfl, S, rfl, sb, _, rfl, _, rfl, S, rfl, sb, _, _, rfl, rfl, Nat.le_trans (show _ ≤ 1000 by omega) (by decide), _, rfl, _, rfl, S, rfl, sb, _, _, rfl, rfl, ?_, by show 4 ≤ sizeLine; decide, fun b2 nb2 => ?_⟩
      · show (cutS S (some 1) none).length + 1 ≤ _
        exact Nat.le_trans (show _ ≤ 1000 by omega) (by decide)
      have TA10 := (TA9.kept hp9 k10).same (same_new (o := .lst ([w1, S, cutS S none (some 1) ++ cutS S (some 2) none, cutS S (some 1) none ++ Str.ofString "q"].map V.str)) nb2)
      refine ⟨_, rfl, .inl ⟨rfl, _, SqL.of TA10.top⟩, _, rfl, _, rfl, _, rfl, _, rfl, p, c, _, .ref b2, rfl, hp10.new nb2, by omega, .inr ⟨b2, [w1, S, cutS S none (some 1) ++ cutS S (some 2) none, cutS S (some 1) none ++ Str.ofString "q"].map V.str, rfl, SqL.of upd_same, by simp, by show 4 ≤ 100000; decide, fun H11 i11 v hv11 k11 hp11 => ?_⟩⟩
      obtain ⟨g, hg, rfl⟩ := at_map_str hv11
      have hg2 : g.length ≤ 100 ∧ Lt g := by
        simp only [List.mem_cons, List.not_mem_nil, or_false] at hg
        rcases hg with rfl | rfl | rfl | rfl
        · exact ⟨by omega, lz.of_mem mw1⟩
        · exact ⟨by omega, slt⟩
        · refine ⟨?_, slt.cut.app slt.cut⟩
          rw [app_len]
          omega
        · refine ⟨?_, slt.cut.app (Lt.dec (by decide +kernel))⟩
          rw [app_len]
          show _ + 1 ≤ 100
          omega
      have TA11 := TA10.kept (hp10.new nb2) k11
      refine ⟨by show 3 ≤ sizeLine; decide, fun T nT => ?_⟩
      have TA12 := fun u => TA11.same (same_new (o := u) nT)
      have Tl : T ≠ l := (ne_of_none TA11.top nT).symm
      refine ⟨l, _, _, rfl, rfl, (TA12 _).top, ?_, ?_⟩
      · rw [List.length_map, TA11.len]
        exact Nat.lt_of_le_of_lt (show _ ≤ 10000 by omega) (by decide)
      have hrs := rows_snoc (x := (y.1, y.2, tl g)) hr2 (by rw [hl2]; exact o3) o1 o2
      refine ⟨_, rfl, rs ++ [T], xs ++ [(y.1, y.2, tl g)], y.2, _, _, _, _, _, _, rfl, ?_, ?_, ?_, by rw [List.length_append]; show _ + 1 ≤ _; omega, hrs.1, hrs.2, ?_⟩
      · exact ((((((k2.trans (fun b u _ e => sB b u e)).trans k7).trans (Keep.new np8)).trans k9).trans k10).trans (Keep.new nb2)).trans k11 |>.trans (Keep.new nT) |>.wr nl
      · exact ((hp11.new nT).wr lp lc).mono (by omega)
      · refine (TA12 _).app ?_ ?_ Tl fun b o hb e => by rw [upd_ne hb]; exact e
        · rw [upd_same, List.map_append]
          rfl
        · rw [upd_ne Tl, upd_same]
          show some (HO.tup [_, _, V.str g]) = some (HO.tup [_, _, V.str (sl (tl g))])
          rw [sl_tl]
      · intro x hx
        rcases List.mem_append.mp hx with h | h
        · exact hx2 x h
        · obtain rfl := List.mem_singleton.mp h
          refine ⟨⟨o1, o2, ?_⟩, hg2.2⟩
          show (tl g).length ≤ 100
          rw [← TL.len_tl]
          exact hg2.1
    · exact ⟨rs, xs, beh, _, _, _, _, _, _, rfl, k2.trans (fun b u _ e => sB b u e), (hp2.same sB).mono (by omega), T2.same sB, by omega, hr2, hl2, hx2⟩
  · rintro σ H2 ⟨rs, xs, beh, y5, y6, y7, y8, y9, y10, rfl, k2, hp2, T2, lx, hr2, hl2, hx2⟩
    refine ⟨_, rfl, .inl ⟨l, _, rfl, SqL.of T2.top, fun e ne => ?_⟩⟩
    exact q _ e rs xs (k2.trans (Keep.new ne)) ((hp2.new ne).mono (by omega)) (T2.tup ne) (by omega) hr2 hx2
end
end Law
namespace Law
open PySem PySem.Spec PyProof.Rows L2 AB
open TL (tl)
section
variable {P : Program} {w : World} {K : PySem.W.Frag} {mg : Str → Option Value} {base : Heap} {f : Addr} {fd : FuncData}
theorem ok_cost_of (X_cost_of : FX0 K mg "cost_of" s_cost_of f fd) (B : Bt mg) : FnOk P w K mg base CX0 1 f fd P_cost_of spCost := by
  refine X_cost_of.F.ok sc_cost_of (fun vs H Q E h => ?_) (fun cdv A outer s H vs Q E hr h => ?_)
  · obtain ⟨e, rs, xs, rfl, _⟩ := h
    rfl
  obtain ⟨e, rs, xs, rfl, T, lx, ok, q⟩ := h
  refine ⟨_, (pss_one (ps_ret (pe_callB (cr_sum rfl) (by rfl) B.b_sum (by decide +kernel) (pa_cons (pe_lc (own := [("begin", 2), ("end", 3), ("new", 4)])  (tt := tYes) (by rfl) sc_cost_of.nd (piK_tup (K := K) rfl (pv 0)) (blkOk_by (own := [("begin", 2), ("end", 3), ("new", 4)]) (N := N_cost_of) (sc := defScope s_cost_of) (by decide +kernel)) (fun _ _ _ _ _ => (pgK_tup (K := K) (n := 3) rfl rfl (pgs_cons (pg_name (i := 2) sc_cost_of.nd rfl (.inl rfl)) (pgs_cons (pg_name (i := 3) sc_cost_of.nd rfl (.inl rfl)) (pgs_cons (pg_name (i := 4) sc_cost_of.nd rfl (.inl rfl)) pgs_nil))))) (fun _ _ _ _ _ => pts_nil) (fun _ _ _ _ _ => (pe_op op_add (pe_op op_add (pe_op op_sub (pv 3) (pv 2)) (pe_callB (lenK (K := K) rfl) (by rfl) B.b_len (by decide +kernel) (pa_cons (pv 4) pa_nil))) (pv 1)))) pa_nil)))), ?_⟩
  refine ⟨_, rfl, e, rfl, ⟨_, SqT.of T.top⟩, fun D nD => ?_⟩
  refine lc_tup (K := K) (a := e) (xs := rs.map V.ref) (fun i H4 => Same H H4 ∧ H4 D = some (.lst ((costs (xs.take i)).map V.int))) ?_ ?_ ?_ ?_
  · exact ⟨same_new nD, upd_same⟩
  · rintro i H4 _ ⟨s4, _⟩
    exact SqT.of (s4 _ _ T.top)
  · rintro k v H4 hv ⟨s4, eD⟩
    rw [List.getElem?_map] at hv
    cases hrk : rs[k]? with
    | none => rw [hrk] at hv; cases hv
    | some rk =>
      rw [hrk] at hv
      obtain rfl : V.ref rk = v := Option.some.inj hv
      have hk : k < xs.length := by rw [← T.len]; exact (List.getElem?_eq_some_iff.mp hrk).1
      have hy : xs[k]? = some xs[k] := List.getElem?_eq_getElem hk
      have oky := ok _ (List.getElem_mem hk)
      revert hy oky
      generalize xs[k] = y
      intro hy oky
      have htk : xs.take (k + 1) = xs.take k ++ [y] := by rw [List.take_add_one, hy]; rfl
      have sb : (sl y.2.2).length ≤ sizeLine := by rw [sl_len]; exact Nat.le_trans oky.1 (by decide)
      refine ⟨rk, _, rfl, SqT.of (s4 _ _ (T.row k rk y hrk hy)), rfl, _, _, rfl, _, _, rfl, _, _, rfl, rfl, rfl, _, rfl, _, rfl, _, _, rfl, rfl, _, rfl, _, _, rfl, ⟨sb, rfl⟩, _, _, rfl, rfl, _, rfl, _, _, rfl, rfl, _, eD, ?_, AB.Same.wr s4 nD, ?_⟩
      · unfold costs
        rw [List.length_map, List.length_map, List.length_take]
        exact Nat.lt_of_le_of_lt (show _ ≤ 10000 by omega) (by decide)
      · rw [upd_same, htk]
        unfold costs
        rw [List.map_append, List.map_append, sl_len]
        rfl
  · rintro H4 ⟨s4, eD⟩
    rw [List.length_map, T.len, List.take_length] at eD
    exact ⟨D, costs xs, rfl, SqL.of eD, q H4 s4⟩
end
end Law
namespace Law
open PySem PySem.Spec PyProof.Rows L2 AB
open TL (tl)
section
variable {P : Program} {w : World} {K : PySem.W.Frag} {mg : Str → Option Value} {base : Heap} {f : Addr} {fd : FuncData}
theorem ok_law {f1 f2 f3 f4 f5 f6 f7 f8 f9 f10 f11 f12 f13 f14 f15 f16 f17 f18 f19 : Addr} {d1 d2 d3 d4 d5 d6 d7 d8 d9 d10 d11 d12 d13 d14 d15 d16 d17 d18 d19 : FuncData} {ds : List Value} (X_law : FX K mg "law" s_law P_law f fd)
    (X_L_pen : FX K mg "_law_pen" s_L_pen P_L_pen f1 d1) (X_L_draw : FX K mg "_law_draw" s_L_draw P_L_draw f2 d2)
    (X_L_pick : FX K mg "_law_pick" s_L_pick P_L_pick f3 d3) (X_L_signs : FX K mg "_law_signs" s_L_signs P_L_signs f4 d4)
    (X_L_few : FX K mg "_law_few" s_L_few P_L_few f5 d5) (X_L_word : FX K mg "_law_word" s_L_word P_L_word f6 d6)
    (X_L_ntext : FX K mg "_law_ntext" s_L_ntext P_L_ntext f7 d7) (X_L_places : FX K mg "_law_places" s_L_places P_L_places f8 d8) (X_L_nonce : FX K mg "_law_nonce" s_L_nonce P_L_nonce f9 d9)
    (X_L_naround : FX K mg "_law_naround" s_L_naround P_L_naround f10 d10) (X_L_nput : FX K mg "_law_nput" s_L_nput P_L_nput f11 d11) (X_L_ndrawn : FX K mg "_law_ndrawn" s_L_ndrawn P_L_ndrawn f12 d12)
    (X_L_nsingle : FX K mg "_law_nsingle" s_L_nsingle P_L_nsingle f13 d13) (X_L_nthin : FX K mg "_law_nthin" s_L_nthin P_L_nthin f14 d14) (X_places : FX K mg "places" s_places P_places f15 d15)
    (X_stands_once : FX K mg "stands_once" s_stands_once P_stands_once f16 d16) (X_single : FX K mg "single" s_single P_single f17 d17) (X_thin : FX K mg "thin" s_thin P_thin f18 d18) (X_thinned : FX K mg "thinned" s_thinned P_thinned f19 d19)
    {f20 : Addr} {d20 : FuncData} (X_cost_of : FX0 K mg "cost_of" s_cost_of f20 d20) (BD_cost_of : Binds K d20 P_cost_of ds) (VD_cost_of : Vals [V.int 0] ds)
    (KB_single : KBinds K d17 P_single ["other", "one"] kb21 kb21) (KB_thinned : KBinds K d19 P_thinned ["exchange", "text"] kb21 kb21) (B : Bt mg) :
    FnG P w K mg base CX0 5 f fd P_law (spLaw K) := by
  have G_L_pen : FnOk P w K mg base CX0 1 f1 d1 P_L_pen (spPen K) := ok_L_pen X_L_pen B
  have G_L_draw : FnOk P w K mg base CX0 1 f2 d2 P_L_draw spDraw := ok_L_draw X_L_draw B
  have G_L_pick : FnOk P w K mg base CX0 2 f3 d3 P_L_pick (spPick K) := ok_L_pick X_L_pick X_L_draw B
  have G_L_few : FnOk P w K mg base CX0 3 f5 d5 P_L_few spFew := ok_L_few X_L_few X_L_draw X_L_pick X_L_signs B
  have G_L_word : FnOk P w K mg base CX0 3 f6 d6 P_L_word spWord := ok_L_word X_L_word X_L_draw X_L_pick B
  have G_L_ntext : FnOk P w K mg base CX0 4 f7 d7 P_L_ntext spNtext := ok_L_ntext X_L_ntext X_L_draw X_L_pick X_L_word B
  have G_L_nput : FnOk P w K mg base CX0 1 f11 d11 P_L_nput spPut := ok_L_nput X_L_nput B
  have G_L_ndrawn : FnOk P w K mg base CX0 4 f12 d12 P_L_ndrawn spDrawn := ok_L_ndrawn X_L_ndrawn X_L_draw X_L_pick X_L_word X_L_naround X_L_nonce X_L_places B
  have G_L_nsingle : FnOk P w K mg base CX0 3 f13 d13 P_L_nsingle (spSingle K) := ok_L_nsingle X_L_nsingle X_L_nonce X_L_places B
  have G_L_nthin : FnOk P w K mg base CX0 3 f14 d14 P_L_nthin spThin := ok_L_nthin X_L_nthin X_L_nonce X_L_places B
  have G_single : FnOk P w K mg base CX0 3 f17 d17 P_single (spSingle K) := ok_single X_single X_stands_once X_places B
  have G_thinned : FnOk P w K mg base CX0 4 f19 d19 P_thinned spThinned := ok_thinned X_thinned X_thin X_stands_once X_places B
  have G_cost_of : FnOk P w K mg base CX0 1 f20 d20 P_cost_of spCost := ok_cost_of X_cost_of B
  refine gun_ok X_law.F sc_law (fun vs H Q E h => ?_) (fun cdv A outer s H vs Q E hr hg h => ?_)
  · obtain ⟨a, ns, rfl, _⟩ := h
    rfl
  obtain ⟨a, ns, rfl, hS, hl, q⟩ := h
  refine ⟨_, PSs.nox (pss_cons (ps_set (i := 1) sc_law.nd rfl (.inl rfl) (pe_call G_L_pen (hr.mono (by decide)) (by rfl) X_L_pen.g X_L_pen.F.kp X_L_pen.b .nil pass0 (pa_cons (pv 0) pa_nil)))
  (pss_cons (ps_for PassesOwn.never rfl (pi_range1 (by rfl) B.b_range (pa_cons (pe_op op_add pe_int (pe_callB (call_min2 rfl) (by rfl) B.b_min (by decide +kernel) (pa_cons pe_int (pa_cons (pe_callB (lenK (K := K) rfl) (by rfl) B.b_len (by decide +kernel) (pa_cons (pv 0) pa_nil)) pa_nil)))) pa_nil)) (pg_name (i := 2) sc_law.nd rfl (.inl rfl))
  (pss_cons (ps_set (i := 3) sc_law.nd rfl (.inl rfl) (pe_call G_L_few (hr.mono (by decide)) (by rfl) X_L_few.g X_L_few.F.kp X_L_few.b .nil pass0 (pa_cons (pv 1) pa_nil)))
  (pss_cons (ps_set (i := 4) sc_law.nd rfl (.inr rfl) (pe_call G_L_ntext (hr.mono (by decide)) (by rfl) X_L_ntext.g X_L_ntext.F.kp X_L_ntext.b .nil pass0 (pa_cons (pv 1) (pa_cons (pv 3) (pa_cons pe_int pa_nil)))))
  (pss_cons (ps_set (i := 5) sc_law.nd rfl (.inl rfl) (pe_call G_L_draw (hr.mono (by decide)) (by rfl) X_L_draw.g X_L_draw.F.kp X_L_draw.b .nil pass0 (pa_cons (pv 1) (pa_cons (pe_op op_add (pe_callB (lenK (K := K) rfl) (by rfl) B.b_len (by decide +kernel) (pa_cons (pv 4) pa_nil)) pe_int) pa_nil))))
  (pss_cons (ps_set (i := 6) sc_law.nd rfl (.inl rfl) (pe_op op_add_str (pe_op op_add_str (pe_slice sl_str (pv 4) po_none (po_some (pv 5))) (pe_call G_L_word (hr.mono (by decide)) (by rfl) X_L_word.g X_L_word.F.kp X_L_word.b .nil pass0 (pa_cons (pv 1) (pa_cons (pv 3) (pa_cons pe_int (pa_cons pe_int pa_nil)))))) (pe_slice sl_str (pv 4) (po_some (pe_op op_add (pv 5) (pe_call G_L_draw (hr.mono (by decide)) (by rfl) X_L_draw.g X_L_draw.F.kp X_L_draw.b .nil pass0 (pa_cons (pv 1) (pa_cons pe_int pa_nil))))) po_none)))
  (pss_cons (ps_set (i := 6) sc_law.nd rfl (.inl rfl) (pe_call G_L_pick (hr.mono (by decide)) (by rfl) X_L_pick.g X_L_pick.F.kp X_L_pick.b .nil pass0 (pa_cons (pv 1) (pa_cons (pe_lst (pa_cons (pv 6) (pa_cons (pv 6) (pa_cons (pv 6) (pa_cons (pe_call G_L_ntext (hr.mono (by decide)) (by rfl) X_L_ntext.g X_L_ntext.F.kp X_L_ntext.b .nil pass0 (pa_cons (pv 1) (pa_cons (pv 3) (pa_cons pe_int pa_nil)))) (pa_cons (pv 4) (pa_cons pe_str pa_nil))))))) pa_nil))))
  (pss_cons (ps_if (pt_cmpR op_ne (pe_callB (reprK (K := K) rfl hr hg) (by rfl) B.b_repr (by decide +kernel) (pa_cons (pe_callK0 G_single (hr.mono (by decide)) (by rfl) X_single.g X_single.F.kp KB_single pass0 (pk_cons (pv 6) (pk_cons (pv 4) pk_nil))) pa_nil)) (pe_callB (reprK (K := K) rfl hr hg) (by rfl) B.b_repr (by decide +kernel) (pa_cons (pe_call G_L_nsingle (hr.mono (by decide)) (by rfl) X_L_nsingle.g X_L_nsingle.F.kp X_L_nsingle.b .nil pass0 (pa_cons (pv 4) (pa_cons (pv 6) pa_nil))) pa_nil)) (nomark _))
  (pss_one (ps_ret pe_bl))
  pss_nil)
  (pss_cons (ps_set (i := 7) sc_law.nd rfl (.inl rfl) (pe_call G_L_ndrawn (hr.mono (by decide)) (by rfl) X_L_ndrawn.g X_L_ndrawn.F.kp X_L_ndrawn.b .nil pass0 (pa_cons (pv 1) (pa_cons (pv 4) (pa_cons (pv 3) pa_nil)))))
  (pss_cons (ps_set (i := 8) sc_law.nd rfl (.inl rfl) (tupK_of (K := K) rfl (by rfl) B.b_tuple (pe_lc (own := [("_law_a", 10), ("_law_b", 11), ("_law_fresh", 12)])   (by rfl) sc_law.nd (piK_tup (K := K) rfl (pv 7)) (blkOk_by (own := [("_law_a", 10), ("_law_b", 11), ("_law_fresh", 12)]) (N := N_law) (sc := defScope s_law) (by decide +kernel)) (fun _ _ _ _ _ => (pgK_tup (K := K) (n := 3) rfl rfl (pgs_cons (pg_name (i := 10) sc_law.nd rfl (.inl rfl)) (pgs_cons (pg_name (i := 11) sc_law.nd rfl (.inl rfl)) (pgs_cons (pg_name (i := 12) sc_law.nd rfl (.inl rfl)) pgs_nil))))) (fun _ _ _ _ _ => (pts_one (pt_cmpR op_ne (pe_slice sl_str (pv 4) (po_some (pv 10)) (po_some (pv 11))) (pv 12) (nomark _)))) (fun _ _ _ _ _ => (pe_call G_L_nthin (hr.mono (by decide)) (by rfl) X_L_nthin.g X_L_nthin.F.kp X_L_nthin.b .nil pass0 (pa_cons (pv 4) (pa_cons (pv 10) (pa_cons (pv 11) (pa_cons (pv 12) pa_nil)))))))))
  (pss_cons (ps_set (i := 9) sc_law.nd rfl (.inl rfl) (pe_callK0 G_thinned (hr.mono (by decide)) (by rfl) X_thinned.g X_thinned.F.kp KB_thinned pass0 (pk_cons (pv 7) (pk_cons (pv 4) pk_nil))))
  (C8.pss_cut (ps_if (PW.pt (pw_or (pt_cmpR op_ne (pe_callB (reprK (K := K) rfl hr hg) (by rfl) B.b_repr (by decide +kernel) (pa_cons (pv 9) pa_nil)) (pe_callB (reprK (K := K) rfl hr hg) (by rfl) B.b_repr (by decide +kernel) (pa_cons (pv 8) pa_nil)) (nomark _)) (pw_or1 (pt_cmpR op_ne (pe_call G_L_nput (hr.mono (by decide)) (by rfl) X_L_nput.g X_L_nput.F.kp X_L_nput.b .nil pass0 (pa_cons (pv 4) (pa_cons (pv 9) pa_nil))) (pe_call G_L_nput (hr.mono (by decide)) (by rfl) X_L_nput.g X_L_nput.F.kp X_L_nput.b .nil pass0 (pa_cons (pv 4) (pa_cons (pv 7) pa_nil))) (nomark _)))))
  (pss_one (ps_ret pe_bl))
  pss_nil)
  (pss_one (ps_if (PW.pt (pw_or (pt_cmpR op_gt (pe_call G_cost_of (hr.mono (by decide)) (by rfl) X_cost_of.g X_cost_of.F.kp BD_cost_of VD_cost_of pass0 (pa_cons (pv 9) pa_nil)) (pe_call G_cost_of (hr.mono (by decide)) (by rfl) X_cost_of.g X_cost_of.F.kp BD_cost_of VD_cost_of pass0 (pa_cons (pv 7) pa_nil)) (nomark _)) (pw_or1 (pt_cmpR op_ne (pe_callB (reprK (K := K) rfl hr hg) (by rfl) B.b_repr (by decide +kernel) (pa_cons (pe_call G_thinned (hr.mono (by decide)) (by rfl) X_thinned.g X_thinned.F.kp X_thinned.b .nil pass0 (pa_cons (pv 4) (pa_cons (pv 9) pa_nil))) pa_nil)) (pe_callB (reprK (K := K) rfl hr hg) (by rfl) B.b_repr (by decide +kernel) (pa_cons (pv 9) pa_nil)) (nomark _)))))
  (pss_one (ps_ret pe_bl))
  pss_nil)))))))))))))
  (pss_one (ps_ret (pe_and (pe_cmpR op_isN (pe_call G_single (hr.mono (by decide)) (by rfl) X_single.g X_single.F.kp X_single.b .nil pass0 (pa_cons pe_str (pa_cons pe_str pa_nil))) pe_non (nomark _)) (pe_and (pe_cmpR (eqK_D (K := K) rfl hr.units) (pe_call G_single (hr.mono (by decide)) (by rfl) X_single.g X_single.F.kp X_single.b .nil pass0 (pa_cons pe_str (pa_cons pe_str pa_nil))) (pe_tup pa_nil) (nomark _)) (pe_one (pe_cmpR (eqK_D (K := K) rfl hr.units) (pe_call G_thinned (hr.mono (by decide)) (by rfl) X_thinned.g X_thinned.F.kp X_thinned.b .nil pass0 (pa_cons pe_str (pa_cons (pe_tup pa_nil) pa_nil))) (pe_tup pa_nil) (nomark _))))))))), ?_⟩
  refine ⟨_, rfl, a, ns, rfl, hS, hl, fun H1 p c s1 np hp1 => ?_⟩
  have hS1 := s1.seq hS
  refine ⟨_, rfl, _, _, rfl, .inl ⟨_, hS1, rfl⟩, _, _, rfl, _, _, rfl, rfl, (8 : Int) + (if ((ns.map V.int).length : Int) < 8 then ((ns.map V.int).length : Int) else 8), rfl, by split <;> omega, by split <;> omega, ?_⟩
  have hj : ((8 : Int) + (if ((ns.map V.int).length : Int) < 8 then ((ns.map V.int).length : Int) else 8)).toNat ≤ 16 := by split <;> omega
  revert hj
  generalize ((8 : Int) + (if ((ns.map V.int).length : Int) < 8 then ((ns.map V.int).length : Int) else 8)).toNat = N
  intro hj
  refine for_range (lo := 0) (n := N) (fun i σ H2 => ∃ y2 y3 y4 y5 y6 y7 y8 y9 : Option V, σ = [some (.ref a), some (.ref p), y2, y3, y4, y5, y6, y7, y8, y9, none, none, none] ∧ Pen H2 p c (200 * i)) ?_ ?_ ?_
  · exact ⟨_, _, _, _, _, _, _, _, rfl, hp1⟩
  · rintro i σ H2 hi ⟨y2, y3, y4, y5, y6, y7, y8, y9, rfl, hp2⟩
    have hb : 200 * i ≤ 3200 := by omega
    revert hp2 hb
    generalize hM : 200 * i = M
    intro hp2 hb
    refine ⟨_, rfl, p, c, M, rfl, hp2, by omega, fun H3 z k3 hp3 z1 z2 lz => ?_⟩
    refine ⟨_, rfl, _, rfl, p, c, _, z, 9, rfl, hp3, by omega, by omega, by omega, by omega, fun H4 t k4 hp4 lt mt => ?_⟩
    have tb : t.length ≤ sizeLine := Nat.le_trans lt (by decide)
    have ltt : Lt t := lz.of_mem mt
    refine ⟨_, rfl, _, rfl, _, _, rfl, ⟨tb, rfl⟩, _, _, rfl, rfl, p, c, _, _, rfl, hp4, by omega, by omega, by omega, fun H5 at' a0 a1 k5 hp5 => ?_⟩
    have cb : ∀ lo hi, (cutS t lo hi).length ≤ 9 := fun lo hi => Nat.le_trans (cutS_length t lo hi) lt
    refine ⟨_, rfl, _, rfl, _, rfl, t, rfl, tb, _, rfl, _, rfl, p, c, _, z, 0, 2, rfl, hp5, by omega, by omega, by omega, by omega, by omega, fun H6 w1 k6 hp6 _ lw1 mw1 => ?_⟩
    have cb1 := cb none (some at')
    refine ⟨_, _, rfl, rfl, Nat.le_trans (show _ ≤ 100 by omega) (by decide), ?_⟩
    refine ⟨_, rfl, _, rfl, _, rfl, p, c, _, 3, rfl, hp6, by omega, by omega, by omega, fun H7 j7 _ _ k7 hp7 => ?_⟩
    have cb2 := cb (some (at' + j7)) none
    refine ⟨_, _, rfl, rfl, _, rfl, t, rfl, tb, _, _, rfl, rfl, ?_, ?_⟩
    · rw [app_len]
      exact Nat.le_trans (show _ ≤ 200 by omega) (by decide)
    have nl1 : (cutS t none (some at') ++ w1 ++ cutS t (some (at' + j7)) none).length ≤ 20 := by
      rw [app_len, app_len]
      omega
    have nl2 : Lt (cutS t none (some at') ++ w1 ++ cutS t (some (at' + j7)) none) := (ltt.cut.app (lz.of_mem mw1)).app ltt.cut
    refine ⟨_, rfl, _, rfl, _, rfl, _, rfl, _, rfl, _, rfl, p, c, _, z, 9, rfl, hp7, by omega, by omega, by omega, by omega, fun H8 t2 k8 hp8 lt2 mt2 => ?_⟩
    refine ⟨_, rfl, by show 6 ≤ sizeLine; decide, fun b nb => ?_⟩
    refine ⟨p, c, _, .ref b, rfl, hp8.new nb, by omega, .inr ⟨b, [cutS t none (some at') ++ w1 ++ cutS t (some (at' + j7)) none, cutS t none (some at') ++ w1 ++ cutS t (some (at' + j7)) none, cutS t none (some at') ++ w1 ++ cutS t (some (at' + j7)) none, t2, t, Str.ofString ""].map V.str, rfl, SqL.of upd_same, by simp, by show 6 ≤ 100000; decide, fun H9 i9 v hv k9 hp9 => ?_⟩⟩
    obtain ⟨g, hg, rfl⟩ := at_map_str hv
    have hg2 : g.length ≤ 20 ∧ Lt g := by
      simp only [List.mem_cons, List.not_mem_nil, or_false] at hg
      rcases hg with rfl | rfl | rfl | rfl | rfl | rfl
      · exact ⟨nl1, nl2⟩
      · exact ⟨nl1, nl2⟩
      · exact ⟨nl1, nl2⟩
      · exact ⟨by omega, lz.of_mem mt2⟩
      · exact ⟨by omega, ltt⟩
      · exact ⟨by decide, Lt.dec (by decide +kernel)⟩
    obtain ⟨lg, ltg⟩ := hg2
    -- single
    refine ⟨_, rfl, _, rfl, t, g, rfl, by omega, by omega, ltg, fun H10 v1 e1 s10 dp1 is1 => ?_⟩
    have sh1 := show_single is1 (by omega) (by omega) ltg
    refine ⟨_, _, rfl, dp1, sh1, ?_⟩
    refine ⟨_, rfl, _, rfl, t, g, rfl, by omega, by omega, ltg, fun H11 v2 e2 s11 dp2 is2 => ?_⟩
    obtain rfl := is1.uniq is2
    refine ⟨_, _, rfl, dp2, sh1, rfl, _, rfl, ne_self ?_⟩
    have hp11 : Pen H11 p c _ := (hp9.same s10).same s11
    -- rows
    refine ⟨_, rfl, _, rfl, _, rfl, p, c, _, t, z, rfl, hp11, by omega, by omega, by omega, lz, ltt, by omega, fun H12 e rs xs k12 hp12 T12 lx hro hgood => ?_⟩
    have ht := TL.len_tl t
    have hgood : ∀ x ∈ xs, ExGood t.length x := hgood
    have lth := thinL_len (tl t) xs
    have hro' : RowsOk (tl t).length 0 xs := by rw [← ht]; exact hro
    -- due
    refine ⟨_, rfl, e, rfl, ⟨_, SqT.of T12.top⟩, fun D nD => ?_⟩
    refine lc_tup (K := K) (a := e) (xs := rs.map V.ref) (fun i H4 => ∃ qs : List Addr, Same H12 H4 ∧ Tls exV H4 D qs (thinL (tl t) (xs.take i))) ?_ ?_ ?_ ?_
    · exact ⟨[], same_new nD, upd_same, rfl, fun i r x h => by simp at h, fun r h => by cases h⟩
    · rintro i H4 _ ⟨qs, s4, _⟩
      exact SqT.of (s4 _ _ T12.top)
    · rintro k v H4 hv ⟨qs, s4, T4⟩
      rw [List.getElem?_map] at hv
      cases hrk : rs[k]? with
      | none => rw [hrk] at hv; cases hv
      | some rk =>
        rw [hrk] at hv
        obtain rfl : V.ref rk = v := Option.some.inj hv
        have hk : k < xs.length := by rw [← T12.len]; exact (List.getElem?_eq_some_iff.mp hrk).1
        have hy : xs[k]? = some xs[k] := List.getElem?_eq_getElem hk
        have oky := (hgood _ (List.getElem_mem hk)).1
        revert hy oky
        generalize xs[k] = y
        intro hy oky
        obtain ⟨o1, o2, o3⟩ := oky
        have htk : xs.take (k + 1) = xs.take k ++ [y] := by rw [List.take_add_one, hy]; rfl
        refine ⟨rk, _, rfl, SqT.of (s4 _ _ (T12.row k rk y hrk hy)), rfl, _, _, rfl, _, _, rfl, _, _, rfl, rfl, rfl, _, rfl, _, rfl, _, rfl, _, rfl, _, rfl, t, rfl, tb, _, rfl, rfl, _, congrArg V.bl ne_cut, ?_⟩
        rw [tl_sl y.2.2]
        refine ite2 (fun c1 => ?_) (fun c1 => ?_)
        · refine ⟨_, rfl, _, rfl, _, rfl, _, rfl, t, sl y.2.2, y.1, y.2.1, rfl, by omega, by rw [sl_len]; omega, o1, o2, fun H5 p5 s5 np5 ep5 => ?_⟩
          rw [tl_sl y.2.2] at ep5
          have T5 := T4.same s5
          have pD : p5 ≠ D := (ne_of_none T4.top np5).symm
          refine ⟨_, T5.top, ?_, qs ++ [p5], AB.Same.wr (s4.trans s5) nD, ?_⟩
          · rw [List.length_map, T5.len]
            have h1 := thinL_len (tl t) (xs.take k)
            rw [List.length_take] at h1
            exact Nat.lt_of_le_of_lt (show _ ≤ 10000 by omega) (by decide)
          · unfold thinL
            rw [htk, List.filter_append, List.map_append, List.filter_cons, if_pos c1]
            refine T5.app ?_ ?_ pD fun b o hb e => by rw [upd_ne hb]; exact e
            · rw [upd_same, List.map_append]
              rfl
            · rw [upd_ne pD]
              exact ep5
        · refine ⟨qs, s4, ?_⟩
          unfold thinL
          rw [htk, List.filter_append, List.map_append, List.filter_cons, if_neg c1]
          simpa [thinL] using T4
    rintro H13 ⟨qs, s13, T13⟩
    rw [List.length_map, T12.len, List.take_length] at T13
    refine .inl ⟨D, _, rfl, SqL.of T13.top, fun du ndu => ?_⟩
    have T14 := T13.tup ndu
    have s14 : Same H12 (upd H13 du (.tup (qs.map V.ref))) := s13.trans (same_new ndu)
    have T12a := T12.same s14
    have okx : ∀ x ∈ xs, ExOk t.length x := fun x hx => (hgood x hx).1
    have hgT := thinL_good (t := tl t) (n := t.length) ht hgood
    have okT : ∀ x ∈ thinL (tl t) xs, ExOk t.length x := fun x hx => (hgT x hx).1
    have shT : Show (.tuple ((thinL (tl t) xs).map dX)) 16000000 64 := show_rows (n := t.length) (by omega) (by omega) hgT
    -- told
    refine ⟨_, rfl, _, rfl, t, e, rs, xs, rfl, T12a, by omega, by omega, okx, fun H15 to qs15 s15 nto T15 => ?_⟩
    have T14a := T14.same s15
    have T12b := T12a.same s15
    refine ⟨fun σ' H' => σ' = [some (.ref a), some (.ref p), some (.int (0 + (i : Int))), some (.str z), some (.str t), some (.int at'), some (.str g), some (.ref e), some (.ref du), some (.ref to), none, none, none] ∧ Same H15 H', ?_, ?_⟩
    · refine ⟨_, rfl, _, _, rfl, dpX T15, shT, _, rfl, _, _, rfl, dpX T14a, shT, rfl, _, rfl, ne_self ?_⟩
      refine ⟨_, rfl, _, rfl, t, to, qs15, _, rfl, T15, by omega, by omega, okT, fun H16 s16 => ?_⟩
      refine ⟨_, rfl, _, rfl, t, e, rs, xs, rfl, T12b.same s16, by omega, by omega, okx, fun H17 s17 => ⟨rfl, false, ?_, rfl, s16.trans s17⟩⟩
      rw [put_thin hro']
      simp
    rintro σ' H16 ⟨rfl, s16⟩
    have T15b := T15.same s16
    have bnd : ∀ xs' : List Ex, (∀ x ∈ xs', ExOk t.length x) → ∀ x ∈ xs', x.2.2.length ≤ 1000 ∧ x.1 ≤ 1000 ∧ x.2.1 ≤ 1000 := fun xs' h x hx => by
      obtain ⟨h1, h2, h3⟩ := h x hx
      exact ⟨by omega, by omega, by omega⟩
    refine ⟨_, rfl, to, qs15, _, rfl, T15b, by omega, bnd _ okT, fun H17 s17 => ?_⟩
    refine ⟨_, rfl, e, rs, xs, rfl, (T12b.same s16).same s17, by omega, bnd _ okx, fun H18 s18 => ⟨_, _, rfl, rfl, false, ?_, ?_⟩⟩
    · have := cost_thin hro'
      exact congrArg V.bl (decide_eq_false (by omega))
    refine ⟨_, rfl, _, rfl, t, to, qs15, _, rfl, (T15b.same s17).same s18, by omega, by omega, okT, fun H19 p19 qs19 s19 np19 T19 => ?_⟩
    rw [thinL_again hro'] at T19
    refine ⟨_, _, rfl, dpX T19, shT, _, rfl, _, _, rfl, dpX (((T15b.same s17).same s18).same s19), shT, rfl, _, rfl, ne_self ?_⟩
    have hpE : Pen H19 p c _ := (((((hp12.same s14).same s15).same s16).same s17).same s18).same s19
    exact ⟨_, _, _, _, _, _, _, _, rfl, hpE.mono (by omega)⟩
  · rintro σ H2 ⟨y2, y3, y4, y5, y6, y7, y8, y9, rfl, hp2⟩
    refine ⟨"", "a", rfl, by decide, by decide, Lt.dec (by decide +kernel), fun H3 v d s3 dp is => ?_⟩
    have hd : d = .none := by
      rcases is with ⟨h, _⟩ | ⟨_, _, h⟩ | ⟨_, x, hx, _⟩
      · exact absurd h (by decide +kernel)
      · exact h
      · exact absurd hx (by rw [show cands (tl (Str.ofString "")) (tl (Str.ofString "a")) = [] by rfl]; simp)
    subst hd
    have hv : v = .non := by
      cases dp
      rfl
    refine ⟨rfl, true, congrArg V.bl (decide_eq_true hv), ?_⟩
    refine ⟨"", "", rfl, by decide, by decide, Lt.dec (by decide +kernel), fun H4 v4 d4 s4 dp4 is4 => ?_⟩
    have hd4 : d4 = .tuple [] := by
      rcases is4 with ⟨_, h⟩ | ⟨h, _⟩ | ⟨h, _⟩
      · exact h
      · exact absurd rfl h
      · exact absurd rfl h
    subst hd4
    refine ⟨Nat.zero_le _, fun p5 np5 => ?_⟩
    have dp5 : Dp K (upd H4 p5 (.tup [])) v4 (.tuple []) := by
      cases dp4 with
      | tup hs hd =>
        cases hd
        exact .tup (AB.Same.seqT (same_new np5) hs) .nil
    refine ⟨.tuple [], .tuple [], dp5, .tup (SqT.of upd_same) .nil, by decide +kernel, by decide +kernel, true, by decide +kernel, ?_⟩
    refine ⟨Nat.zero_le _, fun p6 np6 => ?_⟩
    refine ⟨"ab", p6, [], [], rfl, ⟨upd_same, rfl, fun i r x h => by simp at h⟩, by decide, by decide, fun x h => (by cases h), fun H7 p7 qs7 s7 np7 T7 => ?_⟩
    refine ⟨Nat.zero_le _, fun p8 np8 => ?_⟩
    have T8 := T7.same (same_new (o := .tup []) np8)
    refine ⟨.tuple [], .tuple [], dpX T8, .tup (SqT.of upd_same) .nil, by decide +kernel, by decide +kernel, ?_⟩
    rw [show PyData.eqv (.tuple []) (.tuple []) = true by decide +kernel]
    exact q _
end
end Law
namespace Law
open PySem PySem.Spec PyProof.Rows L2 AB
theorem all_mk {P : Program} {w : World} {K : PySem.W.Frag} {h : Heap} {mg : Str → Option Value} {fa f0 f1 f2 f3 f4 f5 f6 f7 f8 f9 f10 f11 f12 f13 f14 f15 f16 f17 f18 f19 f20 : Addr} (X : K.In h) (G : h.Ns mainGlobals mg) (hfa : mg "law" = some (.ref fa))
    {od0 an0 od1 an1 od2 an2 od3 an3 od4 an4 od5 an5 od6 an6 od7 an7 od8 an8 od9 an9 od10 an10 od11 an11 od12 an12 od13 an13 od14 an14 od15 an15 od16 an16 od17 an17 od18 an18 od19 an19 od20 an20 : Option Addr} {sl0 sl1 sl2 sl3 sl4 sl5 sl6 sl7 sl8 sl9 sl10 sl11 sl12 sl13 sl14 sl15 sl16 sl17 sl18 sl19 sl20 : Array (Option Value)} {oc0 kV0 dc0 pm0 cd0 ct0 oc1 kV1 dc1 pm1 cd1 ct1 oc2 dc2 pm2 cd2 ct2 oc3 kV3 dc3 pm3 cd3 ct3 oc4 kV4 dc4 pm4 cd4 ct4 oc5 kV5 dc5 pm5 cd5 ct5 oc6 kV6 dc6 pm6 cd6 ct6 oc7 kV7 dc7 pm7 cd7 ct7 oc8 kV8 dc8 pm8 cd8 ct8 oc9 kV9 dc9 pm9 cd9 ct9 oc10 kV10 dc10 pm10 cd10 ct10 oc11 kV11 dc11 pm11 cd11 ct11 oc12 kV12 dc12 pm12 cd12 ct12 oc13 kV13 dc13 pm13 cd13 ct13 oc14 kV14 dc14 pm14 cd14 ct14 oc15 kV15 dc15 pm15 cd15 ct15 oc16 kV16 dc16 pm16 cd16 ct16 oc17 kV17 dc17 pm17 cd17 ct17 oc18 kV18 dc18 pm18 cd18 ct18 oc19 kV19 dc19 pm19 cd19 ct19 oc20 kV20 dc20 pm20 cd20 ct20 : Value}
    (a0 : PySem.W.nsIn K mainGlobals "places" = some (some (.ref f0)))
    (l0 : K.lookup f0 = some ⟨oc0, od0, .func (PySem.W.fnOf "places" "places" (defArgs s_places) (defBody s_places) (defScope s_places) .none kV0 dc0 pm0 an0 cd0 ct0), sl0⟩)
    (c0 : PySem.W.codeIn K cd0 "places" = true) (k0 : PySem.W.keepIn K (.ref f0) = true)
    (a1 : PySem.W.nsIn K mainGlobals "stands_once" = some (some (.ref f1)))
    (l1 : K.lookup f1 = some ⟨oc1, od1, .func (PySem.W.fnOf "stands_once" "stands_once" (defArgs s_stands_once) (defBody s_stands_once) (defScope s_stands_once) .none kV1 dc1 pm1 an1 cd1 ct1), sl1⟩)
    (c1 : PySem.W.codeIn K cd1 "stands_once" = true) (k1 : PySem.W.keepIn K (.ref f1) = true)
    {D2 : Addr} {tkd2 : Tok}
    (a2 : PySem.W.nsIn K mainGlobals "cost_of" = some (some (.ref f2)))
    (l2 : K.lookup f2 = some ⟨oc2, od2, .func (PySem.W.fnOf "cost_of" "cost_of" (defArgs s_cost_of) (defBody s_cost_of) (defScope s_cost_of) .none (.ref D2) dc2 pm2 an2 cd2 ct2), sl2⟩)
    (kd2 : PySem.W.nsIn K D2 "each" = some (some (.int 0 tkd2)))
    (c2 : PySem.W.codeIn K cd2 "cost_of" = true) (k2 : PySem.W.keepIn K (.ref f2) = true)
    (a3 : PySem.W.nsIn K mainGlobals "single" = some (some (.ref f3)))
    (l3 : K.lookup f3 = some ⟨oc3, od3, .func (PySem.W.fnOf "single" "single" (defArgs s_single) (defBody s_single) (defScope s_single) .none kV3 dc3 pm3 an3 cd3 ct3), sl3⟩)
    (c3 : PySem.W.codeIn K cd3 "single" = true) (k3 : PySem.W.keepIn K (.ref f3) = true)
    (a4 : PySem.W.nsIn K mainGlobals "thin" = some (some (.ref f4)))
    (l4 : K.lookup f4 = some ⟨oc4, od4, .func (PySem.W.fnOf "thin" "thin" (defArgs s_thin) (defBody s_thin) (defScope s_thin) .none kV4 dc4 pm4 an4 cd4 ct4), sl4⟩)
    (c4 : PySem.W.codeIn K cd4 "thin" = true) (k4 : PySem.W.keepIn K (.ref f4) = true)
    (a5 : PySem.W.nsIn K mainGlobals "thinned" = some (some (.ref f5)))
    (l5 : K.lookup f5 = some ⟨oc5, od5, .func (PySem.W.fnOf "thinned" "thinned" (defArgs s_thinned) (defBody s_thinned) (defScope s_thinned) .none kV5 dc5 pm5 an5 cd5 ct5), sl5⟩)
    (c5 : PySem.W.codeIn K cd5 "thinned" = true) (k5 : PySem.W.keepIn K (.ref f5) = true)
    (a6 : PySem.W.nsIn K mainGlobals "_law_pen" = some (some (.ref f6)))
    (l6 : K.lookup f6 = some ⟨oc6, od6, .func (PySem.W.fnOf "_law_pen" "_law_pen" (defArgs s_L_pen) (defBody s_L_pen) (defScope s_L_pen) .none kV6 dc6 pm6 an6 cd6 ct6), sl6⟩)
    (c6 : PySem.W.codeIn K cd6 "_law_pen" = true) (k6 : PySem.W.keepIn K (.ref f6) = true)
    (a7 : PySem.W.nsIn K mainGlobals "_law_draw" = some (some (.ref f7)))
    (l7 : K.lookup f7 = some ⟨oc7, od7, .func (PySem.W.fnOf "_law_draw" "_law_draw" (defArgs s_L_draw) (defBody s_L_draw) (defScope s_L_draw) .none kV7 dc7 pm7 an7 cd7 ct7), sl7⟩)
    (c7 : PySem.W.codeIn K cd7 "_law_draw" = true) (k7 : PySem.W.keepIn K (.ref f7) = true)
    (a8 : PySem.W.nsIn K mainGlobals "_law_pick" = some (some (.ref f8)))
    (l8 : K.lookup f8 = some ⟨oc8, od8, .func (PySem.W.fnOf "_law_pick" "_law_pick" (defArgs s_L_pick) (defBody s_L_pick) (defScope s_L_pick) .none kV8 dc8 pm8 an8 cd8 ct8), sl8⟩)
    (c8 : PySem.W.codeIn K cd8 "_law_pick" = true) (k8 : PySem.W.keepIn K (.ref f8) = true)
    (a9 : PySem.W.nsIn K mainGlobals "_law_signs" = some (some (.ref f9)))
    (l9 : K.lookup f9 = some ⟨oc9, od9, .func (PySem.W.fnOf "_law_signs" "_law_signs" (defArgs s_L_signs) (defBody s_L_signs) (defScope s_L_signs) .none kV9 dc9 pm9 an9 cd9 ct9), sl9⟩)
    (c9 : PySem.W.codeIn K cd9 "_law_signs" = true) (k9 : PySem.W.keepIn K (.ref f9) = true)
    (a10 : PySem.W.nsIn K mainGlobals "_law_few" = some (some (.ref f10)))
    (l10 : K.lookup f10 = some ⟨oc10, od10, .func (PySem.W.fnOf "_law_few" "_law_few" (defArgs s_L_few) (defBody s_L_few) (defScope s_L_few) .none kV10 dc10 pm10 an10 cd10 ct10), sl10⟩)
    (c10 : PySem.W.codeIn K cd10 "_law_few" = true) (k10 : PySem.W.keepIn K (.ref f10) = true)
    (a11 : PySem.W.nsIn K mainGlobals "_law_word" = some (some (.ref f11)))
    (l11 : K.lookup f11 = some ⟨oc11, od11, .func (PySem.W.fnOf "_law_word" "_law_word" (defArgs s_L_word) (defBody s_L_word) (defScope s_L_word) .none kV11 dc11 pm11 an11 cd11 ct11), sl11⟩)
    (c11 : PySem.W.codeIn K cd11 "_law_word" = true) (k11 : PySem.W.keepIn K (.ref f11) = true)
    (a12 : PySem.W.nsIn K mainGlobals "_law_places" = some (some (.ref f12)))
    (l12 : K.lookup f12 = some ⟨oc12, od12, .func (PySem.W.fnOf "_law_places" "_law_places" (defArgs s_L_places) (defBody s_L_places) (defScope s_L_places) .none kV12 dc12 pm12 an12 cd12 ct12), sl12⟩)
    (c12 : PySem.W.codeIn K cd12 "_law_places" = true) (k12 : PySem.W.keepIn K (.ref f12) = true)
    (a13 : PySem.W.nsIn K mainGlobals "_law_ntext" = some (some (.ref f13)))
    (l13 : K.lookup f13 = some ⟨oc13, od13, .func (PySem.W.fnOf "_law_ntext" "_law_ntext" (defArgs s_L_ntext) (defBody s_L_ntext) (defScope s_L_ntext) .none kV13 dc13 pm13 an13 cd13 ct13), sl13⟩)
    (c13 : PySem.W.codeIn K cd13 "_law_ntext" = true) (k13 : PySem.W.keepIn K (.ref f13) = true)
    (a14 : PySem.W.nsIn K mainGlobals "_law_nonce" = some (some (.ref f14)))
    (l14 : K.lookup f14 = some ⟨oc14, od14, .func (PySem.W.fnOf "_law_nonce" "_law_nonce" (defArgs s_L_nonce) (defBody s_L_nonce) (defScope s_L_nonce) .none kV14 dc14 pm14 an14 cd14 ct14), sl14⟩)
    (c14 : PySem.W.codeIn K cd14 "_law_nonce" = true) (k14 : PySem.W.keepIn K (.ref f14) = true)
    (a15 : PySem.W.nsIn K mainGlobals "_law_naround" = some (some (.ref f15)))
    (l15 : K.lookup f15 = some ⟨oc15, od15, .func (PySem.W.fnOf "_law_naround" "_law_naround" (defArgs s_L_naround) (defBody s_L_naround) (defScope s_L_naround) .none kV15 dc15 pm15 an15 cd15 ct15), sl15⟩)
    (c15 : PySem.W.codeIn K cd15 "_law_naround" = true) (k15 : PySem.W.keepIn K (.ref f15) = true)
    (a16 : PySem.W.nsIn K mainGlobals "_law_nput" = some (some (.ref f16)))
    (l16 : K.lookup f16 = some ⟨oc16, od16, .func (PySem.W.fnOf "_law_nput" "_law_nput" (defArgs s_L_nput) (defBody s_L_nput) (defScope s_L_nput) .none kV16 dc16 pm16 an16 cd16 ct16), sl16⟩)
    (c16 : PySem.W.codeIn K cd16 "_law_nput" = true) (k16 : PySem.W.keepIn K (.ref f16) = true)
    (a17 : PySem.W.nsIn K mainGlobals "_law_ndrawn" = some (some (.ref f17)))
    (l17 : K.lookup f17 = some ⟨oc17, od17, .func (PySem.W.fnOf "_law_ndrawn" "_law_ndrawn" (defArgs s_L_ndrawn) (defBody s_L_ndrawn) (defScope s_L_ndrawn) .none kV17 dc17 pm17 an17 cd17 ct17), sl17⟩)
    (c17 : PySem.W.codeIn K cd17 "_law_ndrawn" = true) (k17 : PySem.W.keepIn K (.ref f17) = true)
    (a18 : PySem.W.nsIn K mainGlobals "_law_nsingle" = some (some (.ref f18)))
    (l18 : K.lookup f18 = some ⟨oc18, od18, .func (PySem.W.fnOf "_law_nsingle" "_law_nsingle" (defArgs s_L_nsingle) (defBody s_L_nsingle) (defScope s_L_nsingle) .none kV18 dc18 pm18 an18 cd18 ct18), sl18⟩)
    (c18 : PySem.W.codeIn K cd18 "_law_nsingle" = true) (k18 : PySem.W.keepIn K (.ref f18) = true)
    (a19 : PySem.W.nsIn K mainGlobals "_law_nthin" = some (some (.ref f19)))
    (l19 : K.lookup f19 = some ⟨oc19, od19, .func (PySem.W.fnOf "_law_nthin" "_law_nthin" (defArgs s_L_nthin) (defBody s_L_nthin) (defScope s_L_nthin) .none kV19 dc19 pm19 an19 cd19 ct19), sl19⟩)
    (c19 : PySem.W.codeIn K cd19 "_law_nthin" = true) (k19 : PySem.W.keepIn K (.ref f19) = true)
    (a20 : PySem.W.nsIn K mainGlobals "law" = some (some (.ref f20)))
    (l20 : K.lookup f20 = some ⟨oc20, od20, .func (PySem.W.fnOf "law" "law" (defArgs s_law) (defBody s_law) (defScope s_law) .none kV20 dc20 pm20 an20 cd20 ct20), sl20⟩)
    (c20 : PySem.W.codeIn K cd20 "law" = true) (k20 : PySem.W.keepIn K (.ref f20) = true)
    (z0 : PySem.W.nsIn K mainGlobals "len" = some none)
    (z1 : PySem.W.nsIn K mainGlobals "range" = some none)
    (z2 : PySem.W.nsIn K mainGlobals "int" = some none)
    (z3 : PySem.W.nsIn K mainGlobals "abs" = some none)
    (z4 : PySem.W.nsIn K mainGlobals "min" = some none)
    (z5 : PySem.W.nsIn K mainGlobals "max" = some none)
    (z6 : PySem.W.nsIn K mainGlobals "repr" = some none)
    (z7 : PySem.W.nsIn K mainGlobals "list" = some none)
    (z8 : PySem.W.nsIn K mainGlobals "tuple" = some none)
    (z9 : PySem.W.nsIn K mainGlobals "isinstance" = some none)
    (z10 : PySem.W.nsIn K mainGlobals "sorted" = some none)
    (z11 : PySem.W.nsIn K mainGlobals "enumerate" = some none)
    (z12 : PySem.W.nsIn K mainGlobals "zip" = some none)
    (z13 : PySem.W.nsIn K mainGlobals "all" = some none)
    (z14 : PySem.W.nsIn K mainGlobals "any" = some none)
    (z15 : PySem.W.nsIn K mainGlobals "str" = some none)
    (z16 : PySem.W.nsIn K mainGlobals "bool" = some none)
    (z17 : PySem.W.nsIn K mainGlobals "sum" = some none)
    : ∃ fd : FuncData, (∀ (s : Shared) (v : Value), BindsTo s fd ⟨[v], []⟩ [("_law_script", v)]) ∧ ∀ base : Heap, K.In base → base.Ns mainGlobals mg →
        FnG P w K mg base CX0 5 fa fd ["_law_script"] (spLaw K) := by
  have e := hfa.symm.trans (PySem.W.mg_of X G a20)
  cases e
  have F_places := fun_mk (st := s_places) l0 c0 k0
  have X_places : FX K mg "places" s_places P_places _ _ := ⟨F_places, F_places.binds (ps := P_places) fun _ _ _ _ _ _ us hl => match us, hl with | [_, _], _ => rfl, PySem.W.mg_of X G a0⟩
  have F_stands_once := fun_mk (st := s_stands_once) l1 c1 k1
  have X_stands_once : FX K mg "stands_once" s_stands_once P_stands_once _ _ := ⟨F_stands_once, F_stands_once.binds (ps := P_stands_once) fun _ _ _ _ _ _ us hl => match us, hl with | [_, _, _], _ => rfl, PySem.W.mg_of X G a1⟩
  have F_cost_of := fun_mk (st := s_cost_of) l2 c2 k2
  have X_cost_of : FX0 K mg "cost_of" s_cost_of _ _ := ⟨F_cost_of, PySem.W.mg_of X G a2⟩
  obtain ⟨ds_cost_of, VD_cost_of, BD_cost_of⟩ := AB.kwBinds (x := "cost_of") (kw := "each") (v := 0) (ps := P_cost_of) l2 c2 k2 kd2 (fun D doc pm an cdv ct u k => ⟨_, _, _, _, _, _, rfl, rfl, rfl⟩)
  have F_single := fun_mk (st := s_single) l3 c3 k3
  have X_single : FX K mg "single" s_single P_single _ _ := ⟨F_single, F_single.binds (ps := P_single) fun _ _ _ _ _ _ us hl => match us, hl with | [_, _], _ => rfl, PySem.W.mg_of X G a3⟩
  have F_thin := fun_mk (st := s_thin) l4 c4 k4
  have X_thin : FX K mg "thin" s_thin P_thin _ _ := ⟨F_thin, F_thin.binds (ps := P_thin) fun _ _ _ _ _ _ us hl => match us, hl with | [_, _, _, _], _ => rfl, PySem.W.mg_of X G a4⟩
  have F_thinned := fun_mk (st := s_thinned) l5 c5 k5
  have X_thinned : FX K mg "thinned" s_thinned P_thinned _ _ := ⟨F_thinned, F_thinned.binds (ps := P_thinned) fun _ _ _ _ _ _ us hl => match us, hl with | [_, _], _ => rfl, PySem.W.mg_of X G a5⟩
  have F_L_pen := fun_mk (st := s_L_pen) l6 c6 k6
  have X_L_pen : FX K mg "_law_pen" s_L_pen P_L_pen _ _ := ⟨F_L_pen, F_L_pen.binds (ps := P_L_pen) fun _ _ _ _ _ _ us hl => match us, hl with | [_], _ => rfl, PySem.W.mg_of X G a6⟩
  have F_L_draw := fun_mk (st := s_L_draw) l7 c7 k7
  have X_L_draw : FX K mg "_law_draw" s_L_draw P_L_draw _ _ := ⟨F_L_draw, F_L_draw.binds (ps := P_L_draw) fun _ _ _ _ _ _ us hl => match us, hl with | [_, _], _ => rfl, PySem.W.mg_of X G a7⟩
  have F_L_pick := fun_mk (st := s_L_pick) l8 c8 k8
  have X_L_pick : FX K mg "_law_pick" s_L_pick P_L_pick _ _ := ⟨F_L_pick, F_L_pick.binds (ps := P_L_pick) fun _ _ _ _ _ _ us hl => match us, hl with | [_, _], _ => rfl, PySem.W.mg_of X G a8⟩
  have F_L_signs := fun_mk (st := s_L_signs) l9 c9 k9
  have X_L_signs : FX K mg "_law_signs" s_L_signs P_L_signs _ _ := ⟨F_L_signs, F_L_signs.binds (ps := P_L_signs) fun _ _ _ _ _ _ us hl => match us, hl with | [], _ => rfl, PySem.W.mg_of X G a9⟩
  have F_L_few := fun_mk (st := s_L_few) l10 c10 k10
  have X_L_few : FX K mg "_law_few" s_L_few P_L_few _ _ := ⟨F_L_few, F_L_few.binds (ps := P_L_few) fun _ _ _ _ _ _ us hl => match us, hl with | [_], _ => rfl, PySem.W.mg_of X G a10⟩
  have F_L_word := fun_mk (st := s_L_word) l11 c11 k11
  have X_L_word : FX K mg "_law_word" s_L_word P_L_word _ _ := ⟨F_L_word, F_L_word.binds (ps := P_L_word) fun _ _ _ _ _ _ us hl => match us, hl with | [_, _, _, _], _ => rfl, PySem.W.mg_of X G a11⟩
  have F_L_places := fun_mk (st := s_L_places) l12 c12 k12
  have X_L_places : FX K mg "_law_places" s_L_places P_L_places _ _ := ⟨F_L_places, F_L_places.binds (ps := P_L_places) fun _ _ _ _ _ _ us hl => match us, hl with | [_, _], _ => rfl, PySem.W.mg_of X G a12⟩
  have F_L_ntext := fun_mk (st := s_L_ntext) l13 c13 k13
  have X_L_ntext : FX K mg "_law_ntext" s_L_ntext P_L_ntext _ _ := ⟨F_L_ntext, F_L_ntext.binds (ps := P_L_ntext) fun _ _ _ _ _ _ us hl => match us, hl with | [_, _, _], _ => rfl, PySem.W.mg_of X G a13⟩
  have F_L_nonce := fun_mk (st := s_L_nonce) l14 c14 k14
  have X_L_nonce : FX K mg "_law_nonce" s_L_nonce P_L_nonce _ _ := ⟨F_L_nonce, F_L_nonce.binds (ps := P_L_nonce) fun _ _ _ _ _ _ us hl => match us, hl with | [_, _, _], _ => rfl, PySem.W.mg_of X G a14⟩
  have F_L_naround := fun_mk (st := s_L_naround) l15 c15 k15
  have X_L_naround : FX K mg "_law_naround" s_L_naround P_L_naround _ _ := ⟨F_L_naround, F_L_naround.binds (ps := P_L_naround) fun _ _ _ _ _ _ us hl => match us, hl with | [_, _, _], _ => rfl, PySem.W.mg_of X G a15⟩
  have F_L_nput := fun_mk (st := s_L_nput) l16 c16 k16
  have X_L_nput : FX K mg "_law_nput" s_L_nput P_L_nput _ _ := ⟨F_L_nput, F_L_nput.binds (ps := P_L_nput) fun _ _ _ _ _ _ us hl => match us, hl with | [_, _], _ => rfl, PySem.W.mg_of X G a16⟩
  have F_L_ndrawn := fun_mk (st := s_L_ndrawn) l17 c17 k17
  have X_L_ndrawn : FX K mg "_law_ndrawn" s_L_ndrawn P_L_ndrawn _ _ := ⟨F_L_ndrawn, F_L_ndrawn.binds (ps := P_L_ndrawn) fun _ _ _ _ _ _ us hl => match us, hl with | [_, _, _], _ => rfl, PySem.W.mg_of X G a17⟩
  have F_L_nsingle := fun_mk (st := s_L_nsingle) l18 c18 k18
  have X_L_nsingle : FX K mg "_law_nsingle" s_L_nsingle P_L_nsingle _ _ := ⟨F_L_nsingle, F_L_nsingle.binds (ps := P_L_nsingle) fun _ _ _ _ _ _ us hl => match us, hl with | [_, _], _ => rfl, PySem.W.mg_of X G a18⟩
  have F_L_nthin := fun_mk (st := s_L_nthin) l19 c19 k19
  have X_L_nthin : FX K mg "_law_nthin" s_L_nthin P_L_nthin _ _ := ⟨F_L_nthin, F_L_nthin.binds (ps := P_L_nthin) fun _ _ _ _ _ _ us hl => match us, hl with | [_, _, _, _], _ => rfl, PySem.W.mg_of X G a19⟩
  have F_law := fun_mk (st := s_law) l20 c20 k20
  have X_law : FX K mg "law" s_law P_law _ _ := ⟨F_law, F_law.binds (ps := P_law) fun _ _ _ _ _ _ us hl => match us, hl with | [_], _ => rfl, PySem.W.mg_of X G a20⟩
  have B : Bt mg := ⟨PySem.W.mg_none_of X G z0, PySem.W.mg_none_of X G z1, PySem.W.mg_none_of X G z2, PySem.W.mg_none_of X G z3, PySem.W.mg_none_of X G z4, PySem.W.mg_none_of X G z5, PySem.W.mg_none_of X G z6, PySem.W.mg_none_of X G z7, PySem.W.mg_none_of X G z8, PySem.W.mg_none_of X G z9, PySem.W.mg_none_of X G z10, PySem.W.mg_none_of X G z11, PySem.W.mg_none_of X G z12, PySem.W.mg_none_of X G z13, PySem.W.mg_none_of X G z14, PySem.W.mg_none_of X G z15, PySem.W.mg_none_of X G z16, PySem.W.mg_none_of X G z17⟩
  exact ⟨PySem.W.fnOf "law" "law" (defArgs s_law) (defBody s_law) (defScope s_law) .none kV20 dc20 pm20 an20 cd20 ct20, fun s v => .of_eq rfl, fun base _ _ => ok_law X_law X_L_pen X_L_draw X_L_pick X_L_signs X_L_few X_L_word X_L_ntext X_L_places X_L_nonce X_L_naround X_L_nput X_L_ndrawn X_L_nsingle X_L_nthin X_places X_stands_once X_single X_thin X_thinned X_cost_of BD_cost_of VD_cost_of (kb21_mk fun _ _ => rfl) (kb21_mk fun _ _ => rfl) B⟩
end Law
open PySem PySem.W PyProof.Rows
set_option maxHeartbeats 0 in
theorem PySem.Challenge.cw_anchoredits_k65_single_and_thinned_excha_holds : PySem.Challenge.rw_anchoredits_k65_single_and_thinned_excha.Holds := by
  w_on; o_law; k_head; (case hw => w_witness2)
  k_fill
  refine AB.walk_goes (l := PySem.Challenge.rw_anchoredits_k65_single_and_thinned_excha) (n := 63) (k := 5) (x := "_law_script") (sp := AB.spLaw) rfl (by decide) rfl ⟨rfl, by decide, by decide⟩ (fun w h Y => PySem.W.kIn_of Y) ?F (fun _ _ a ns hl hS => ⟨a, ns, rfl, hS, hl, fun _ => rfl⟩)
  case F =>
    intro w mg fa h KX G hmg
    refine' Law.all_mk KX G hmg ?a0 ?l0 ?c0 ?k0 ?a1 ?l1 ?c1 ?k1 ?a2 ?l2 ?kd2 ?c2 ?k2 ?a3 ?l3 ?c3 ?k3 ?a4 ?l4 ?c4 ?k4 ?a5 ?l5 ?c5 ?k5 ?a6 ?l6 ?c6 ?k6 ?a7 ?l7 ?c7 ?k7 ?a8 ?l8 ?c8 ?k8 ?a9 ?l9 ?c9 ?k9 ?a10 ?l10 ?c10 ?k10 ?a11 ?l11 ?c11 ?k11 ?a12 ?l12 ?c12 ?k12 ?a13 ?l13 ?c13 ?k13 ?a14 ?l14 ?c14 ?k14 ?a15 ?l15 ?c15 ?k15 ?a16 ?l16 ?c16 ?k16 ?a17 ?l17 ?c17 ?k17 ?a18 ?l18 ?c18 ?k18 ?a19 ?l19 ?c19 ?k19 ?a20 ?l20 ?c20 ?k20 ?z0 ?z1 ?z2 ?z3 ?z4 ?z5 ?z6 ?z7 ?z8 ?z9 ?z10 ?z11 ?z12 ?z13 ?z14 ?z15 ?z16 ?z17
    (case a0 => k_is); (case l0 => k_is); (case c0 => k_is); (case k0 => k_is); (case a1 => k_is); (case l1 => k_is); (case c1 => k_is); (case k1 => k_is)
    (case a2 => k_is); (case l2 => k_is); (case kd2 => k_is); (case c2 => k_is); (case k2 => k_is); (case a3 => k_is); (case l3 => k_is); (case c3 => k_is)
    (case k3 => k_is); (case a4 => k_is); (case l4 => k_is); (case c4 => k_is); (case k4 => k_is); (case a5 => k_is); (case l5 => k_is); (case c5 => k_is)
    (case k5 => k_is); (case a6 => k_is); (case l6 => k_is); (case c6 => k_is); (case k6 => k_is); (case a7 => k_is); (case l7 => k_is); (case c7 => k_is)
    (case k7 => k_is); (case a8 => k_is); (case l8 => k_is); (case c8 => k_is); (case k8 => k_is); (case a9 => k_is); (case l9 => k_is); (case c9 => k_is)
    (case k9 => k_is); (case a10 => k_is); (case l10 => k_is); (case c10 => k_is); (case k10 => k_is); (case a11 => k_is); (case l11 => k_is); (case c11 => k_is)
    (case k11 => k_is); (case a12 => k_is); (case l12 => k_is); (case c12 => k_is); (case k12 => k_is); (case a13 => k_is); (case l13 => k_is); (case c13 => k_is)
    (case k13 => k_is); (case a14 => k_is); (case l14 => k_is); (case c14 => k_is); (case k14 => k_is); (case a15 => k_is); (case l15 => k_is); (case c15 => k_is)
    (case k15 => k_is); (case a16 => k_is); (case l16 => k_is); (case c16 => k_is); (case k16 => k_is); (case a17 => k_is); (case l17 => k_is); (case c17 => k_is)
    (case k17 => k_is); (case a18 => k_is); (case l18 => k_is); (case c18 => k_is); (case k18 => k_is); (case a19 => k_is); (case l19 => k_is); (case c19 => k_is)
    (case k19 => k_is); (case a20 => k_is); (case l20 => k_is); (case c20 => k_is); (case k20 => k_is); (case z0 => k_is); (case z1 => k_is); (case z2 => k_is)
    (case z3 => k_is); (case z4 => k_is); (case z5 => k_is); (case z6 => k_is); (case z7 => k_is); (case z8 => k_is); (case z9 => k_is); (case z10 => k_is)
    (case z11 => k_is); (case z12 => k_is); (case z13 => k_is); (case z14 => k_is); (case z15 => k_is); (case z16 => k_is); (case z17 => k_is)

