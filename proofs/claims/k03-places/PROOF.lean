import PyProof.Rows.All
import Wide.All
import OpenK.AllK
import Wide.FinOn
import PyProof.ReprRoads
import HandS.ForMost
import HandS.StrMore
import HandS.Codes
import PyProof.ReprLen
import PySem.Challenge.RW_anchoredits_k03_places_of_words
set_option Elab.async false
set_option linter.all false
set_option maxRecDepth 100000
set_option maxHeartbeats 4000000
namespace AB
open PySem PySem.Spec PyProof.Rows L2

/-! a def's promise where no repr is under way (A.guards is known to be empty) -/
structure FnG (P : Program) (w : World) (K : PySem.W.Frag) (mg : Str → Option Value) (base : Heap)
    (CX : CXT) (k : Nat) (f : Addr) (fd : FuncData) (ps : List Str) (sp : Sp) : Prop where
  gl : ∀ vs H Q E, sp vs H Q E → vs.length = ps.length
  go : ∀ (A : Around) (outer : List Env) (s : Shared) (H : Hp) (args : Args) (us : List Value)
    (vs : List V) (Q : VK) (E : XK), Room k A → A.guards = some [] →
    Env0 P w K mg base A outer s H → BindsTo s fd args (ps.zip us) → Vals vs us → sp vs H Q E →
    codeAny (model P w) A (.call (.ref f) args) (CR CX outer P w H s Q E) s

section
variable {P : Program} {w : World} {K : PySem.W.Frag} {mg : Str → Option Value} {base : Heap}
  {CX : CXT} {k : Nat} {f : Addr} {fd : FuncData} {ps : List Str} {sp : Sp}

theorem FnG.mk' (F : FnOk P w K mg base CX k f fd ps sp) : FnG P w K mg base CX k f fd ps sp :=
  ⟨F.len, fun A o s H ar us vs Q E hr _ e0 hb hv hs => F.run A o s H ar us vs Q E hr e0 hb hv hs⟩

theorem guards_deeper {A : Around} {env : Env} (h : A.guards = some []) : (A.deeper env).guards = some [] := h

/-- a def's body keeps its promise, where no repr is under way -/
theorem gun_ok {x qual : Str} {st : Stmt} {N : List Str} (F : Fun K x qual st f fd)
    (S : FnScope N ps (defScope st)) (len : ∀ vs H Q E, sp vs H Q E → vs.length = ps.length)
    (body : ∀ (cdv : Value) (A : Around) (outer : List Env) (s : Shared) (H : Hp) (vs : List V)
      (Q : VK) (E : XK), Room k (A.deeper (envOfC qual (defScope st) s.heap.objs.size f cdv)) →
      (A.deeper (envOfC qual (defScope st) s.heap.objs.size f cdv)).guards = some [] → sp vs H Q E →
      ∃ t, PSs (cxOf CX P w K mg base N qual (defScope st) f cdv A outer s H E) (defBody st) t ∧
        t { nx := fun _ H' => Q .non H', rt := Q } (start N vs) H) :
    FnG P w K mg base CX (k + 1) f fd ps sp := by
  obtain ⟨oc, od, kV, doc, pm, an, cdv, ct, osl, rfl, lk, hcd⟩ := F.ex
  refine ⟨len, ?_⟩
  intro A outer s H args us vs Q E hr hgd e0 hb hv hs
  have kin : K.In s.heap := e0.mod.kin.keeps fun b o e => (e0.bs b o e).1
  have nol : s.heap.NoLimit := e0.mod.nolimit.keeps fun b o e => (e0.bs b o e).1
  refine Att.call_fn (binds := ps.zip us) kin nol lk hcd hr.depth hb ?_ ?_ S.co S.gen S.kind
  · rw [List.all_eq_true]
    rintro ⟨n, v⟩ hy
    rcases S.par n (List.of_mem_zip hy).1 with q | q <;> simp [q]
  · intro s1 ic
    obtain ⟨t, ht, hq⟩ := body cdv A outer s H vs Q E (hr.deeper _) (guards_deeper hgd) hs
    have I := inv_start (CX := CX) (E := E) S hr.hd e0 (len _ _ _ _ hs) hv ic
    refine wpAny_mono (ht.run [] s1 _ H _ I hq) ?_ fun e s' z => z
    intro fl s' z
    cases fl with
    | ret u =>
      obtain ⟨v, σ', H', J, rv, q⟩ := z
      exact ⟨v, H', J.os, J.bare, J.base, J.hok, rv, q⟩
    | next =>
      obtain ⟨σ', H', J, q⟩ := z
      exact ⟨.non, H', J.os, J.bare, J.base, J.hok, rfl, q⟩
    | brk => obtain ⟨_, _, _, q⟩ := z; exact q.elim
    | cont => obtain ⟨_, _, _, q⟩ := z; exact q.elim
end
end AB

namespace AB
open PySem PySem.Spec PyProof.Rows L2

/-! ### what is shown by repr -/
structure Show (d : PyData) (n k : Nat) : Prop where
  ok : d.showable = true
  nd : d.hasDict = false
  dp : d.depth ≤ k
  sz : d.shown.length ≤ n

theorem Show.mono {d : PyData} {n k n' k' : Nat} (h : Show d n k) (hn : n ≤ n') (hk : k ≤ k') : Show d n' k' :=
  ⟨h.ok, h.nd, Nat.le_trans h.dp hk, Nat.le_trans h.sz hn⟩

theorem log_lt2 {m k : Nat} (hk : 0 < k) (h : m < 2 ^ k) : m.log2 < k := by
  by_cases h0 : m = 0
  · subst h0; exact hk
  · exact (Nat.log2_lt h0).mpr h

theorem Show.int {i : Int} (h : i.natAbs < 2 ^ 300) : Show (.int i) 301 0 := by
  refine ⟨?_, rfl, Nat.le_refl _, ?_⟩
  · exact decide_eq_true (Nat.lt_trans (log_lt2 (k := 300) (by decide) h) (by decide))
  · show (Str.ofString (toString i)).length ≤ 301
    rw [PySem.ofString_length]
    exact int_text_length_le (k := 300) (by decide) (log_lt2 (by decide) h)

theorem Show.str {x : Str} {m : Nat} (hc : ∀ c ∈ x.cps.toList, c < 16 ^ 8) (hm : x.length ≤ m) :
    Show (.str x) (10 * m + 2) 0 :=
  ⟨rfl, rfl, Nat.le_refl _, Nat.le_trans (StrLaws.reprText_len x hc) (by omega)⟩
theorem Show.none : Show .none 4 0 := ⟨rfl, rfl, Nat.le_refl _, by decide +kernel⟩
theorem Show.bool (b : Bool) : Show (.bool b) 5 0 := ⟨rfl, rfl, Nat.le_refl _, by cases b <;> decide +kernel⟩

theorem showable_all : ∀ {ds : List PyData} {n k : Nat}, (∀ d ∈ ds, Show d n k) →
    PyData.showableAll ds = true ∧ PyData.hasDictAll ds = false ∧ PyData.depthAll ds ≤ k ∧
      ((PyData.shownAll ds).map (·.length)).sum ≤ n * ds.length ∧ (PyData.shownAll ds).length = ds.length
  | [], n, k, _ => ⟨rfl, rfl, Nat.zero_le _, Nat.zero_le _, rfl⟩
  | d :: r, n, k, h => by
    have hd := h d List.mem_cons_self
    obtain ⟨a, b, c, e, f⟩ := showable_all (ds := r) (n := n) (k := k) fun x hx => h x (List.mem_cons_of_mem _ hx)
    refine ⟨?_, ?_, ?_, ?_, ?_⟩
    · simp only [PyData.showableAll, hd.ok, a, Bool.and_self]
    · simp only [PyData.hasDictAll, hd.nd, b, Bool.or_self]
    · simp only [PyData.depthAll]
      exact Nat.max_le.mpr ⟨hd.dp, c⟩
    · simp only [PyData.shownAll, List.map_cons, List.sum_cons, List.length_cons]
      have := hd.sz
      rw [Nat.mul_succ]
      omega
    · simp only [PyData.shownAll, List.length_cons, f]

theorem Show.list {ds : List PyData} {n k m : Nat} (h : ∀ d ∈ ds, Show d n k) (hm : n * ds.length + 2 * ds.length + 3 ≤ m) :
    Show (.list ds) m (k + 1) := by
  obtain ⟨a, b, c, e, f⟩ := showable_all h
  refine ⟨by simpa only [PyData.showable] using a, by simpa only [PyData.hasDict] using b, by simp only [PyData.depth]; omega, ?_⟩
  have q := listText_len_le (PyData.shownAll ds)
  simp only [PyData.shown]
  omega
theorem Show.tup {ds : List PyData} {n k m : Nat} (h : ∀ d ∈ ds, Show d n k) (hm : n * ds.length + 2 * ds.length + 3 ≤ m) :
    Show (.tuple ds) m (k + 1) := by
  obtain ⟨a, b, c, e, f⟩ := showable_all h
  refine ⟨by simpa only [PyData.showable] using a, by simpa only [PyData.hasDict] using b, by simp only [PyData.depth]; omega, ?_⟩
  have q := tupleText_len_le (PyData.shownAll ds)
  simp only [PyData.shown]
  omega

theorem cLine_big : 70 + 4 < cLine := by decide
theorem sizeLine_big : 16000000 ≤ sizeLine := by rw [sizeLine_eq]; decide

section
variable {X : Cx}
/-- repr(v), v any data without dicts -/
def rRepr (K : PySem.W.Frag) : List V → Hp → VK → Prop := fun xs H Q =>
  ∃ v d, xs = [v] ∧ Dp K H v d ∧ Show d 16000000 64 ∧ Q (.str d.shown) H
theorem call_repr {k : Nat} (hr : Room k X.A) (hg : X.A.guards = some []) : CallR X (.builtin "repr") (rRepr X.K) := by
  intro pins s σ H xs us Q I r h
  obtain ⟨v, d, rfl, hd, hs, q⟩ := h
  obtain ⟨u, rfl, ru⟩ := vals1 r
  have un := hr.un
  obtain ⟨as, rd⟩ := Dp.reads I d v u hd ru
  have sz := Nat.le_trans hs.sz sizeLine_big
  have fin : ∀ h' t tk, (∀ b o, s.heap.get? b = some o → h'.get? b = some o) →
      EP X pins σ Q (.str d.shown t) { s with heap := h', toks := tk } :=
    fun h' t tk kp => ⟨.str d.shown, H, I.kept kp, ⟨t, rfl⟩, q⟩
  cases hd with
  | non =>
    cases ru
    exact PySem.P.repr_of_none (fin s.heap _ _ fun _ _ e => e)
  | bl b =>
    cases ru
    exact PySem.P.repr_of_bool (fin s.heap _ _ fun _ _ e => e)
  | int i =>
    obtain ⟨t, rfl⟩ := ru
    exact PySem.P.repr_of_int (of_decide_eq_true hs.ok) (fin s.heap _ _ fun _ _ e => e)
  | str x =>
    obtain ⟨t, rfl⟩ := ru
    exact PySem.P.repr_of_str (fin s.heap _ _ fun _ _ e => e) sz
  | lst a b =>
    cases ru
    have dp := hs.dp
    exact repr_of_reads' rd hs.ok (fun z => by rw [hs.nd] at z; cases z) hg (by omega) (fun _ _ e => e) fin sz
  | tup a b =>
    cases ru
    have dp := hs.dp
    exact repr_of_reads' rd hs.ok (fun z => by rw [hs.nd] at z; cases z) hg (by omega) (fun _ _ e => e) fin sz

/-! ### texts from code lists; repetition -/
abbrev sl (l : List Nat) : Str := ⟨l.toArray⟩
theorem sl_toList (z : Str) : sl z.cps.toList = z := by cases z; simp [sl]
theorem sl_len (l : List Nat) : (sl l).length = l.length := by simp [sl, Str.length]
theorem len_toList (z : Str) : z.cps.toList.length = z.length := by simp [Str.length]

theorem foldl_app : ∀ (n : Nat) (a acc : Array Nat), ((List.replicate n a).foldl (· ++ ·) acc).toList = acc.toList ++ (List.replicate n a.toList).flatten
  | 0, a, acc => by simp
  | n + 1, a, acc => by
    rw [List.replicate_succ, List.foldl_cons, foldl_app n a, List.replicate_succ, List.flatten_cons]
    simp

theorem op_rep_str : OpR X (binaryOp .Mult) (fun x y H Q => ∃ z k, x = .str z ∧ y = .int k ∧ 0 ≤ k ∧ k < 1000000 ∧
    z.length * k.toNat ≤ 1000000 ∧ Q (.str (sl (List.replicate k.toNat z.cps.toList).flatten)) H) := by
  intro pins s σ H x y v u Q I rx ry h
  obtain ⟨z, k, rfl, rfl, k0, k1, hz, q⟩ := h
  obtain ⟨t, rfl⟩ := rx
  obtain ⟨t', rfl⟩ := ry
  refine PySem.P.mul_str ?_ (fun h1 h2 => ?_) (fun h1 h2 => ?_) ?_
  · rw [decide_eq_false (by omega), decide_eq_false (by omega)]
    rfl
  · intro c
    have h3 : (1 : Int) ≤ k := by omega
    have h4 : z.length ≤ 1000000 := by
      have : 1 ≤ k.toNat := by omega
      exact Nat.le_trans (Nat.le_mul_of_pos_right _ this) hz
    have h5 : (1000000 : Int) ≤ (2 ^ 63 - 1) / k := by
      rw [Int.le_ediv_iff_mul_le (by omega)]
      omega
    omega
  · unfold Builtin.Str.tooLong
    have := sizeLine_big
    exact decide_eq_false (by omega)
  · have key : ∀ w : Str, w.cps.toList = (List.replicate k.toNat z.cps.toList).flatten → ∀ t tk,
        EP X pins σ Q (.str w t) { s with toks := tk } := fun w e t tk => by
      have : w = sl (List.replicate k.toNat z.cps.toList).flatten := by rw [← e, sl_toList]
      subst this
      exact ⟨.str _, H, I.tok tk, ⟨t, rfl⟩, q⟩
    by_cases h1 : k < 1
    · rw [if_pos h1]
      have : k.toNat = 0 := by omega
      refine ⟨by decide, key _ ?_ _ _⟩
      rw [this]; rfl
    · rw [if_neg h1]
      by_cases h2 : (k == 1 || z.length == 0) = true
      · rw [if_pos h2]
        refine key z ?_ t s.toks
        rcases Bool.or_eq_true_iff.mp h2 with c | c
        · have e : k = 1 := eq_of_beq c
          subst e
          simp
        · have e : z.cps.toList = [] := by
            have : z.length = 0 := eq_of_beq c
            rw [← List.length_eq_zero_iff, len_toList, this]
          rw [e]
          simp
      · rw [if_neg h2]
        have e := foldl_app k.toNat z.cps #[]
        refine ⟨?_, key _ (by simpa using e) _ _⟩
        have l : (Str.mk ((List.replicate k.toNat z.cps).foldl (· ++ ·) #[])).length = z.length * k.toNat := by
          rw [← len_toList]
          show ((List.replicate k.toNat z.cps).foldl (· ++ ·) #[]).toList.length = _
          rw [e]
          simp [Str.length, Nat.mul_comm]
        rw [l]
        have := sizeLine_big
        omega

/-! ### f(k = v, ..) without positional arguments -/
theorem pe_callK0 {CX : CXT} {k : Nat} {f : Addr} {fd : FuncData} {ps ks : List Str} {sp : Sp} {E : XK} {x : Str} {p pos : Pos} {kws : List Keyword} {tk : TA}
    {g : List Value → List Value → List Value} {gV : List V → List V → List V}
    (F : FnOk X.prog X.w X.K X.mg X.base CX k f fd ps sp) (hr : Room k X.A) (hg : Gl X x) (hm : X.mg x = some (.ref f))
    (hk : PySem.W.keepIn X.K (.ref f) = true) (hb : KBinds X.K fd ps ks g gV) (hx : Passes CX X E) (hkw : PK X kws tk)
    (hall : (backToKw pos (keywordEach kws X.env)).all (·.1.isSome) = true := by rfl)
    (hks : (backToKw pos (keywordEach kws X.env)).filterMap (·.1) = ks := by rfl)
    (hdb : (x == ("__debug__" : Str)) = false := by decide)
    (hpl : ((backTo pos (starEach [] X.env)).any (·.1) || (backToKw pos (keywordEach kws X.env)).any (·.1.isNone)) = false := by rfl) :
    PE X (.Call (.Name x p) [] kws pos) (tCallK sp gV E tNil tk) := by
  constructor
  intro pins s σ H Q I h
  refine wpAny_Call_Name_kw (ld_glob I hg hm ?_ hdb)
  refine PySem.W.callWith_KW0 (h₀ := X.base) I.ok.mod.kin hk hall (thn (hkw.run pos pins s σ H _ I h) ?_) hpl
  rintro ws s2 ⟨zs, H2, I2, rz, q2⟩
  refine ⟨I2.kIn, ?_⟩
  rw [hks]
  exact run_fnk (us := []) (vs := []) F hr hb hx I2 .nil rz q2
end
end AB

namespace AB
open PySem PySem.Spec PyProof.Rows L2

/-! ### the law's own call, from a promise that knows that no repr is under way -/
def scrO (vs : List Value) : Obj := { cls := .type "list", data := .seq vs.toArray }
def scrH (K : PySem.W.Frag) (a : Addr) (vs : List Value) (ns : List Int) : Hp := fun b =>
  if b = a ∧ K.lookup a = none then some (.frz (scrO vs) (.lst (ns.map V.int))) else none

section
variable {P : Program} {w : World} {K : PySem.W.Frag} {mg mb : Str → Option Value} {k : Nat} {fa a : Addr}
  {fd : FuncData} {x : Str} {sp : Sp} {s₁ : Shared} {vs : List Value} {ns : List Int}

theorem scrH_some {b : Addr} {o : HO} (h : scrH K a vs ns b = some o) :
    b = a ∧ K.lookup a = none ∧ o = .frz (scrO vs) (.lst (ns.map V.int)) := by
  unfold scrH at h
  by_cases c : b = a ∧ K.lookup a = none
  · rw [if_pos c] at h
    exact ⟨c.1, c.2, (Option.some.inj h).symm⟩
  · rw [if_neg c] at h
    cases h

theorem law_goes (KX : K.In s₁.heap) (hns : s₁.heap.Ns mainGlobals mg) (hb : s₁.heap.Ns builtinsNs mb)
    (hbb : ∀ x : Str, x ≠ "__name__" → mb x = bootBuiltins x) (hlim : s₁.heap.NoLimit) (hg : s₁.gens = #[])
    (ha : s₁.heap.get? a = some (scrO vs)) (hi : IntsAre vs ns) (hl : ns.length ≤ sizeLine) (hr : Room k callerA)
    (F : ∀ base : Heap, K.In base → base.Ns mainGlobals mg → FnG P w K mg base CX0 k fa fd [x] sp)
    (hbind : ∀ (s : Shared) (u : Value), BindsTo s fd ⟨[u], []⟩ [(x, u)])
    (hsp : ∀ H : Hp, SqL K H a (ns.map V.int) → sp [.ref a] H (fun v _ => v = .bl true) fun _ _ _ => False) :
    codeAny (model P w) callerA (.call (.ref fa) ⟨[.ref a], []⟩)
      (fun r s' => r = .ok (.ret (.bool true)) ∧ OldK s₁.heap s'.heap ∧ s'.os = s₁.os ∧ AllBare s'.gens) s₁ := by
  have rv := vals_ints hi
  let H : Hp := scrH K a vs ns
  have toBase : ∀ {b : Addr} {o : Obj}, s₁.heap.get? b = some o → H b = none → (hidT s₁.heap H).get? b = some o :=
    fun e n => hidT_get e n
  have dictFree : ∀ {b : Addr} {o : Obj} {es : Array DictEntry} {ep : Nat}, s₁.heap.get? b = some o →
      o.data = .dict es ep → H b = none := by
    intro b o es ep e d
    cases q : H b with
    | none => rfl
    | some u =>
      obtain ⟨rfl, _, _⟩ := scrH_some q
      rw [ha] at e
      cases e
      exact nomatch (show Data.seq vs.toArray _ = Data.dict es ep from d)
  have nsB : ∀ {b : Addr} {m : Str → Option Value}, s₁.heap.Ns b m → (hidT s₁.heap H).Ns b m := by
    rintro b m ⟨o, es, ep, e, d, r⟩
    exact ⟨o, es, ep, toBase e (dictFree e d), d, r⟩
  have kinB : K.In (hidT s₁.heap H) := by
    intro b o e
    refine toBase (KX b o e) ?_
    cases q : H b with
    | none => rfl
    | some u =>
      obtain ⟨rfl, z, _⟩ := scrH_some q
      rw [z] at e
      cases e
  have hM : Mod K mg (hidT s₁.heap H) := ⟨kinB, nsB hns, ⟨mb, nsB hb, hbb⟩, by
    obtain ⟨mc, h1, h2⟩ := hlim
    exact ⟨mc, nsB h1, h2⟩⟩
  have hok : HOk P w H s₁.heap := by
    intro b u e
    obtain ⟨rfl, z, rfl⟩ := scrH_some e
    exact ⟨ha, by rw [List.length_map]; exact hl, vs, _, rv, ha⟩
  have sq : SqL K H a (ns.map V.int) := by
    cases q : K.lookup a with
    | none => exact .inl (.inr ⟨scrO vs, if_pos ⟨rfl, q⟩⟩)
    | some o =>
      have e := KX a o q
      rw [ha] at e
      cases e
      refine .inr ⟨_, vs.toArray, _, q, rfl, rfl, rfl, ?_, by simpa using rv⟩
      have := rv.length
      rw [List.length_map] at this
      rw [List.size_toArray]
      omega
  have e0 : Env0 P w K mg (hidT s₁.heap H) callerA [] s₁ H :=
    { frames := rfl, mod := hM, bs := fun b o e => of_hidT e, bsz := Nat.le_of_eq (hidT_size _ _), funs := trivial,
      frf := fun b z => absurd (show b ∈ ([] : List Addr) from z) (by simp), hok := hok, bare := .of_eq hg }
  refine codeAny_mono ((F _ kinB (nsB hns)).go callerA [] s₁ H ⟨[.ref a], []⟩ [.ref a] [.ref a] _ _ hr rfl e0
    (hbind s₁ (.ref a)) (.cons rfl .nil) (hsp H sq)) ?_
  intro r s' h
  cases r with
  | error e => exact False.elim h
  | ok fl =>
    cases fl with
    | next => exact False.elim h
    | brk => exact False.elim h
    | cont => exact False.elim h
    | ret u =>
      obtain ⟨v, H', os, bare, un, hok', r', q⟩ := h
      have q1 : v = .bl true := q
      subst q1
      have q2 : u = Value.bool true := r'
      subst q2
      refine ⟨rfl, OldK.of_keep ?_, os, bare⟩
      intro b o e
      cases q : H b with
      | none => exact un.keep b o e q (fun z => absurd (show b ∈ ([] : List Addr) from z) (by simp)) (by simp)
      | some u =>
        obtain ⟨rfl, z, rfl⟩ := scrH_some q
        obtain ⟨e1, _⟩ := hok b _ q
        obtain ⟨e2, _⟩ := hok' b _ (un.frzs b _ _ q)
        rw [e] at e1
        cases e1
        exact e2
end

theorem walk_goes {l : PySem.W.OpenLaw} {n k : Nat} {q : Program} {loose : List Str}
    {XP : (Str → Option Value) → Heap → Prop} {YP : World → Heap → Prop} {d : DefRec} {K : Params → PySem.W.Frag}
    {sp : PySem.W.Frag → Sp} {x : Str}
    (hn : l.most = some n) (hn2 : n ≤ sizeLine) (hdf : d.params.defaults = []) (hr : Room k callerA)
    (hY : ∀ (w : World) (h : Heap), YP w h → (K w.params).In h)
    (F : ∀ (w : World) (mg : Str → Option Value) (fa : Addr) (h : Heap), (K w.params).In h → h.Ns mainGlobals mg →
      mg d.name = some (.ref fa) → ∃ fd : FuncData, (∀ (s : Shared) (u : Value), BindsTo s fd ⟨[u], []⟩ [(x, u)]) ∧
        ∀ base : Heap, (K w.params).In base → base.Ns mainGlobals mg →
          FnG l.prog w (K w.params) mg base CX0 k fa fd [x] (sp (K w.params)))
    (hsp : ∀ (K : PySem.W.Frag) (H : Hp) (a : Addr) (ns : List Int), ns.length ≤ n → SqL K H a (ns.map V.int) →
      sp K [.ref a] H (fun v _ => v = .bl true) fun _ _ _ => False) :
    PySem.W.WalkO q loose XP YP l.row.toRowW d [] (fun f vs => PySem.call f vs) := by
  refine Att.attach_call hn hdf ?_
  intro w s₀ s₁ mg mb fa o pm cd doc a vs ns G Y ho hd hcd hmg hobj hints hlen hg
  have KX := hY w _ Y
  obtain ⟨fd, hb, hF⟩ := F w mg fa _ KX G.T.g hmg
  exact law_goes KX G.T.g G.T.b G.T.builtins G.T.nolimit hg hobj hints (Nat.le_trans hlen hn2) hr hF hb
    fun H hS => hsp _ H a ns hlen hS

/-! ### a def that hands back a written text, and .replace of what it hands back -/
structure TextDef (P : Program) (w : World) (K : PySem.W.Frag) (mg : Str → Option Value) (base : Heap) (f : Addr) (z : Str) : Prop where
  go : ∀ (A : Around) (outer : List Env) (s : Shared) (H : Hp), Room 1 A → Env0 P w K mg base A outer s H →
    codeAny (model P w) A (.call (.ref f) ⟨[], []⟩) (fun r s' => ∃ t, r = .ok (.ret (.str z t)) ∧ 1 ≤ s'.toks ∧
      s'.os = s.os ∧ AllBare s'.gens ∧ Un (frs outer) [] H H s.heap s'.heap ∧ HOk P w H s'.heap) s

section
variable {P : Program} {w : World} {K : PySem.W.Frag} {mg : Str → Option Value} {base : Heap} {f : Addr} {fd : FuncData}
theorem textDef {x qual : Str} {st : Stmt} {z : Str} {j : Nat} {p1 p2 : Pos} (F : Fun K x qual st f fd)
    (S : FnScope [] [] (defScope st)) (hb : defBody st = [.Return (some (.Constant (.str z) j p1)) p2])
    (hbind : Binds K fd [] []) : TextDef P w K mg base f z := by
  obtain ⟨oc, od, kV, doc, pm, an, cdv, ct, osl, rfl, lk, hcd⟩ := F.ex
  refine ⟨?_⟩
  intro A outer s H hr e0
  have kin : K.In s.heap := e0.mod.kin.keeps fun b o e => (e0.bs b o e).1
  have nol : s.heap.NoLimit := e0.mod.nolimit.keeps fun b o e => (e0.bs b o e).1
  refine Att.call_fn (binds := []) kin nol lk hcd hr.depth (hbind s [] kin rfl) rfl ?_ S.co S.gen S.kind
  intro s1 ic
  have I : Inv (cxOf CX0 P w K mg base [] qual (defScope st) f cdv A outer s H E0) [] (start [] []) H s1 :=
    inv_start (us := []) (vs := []) S hr.hd e0 rfl .nil ic
  rw [hb]
  refine wpAny_execs_cons (wpAny_Return_some (Calls.Constant_str ?_))
  have J := I.tok (s1.toks + 1)
  exact ⟨_, rfl, Nat.le_add_left _ _, J.os, J.bare, J.base, J.hok⟩
end

section
variable {X : Cx}
def tSignsRep (z y u : Str) : TE := fun _ H Q => Q (.str (Txt.replace z y u)) H
theorem pe_signsRep {x : Str} {f : Addr} {z y u : Str} {j k : Nat} {p0 p1 apos c0 c1 pos : Pos}
    (T : TextDef X.prog X.w X.K X.mg X.base f z) (hr : Room 1 X.A) (hg : Gl X x) (hm : X.mg x = some (.ref f))
    (hk : PySem.W.keepIn X.K (.ref f) = true) (hyz : (y == u) = false) (hsz : z.length + (z.length + 1) * u.length ≤ 16777216)
    (hdb : (x == ("__debug__" : Str)) = false := by decide)
    (hst : starEach [.Constant (.str y) j c0, .Constant (.str u) k c1] X.env =
      [(false, eval (.Constant (.str y) j c0) X.env), (false, eval (.Constant (.str u) k c1) X.env)] := by rfl)
    (hbase : attributeBase (.Call (.Name x p0) [] [] p1) "replace" X.env (eval (.Call (.Name x p0) [] [] p1) X.env)
      = eval (.Call (.Name x p0) [] [] p1) X.env := by rfl) (hline : (apos.endLine == pos.line) = true := by rfl) :
    PE X (.Call (.Attribute (.Call (.Name x p0) [] [] p1) "replace" apos) [.Constant (.str y) j c0, .Constant (.str u) k c1] [] pos)
      (tSignsRep z y u) := by
  constructor
  intro pins s σ H Q I h
  refine PySem.Call_method2 hbase hst hline ?_
  refine wpAny_Call_Name_kw (ld_glob I hg hm ?_ hdb)
  refine PySem.W.callWith_K0 I.kIn hk (wpAny_call (codeAny_mono (T.go X.A X.stack s H hr I.env0) ?_))
  rintro r s1 ⟨t, rfl, ht, os, bare, un, hok⟩
  have I1 : Inv X pins σ H s1 := I.call' (ch := []) os un hok bare (fun b z => absurd z (by simp))
  refine ⟨"str", _, PySem.F.plainAttrs_str, PySem.F.slot_str_replace, PySem.F.type_str_replace, typeIs_str _ _ _,
    (fun _ e => nomatch e), Calls.callWith_builtin rfl (Calls.evalArgs_plain (Calls.spliced_cons ?_))⟩
  refine Calls.Constant_str (Calls.spliced_cons (Calls.Constant_str (Calls.spliced_nil ?_)))
  have n1 : s1.toks ≠ 0 := by omega
  have n2 : s1.toks + 1 ≠ 0 := by omega
  have n3 : s1.toks ≠ s1.toks + 1 := by omega
  exact PySem.SC.replace n1 n2 n3 hyz hsz fun t' k => ⟨.str (Txt.replace z y u), H, I1.tok k, ⟨t', rfl⟩, h⟩
end
end AB

namespace AB
open PySem PySem.Spec PyProof.Rows L2

/-! ### a def of the text, the built-ins -/
structure FX (K : PySem.W.Frag) (mg : Str → Option Value) (x : Str) (st : Stmt) (ps : List Str) (f : Addr) (fd : FuncData) : Prop where
  F : Fun K x x st f fd
  b : Binds K fd ps []
  g : mg x = some (.ref f)
structure Bt (mg : Str → Option Value) : Prop where
  b_len : mg "len" = none
  b_range : mg "range" = none
  b_int : mg "int" = none
  b_abs : mg "abs" = none
  b_min : mg "min" = none
  b_max : mg "max" = none
  b_repr : mg "repr" = none
  b_list : mg "list" = none
  b_tuple : mg "tuple" = none
  b_isinstance : mg "isinstance" = none
  b_sorted : mg "sorted" = none
  b_enumerate : mg "enumerate" = none
  b_zip : mg "zip" = none
  b_all : mg "all" = none
  b_any : mg "any" = none
  b_str : mg "str" = none
  b_bool : mg "bool" = none
  b_sum : mg "sum" = none

/-! ### the source of draws -/
def Keep (p : Addr) (H H' : Hp) : Prop := ∀ b o, b ≠ p → H b = some o → H' b = some o
theorem Keep.refl {p : Addr} {H : Hp} : Keep p H H := fun _ _ _ e => e
theorem Keep.trans {p : Addr} {H H1 H2 : Hp} (a : Keep p H H1) (b : Keep p H1 H2) : Keep p H H2 :=
  fun c o n e => b c o n (a c o n e)
theorem Same.keep {p : Addr} {H H' : Hp} (s : Same H H') : Keep p H H' := fun b o _ e => s b o e
theorem Keep.new {p q : Addr} {H : Hp} {o : HO} (h : H q = none) : Keep p H (upd H q o) := fun b u _ e => by
  rw [upd_ne (ne_of_none e h)]; exact e
theorem same_new {q : Addr} {H : Hp} {o : HO} (h : H q = none) : Same H (upd H q o) := fun b u e => by
  rw [upd_ne (ne_of_none e h)]; exact e
theorem Keep.put {p : Addr} {H : Hp} {o : HO} : Keep p H (upd H p o) := fun b u n e => by
  rw [upd_ne n]; exact e

def penD (c : Addr) (t l : Int) : HO :=
  .dK [(.inr "cells", .ref c), (.inr "turn", .int t), (.inr "left", .int l)]
structure Pen (H : Hp) (p c : Addr) (n : Nat) : Prop where
  ex : ∃ (t l : Int) (xs : List Int), H p = some (penD c t l) ∧ H c = some (.lst (xs.map V.int)) ∧
    xs.length ≤ 63 ∧ 0 ≤ t ∧ t ≤ n ∧ 0 ≤ l

section
variable {H : Hp} {p c : Addr} {t l : Int}
theorem e12 : ¬ (("cells" : Str) = "turn") := by decide +kernel
theorem k12 : ¬ ((Sum.inr ("cells" : Str) : Key) = Sum.inr ("turn" : Str)) := fun z => e12 (Sum.inr.inj z)
theorem e13 : ¬ (("cells" : Str) = "left") := by decide +kernel
theorem k13 : ¬ ((Sum.inr ("cells" : Str) : Key) = Sum.inr ("left" : Str)) := fun z => e13 (Sum.inr.inj z)
theorem e23 : ¬ (("turn" : Str) = "left") := by decide +kernel
theorem k23 : ¬ ((Sum.inr ("turn" : Str) : Key) = Sum.inr ("left" : Str)) := fun z => e23 (Sum.inr.inj z)
theorem e21 : ¬ (("turn" : Str) = "cells") := by decide +kernel
theorem k21 : ¬ ((Sum.inr ("turn" : Str) : Key) = Sum.inr ("cells" : Str)) := fun z => e21 (Sum.inr.inj z)
theorem e31 : ¬ (("left" : Str) = "cells") := by decide +kernel
theorem k31 : ¬ ((Sum.inr ("left" : Str) : Key) = Sum.inr ("cells" : Str)) := fun z => e31 (Sum.inr.inj z)
theorem e32 : ¬ (("left" : Str) = "turn") := by decide +kernel
theorem k32 : ¬ ((Sum.inr ("left" : Str) : Key) = Sum.inr ("turn" : Str)) := fun z => e32 (Sum.inr.inj z)
theorem pen_cells (h : H p = some (penD c t l)) : DGet H p (.str "cells") (some (.ref c)) := by
  have q := DGet.k (k := Sum.inr ("cells" : Str)) h
  rw [valV_pos rfl] at q
  exact q
theorem pen_turn (h : H p = some (penD c t l)) : DGet H p (.str "turn") (some (.int t)) := by
  have q := DGet.k (k := Sum.inr ("turn" : Str)) h
  rw [valV_neg k12, valV_pos rfl] at q
  exact q
theorem pen_left (h : H p = some (penD c t l)) : DGet H p (.str "left") (some (.int l)) := by
  have q := DGet.k (k := Sum.inr ("left" : Str)) h
  rw [valV_neg k13, valV_neg k23, valV_pos rfl] at q
  exact q
theorem put_turn (h : H p = some (penD c t l)) (t' : Int) : DPut H p (.str "turn") (.int t') (upd H p (penD c t' l)) := by
  have q := DPut.k (k := Sum.inr ("turn" : Str)) (v := .int t') h (show 3 < sizeLine by decide)
  have e : putK [((.inr "cells" : Key), V.ref c), (.inr "turn", .int t), (.inr "left", .int l)] (.inr "turn") (.int t') =
      [(.inr "cells", .ref c), (.inr "turn", .int t'), (.inr "left", .int l)] := by
    unfold putK
    simp [e12, e32]
  rw [e] at q
  exact q
theorem put_left (h : H p = some (penD c t l)) (l' : Int) : DPut H p (.str "left") (.int l') (upd H p (penD c t l')) := by
  have q := DPut.k (k := Sum.inr ("left" : Str)) (v := .int l') h (show 3 < sizeLine by decide)
  have e : putK [((.inr "cells" : Key), V.ref c), (.inr "turn", .int t), (.inr "left", .int l)] (.inr "left") (.int l') =
      [(.inr "cells", .ref c), (.inr "turn", .int t), (.inr "left", .int l')] := by
    unfold putK
    simp [e13, e23]
  rw [e] at q
  exact q
theorem pen_ne {xs : List V} (h : H p = some (penD c t l)) (h2 : H c = some (.lst xs)) : c ≠ p :=
  ne_of h2 h (fun z => by cases z)
end
theorem Keep.free {p q : Addr} {H H' : Hp} (k : Keep p H H') (n : q ≠ p) (h : H' q = none) : H q = none := by
  cases e : H q with
  | none => rfl
  | some o => rw [k q o n e] at h; cases h
theorem Keep.wr {p q : Addr} {H H' : Hp} {o : HO} (k : Keep p H H') (h : H q = none) : Keep p H (upd H' q o) := fun b u nb e => by
  rw [upd_ne (ne_of_none e h)]
  exact k b u nb e
theorem Same.wr {q : Addr} {H H' : Hp} {o : HO} (k : Same H H') (h : H q = none) : Same H (upd H' q o) := fun b u e => by
  rw [upd_ne (ne_of_none e h)]
  exact k b u e
section
variable {H H' : Hp} {p c a : Addr} {n m : Nat} {xs : List V} {o : HO}
theorem Pen.ne_lst (h : Pen H p c n) (h2 : H a = some (.lst xs)) : a ≠ p := by
  obtain ⟨t, l, ys, e, _⟩ := h.ex
  exact ne_of h2 e (fun z => by cases z)
theorem Pen.ne_tup (h : Pen H p c n) (h2 : H a = some (.tup xs)) : a ≠ p := by
  obtain ⟨t, l, ys, e, _⟩ := h.ex
  exact ne_of h2 e (fun z => by cases z)
theorem Pen.mono (h : Pen H p c n) (hm : n ≤ m) : Pen H p c m := by
  obtain ⟨t, l, ys, e, e2, a, b, d, f⟩ := h.ex
  exact ⟨t, l, ys, e, e2, a, b, by omega, f⟩
theorem Pen.same (h : Pen H p c n) (s : Same H H') : Pen H' p c n := by
  obtain ⟨t, l, ys, e, e2, a⟩ := h.ex
  exact ⟨t, l, ys, s _ _ e, s _ _ e2, a⟩
theorem Pen.new (h : Pen H p c n) (nq : H a = none) : Pen (upd H a o) p c n := h.same (same_new nq)
theorem Pen.nep (h : Pen H p c n) (nq : H a = none) : a ≠ p := by
  obtain ⟨t, l, ys, e, e2, _⟩ := h.ex
  exact (ne_of_none e nq).symm
theorem Pen.nec (h : Pen H p c n) (nq : H a = none) : a ≠ c := by
  obtain ⟨t, l, ys, e, e2, _⟩ := h.ex
  exact (ne_of_none e2 nq).symm
/-- an object of one's own is written -/
theorem Pen.wr (h : Pen H p c n) (h1 : a ≠ p) (h2 : a ≠ c) : Pen (upd H a o) p c n := by
  obtain ⟨t, l, ys, e, e2, r⟩ := h.ex
  exact ⟨t, l, ys, by rw [upd_ne h1.symm]; exact e, by rw [upd_ne h2.symm]; exact e2, r⟩
/-- a list or tuple that can be read stays under Keep -/
theorem Pen.sqL {K : PySem.W.Frag} (h : Pen H p c n) (k : Keep p H H') (s : SqL K H a xs) : SqL K H' a xs := by
  obtain ⟨t, l, ys, e, _⟩ := h.ex
  rcases s with (s | ⟨o, s⟩) | s
  · exact .inl (.inl (k _ _ (ne_of s e fun z => by cases z) s))
  · exact .inl (.inr ⟨o, k _ _ (ne_of s e fun z => by cases z) s⟩)
  · exact .inr s
theorem Pen.sqT {K : PySem.W.Frag} (h : Pen H p c n) (k : Keep p H H') (s : SqT K H a xs) : SqT K H' a xs := by
  obtain ⟨t, l, ys, e, _⟩ := h.ex
  rcases s with (s | ⟨o, s⟩) | s
  · exact .inl (.inl (k _ _ (ne_of s e fun z => by cases z) s))
  · exact .inl (.inr ⟨o, k _ _ (ne_of s e fun z => by cases z) s⟩)
  · exact .inr s
end

theorem dp_ints {K : PySem.W.Frag} {H : Hp} : ∀ ns : List Int, DpAll K H (ns.map V.int) (ns.map PyData.int)
  | [] => .nil
  | n :: r => .cons (.int n) (dp_ints r)
theorem shaped_ints (ns : List Int) : SeqAt.shaped (.list (ns.map PyData.int)) = true := PySem.W.ke_shaped_ints ns

theorem ints_at {ns : List Int} {i : Int} (h : 0 < ns.length) : ∃ y, atI (ns.map V.int) (i % ((ns.map V.int).length : Int)) = some (.int y) := by
  rw [List.length_map]
  have a := Int.emod_nonneg i (b := (ns.length : Int)) (by omega)
  have b := Int.emod_lt_of_pos i (b := (ns.length : Int)) (by omega)
  obtain ⟨j, hj⟩ : ∃ j : Nat, i % (ns.length : Int) = (j : Int) := ⟨(i % (ns.length : Int)).toNat, by omega⟩
  have lj : j < ns.length := by omega
  refine ⟨ns[j], ?_⟩
  rw [hj]
  refine atI_nat ?_
  rw [List.getElem?_map, List.getElem?_eq_getElem lj]
  rfl
def primesL : List Int := [2147483629, 2147483647, 2147483587, 2147483563, 2147483579]
theorem prime_at (t : Int) : ∃ r, atI (primesL.map V.int) (t % 5) = some (.int r) ∧ 0 < r ∧ r < 2147483648 := by
  have a := Int.emod_nonneg t (b := 5) (by omega)
  have b := Int.emod_lt_of_pos t (b := 5) (by omega)
  have c : t % 5 = 0 ∨ t % 5 = 1 ∨ t % 5 = 2 ∨ t % 5 = 3 ∨ t % 5 = 4 := by omega
  rcases c with c | c | c | c | c <;> rw [c]
  · exact ⟨_, rfl, by decide, by decide⟩
  · exact ⟨_, rfl, by decide, by decide⟩
  · exact ⟨_, rfl, by decide, by decide⟩
  · exact ⟨_, rfl, by decide, by decide⟩
  · exact ⟨_, rfl, by decide, by decide⟩

/-- draw(pen, m): a number below m -/
def spDraw : Sp := fun vs H Q _ => ∃ (p c : Addr) (n : Nat) (m : Int), vs = [.ref p, .int m] ∧ Pen H p c n ∧ n ≤ 1000000 ∧
  0 < m ∧ m < 1073741824 ∧ ∀ H' (i : Int), 0 ≤ i → i < m → Keep p H H' → Pen H' p c (n + 1) → Q (.int i) H'
/-- pick(pen, options) -/
def spPick (K : PySem.W.Frag) : Sp := fun vs H Q _ => ∃ (p c : Addr) (n : Nat) (o : V), vs = [.ref p, o] ∧ Pen H p c n ∧ n ≤ 1000000 ∧
  ((∃ z : Str, o = .str z ∧ 0 < z.length ∧ z.length ≤ 100000 ∧
      ∀ H' (i d : Nat), z.cps.toList[i]? = some d → Keep p H H' → Pen H' p c (n + 1) → Q (.str ⟨#[d]⟩) H') ∨
   (∃ (a : Addr) (xs : List V), o = .ref a ∧ SqL K H a xs ∧ xs ≠ [] ∧ xs.length ≤ 100000 ∧
      ∀ H' (i : Nat) (v : V), xs[i]? = some v → Keep p H H' → Pen H' p c (n + 1) → Q v H'))
/-- pen(script) -/
def spPen (K : PySem.W.Frag) : Sp := fun vs H Q _ => ∃ (a : Addr) (ns : List Int), vs = [.ref a] ∧ SqL K H a (ns.map V.int) ∧
  ns.length ≤ 63 ∧ ∀ H' p c, Same H H' → H p = none → Pen H' p c 0 → Q (.ref p) H'
end AB

namespace AB
open PySem PySem.Spec PyProof.Rows L2
open TL (tl)

/-! ### places of a word -/
def isAt (t w : List Nat) (i : Nat) : Bool := TL.pre w (t.drop i)
def plcN (t w : List Nat) (n : Nat) : List Nat := (List.range n).filter (isAt t w)
/-- all places of the word w in the text t, ascending -/
def plc (t w : List Nat) : List Nat := plcN t w (t.length + 1)

theorem isAt_le {t w : List Nat} {i : Nat} (hw : w ≠ []) (h : isAt t w i = true) : i + w.length ≤ t.length := by
  have e : (t.drop i).take w.length = w := eq_of_beq h
  have e1 := congrArg List.length e
  rw [List.length_take, List.length_drop] at e1
  have := List.length_pos_iff.mpr hw
  omega
theorem plcN_succ {t w : List Nat} {n : Nat} : plcN t w (n + 1) = plcN t w n ++ (if isAt t w n = true then [n] else []) := by
  unfold plcN
  rw [List.range_succ, List.filter_append]
  by_cases h : isAt t w n = true
  · simp [h]
  · simp [h]
theorem plcN_skip {t w : List Nat} {a : Nat} : ∀ (k : Nat), (∀ j, a ≤ j → j < a + k → isAt t w j = false) → plcN t w (a + k) = plcN t w a
  | 0, _ => rfl
  | k + 1, h => by
    have ih := plcN_skip (a := a) k fun j h1 h2 => h j h1 (by omega)
    rw [← Nat.add_assoc, plcN_succ, ih, h (a + k) (by omega) (by omega)]
    simp
theorem plcN_skip' {t w : List Nat} {a b : Nat} (hab : a ≤ b) (h : ∀ j, a ≤ j → j < b → isAt t w j = false) : plcN t w b = plcN t w a := by
  have := plcN_skip (t := t) (w := w) (a := a) (b - a) fun j h1 h2 => h j h1 (by omega)
  rwa [show a + (b - a) = b by omega] at this
theorem plcN_end {t w : List Nat} {a : Nat} (ha : t.length + 1 - w.length ≤ a) (hw : w ≠ []) : plcN t w a = plc t w := by
  unfold plc
  have key : ∀ j, t.length + 1 - w.length ≤ j → isAt t w j = false := fun j hj => by
    cases c : isAt t w j with
    | false => rfl
    | true =>
      have := isAt_le hw c
      have := List.length_pos_iff.mpr hw
      omega
  rw [plcN_skip' (a := t.length + 1 - w.length) (b := t.length + 1) (by omega) fun j h1 _ => key j h1, plcN_skip' ha fun j h1 _ => key j h1]
theorem plcN_len (t w : List Nat) (n : Nat) : (plcN t w n).length ≤ n := by
  unfold plcN
  exact Nat.le_trans (List.length_filter_le _ _) (by simp)
theorem plc_len (t w : List Nat) : (plc t w).length ≤ t.length + 1 := plcN_len _ _ _
theorem mem_plc {t w : List Nat} {i : Nat} (hw : w ≠ []) : i ∈ plc t w ↔ isAt t w i = true := by
  unfold plc plcN
  rw [List.mem_filter, List.mem_range]
  constructor
  · exact fun h => h.2
  · intro h
    have := isAt_le hw h
    exact ⟨by omega, h⟩

def nVs (l : List Nat) : List V := l.map fun k : Nat => V.int (k : Int)
theorem nVs_len (l : List Nat) : (nVs l).length = l.length := List.length_map _
theorem nVs_app (l : List Nat) (k : Nat) : nVs (l ++ [k]) = nVs l ++ [V.int (k : Int)] := by simp [nVs]
def datI (l : List Nat) : List PyData := l.map fun k : Nat => PyData.int (k : Int)
theorem dp_nats {K : PySem.W.Frag} {H : Hp} : ∀ l : List Nat, DpAll K H (nVs l) (datI l)
  | [] => .nil
  | n :: r => .cons (.int n) (dp_nats r)
theorem shaped_nats (l : List Nat) : SeqAt.shaped (.list (datI l)) = true := by
  have := shaped_ints (l.map fun k : Nat => (k : Int))
  rw [List.map_map] at this
  exact this
theorem eqv_ints : ∀ l : List Int, PyData.eqvAll (l.map PyData.int) (l.map PyData.int) = true
  | [] => rfl
  | n :: r => by simp [PyData.eqvAll, PyData.eqv, eqv_ints r]
theorem eqv_nats (l : List Nat) : PyData.eqv (.list (datI l)) (.list (datI l)) = true := by
  have := eqv_ints (l.map fun k : Nat => (k : Int))
  rw [List.map_map] at this
  simp only [PyData.eqv]
  exact this
theorem show_nats {l : List Nat} {m : Nat} (hl : l.length ≤ m) (hm : m ≤ 50000) (hb : ∀ k ∈ l, k ≤ 1000000) : Show (.list (datI l)) 16000000 64 := by
  refine (Show.list (n := 301) (k := 0) (m := 16000000) ?_ ?_).mono (Nat.le_refl _) (by decide)
  · intro d hd
    obtain ⟨k, hk, rfl⟩ := List.mem_map.mp hd
    refine Show.int ?_
    have := hb k hk
    rw [Int.natAbs_natCast]
    exact Nat.lt_of_le_of_lt this (Nat.lt_of_lt_of_le (show 1000000 < 2 ^ 20 by decide) (Nat.pow_le_pow_right (by decide) (by decide)))
  · have : (datI l).length = l.length := List.length_map _
    omega

/-- text.find(word), from a place on -/
theorem find_from {x y : Str} (hy : tl y ≠ []) (lo : Nat) :
    (Builtin.Str.occurrences x y lo x.length 1 = [] ∧ ∀ j, lo ≤ j → isAt (tl x) (tl y) j = false) ∨
    ∃ k r, Builtin.Str.occurrences x y lo x.length 1 = k :: r ∧ lo ≤ k ∧ isAt (tl x) (tl y) k = true ∧ ∀ j, lo ≤ j → j < k → isAt (tl x) (tl y) j = false := by
  rcases PySem.StrLaws.occ_head_from x y lo 1 (Nat.le_refl _) with ⟨a, b⟩ | ⟨k, r, a, b, c, d⟩
  · exact .inl ⟨a, fun j hj => TL.no_at hy (b j hj)⟩
  · exact .inr ⟨k, r, a, b, (TL.at_iff hy k).mp c, fun j h1 h2 => TL.no_at hy (d j h1 h2)⟩
theorem find3_nat (x y : Str) (lo : Nat) : Txt.find3 x y (lo : Int) = match Builtin.Str.occurrences x y lo x.length 1 with | k :: _ => (k : Int) | [] => -1 := by
  unfold Txt.find3
  have : fromIndex x.length (lo : Int) = lo := by
    unfold fromIndex
    rw [if_neg (by omega)]
    omega
  rw [this]
  cases Builtin.Str.occurrences x y lo x.length 1 <;> rfl

/-! ### slices, joins -/
theorem tl_cutS {z : Str} {a b : Nat} : tl (cutS z (some (a : Int)) (some (b : Int))) = ((tl z).drop a).take (b - a) := by
  show ((z.cps.toList.drop (HT.sIx z.length 0 (some (a : Int)))).take (HT.sIx z.length z.length (some (b : Int)) - HT.sIx z.length 0 (some (a : Int)))) = _
  rw [HT.sIx_nat, HT.sIx_nat]
  have hl := TL.len_tl z
  by_cases h : a ≤ z.length
  · rw [Nat.min_eq_left h]
    by_cases h2 : b ≤ z.length
    · rw [Nat.min_eq_left h2]
    · rw [Nat.min_eq_right (by omega)]
      rw [List.take_of_length_le (by rw [List.length_drop]; show z.cps.toList.length - a ≤ _; rw [← hl]; omega), List.take_of_length_le (by rw [List.length_drop, ← hl]; omega)]
  · have e1 : (tl z).drop a = [] := List.drop_eq_nil_of_le (by rw [← hl]; omega)
    have e2 : (tl z).drop z.length = [] := List.drop_eq_nil_of_le (by rw [← hl]; exact Nat.le_refl _)
    have e3 : min a z.length = z.length := by omega
    have e4 : z.cps.toList.drop z.length = [] := e2
    rw [e3, e1, e4]
    simp
theorem cutV_whole {xs : List V} {n : Nat} (h : xs.length ≤ n) : cutV xs none (some (n : Int)) = xs := by
  unfold cutV
  rw [HT.sIx_none, HT.sIx_nat, Nat.min_eq_right h]
  simp
theorem cutV_to {xs : List V} {n : Nat} (h : n ≤ xs.length) : cutV xs none (some (n : Int)) = xs.take n := by
  unfold cutV
  rw [HT.sIx_none, HT.sIx_nat, Nat.min_eq_left h]
  simp

theorem foldl_glue : ∀ (ps : List Str) (acc : Array Nat), (ps.foldl (fun acc p => acc ++ (Str.ofString "").cps ++ p.cps) acc).toList = acc.toList ++ (ps.map tl).flatten
  | [], acc => by simp
  | p :: r, acc => by
    rw [List.foldl_cons, foldl_glue r]
    have : (Str.ofString "").cps = #[] := by decide +kernel
    rw [this]
    simp
theorem tl_join (ps : List Str) : tl (Txt.join "" ps) = (ps.map tl).flatten := by
  cases ps with
  | nil => decide +kernel
  | cons p r =>
    have := foldl_glue r p.cps
    show ((r.foldl (fun acc q => acc ++ (Str.ofString "").cps ++ q.cps) p.cps)).toList = _
    rw [this]
    simp

/-! ### letters -/
def lettersS : Str := "\x0a !\"#$&'()*+,-./0123456789:;<=>?@ABCDEFGHIJKLMNOPQRSTUVWXYZ[\\]^_`abcdefghijklmnopqrstuvwxyz{|}~"
/-- the text's signs are letters -/
def Lt (z : Str) : Prop := ∀ c ∈ tl z, c ∈ tl lettersS
theorem letters_small : ∀ c ∈ tl lettersS, c < 127 := by decide +kernel
theorem Lt.small {z : Str} (h : Lt z) : ∀ c ∈ z.cps.toList, c < 16 ^ 8 := fun c hc =>
  Nat.lt_trans (letters_small c (h c hc)) (by decide)
theorem Lt.of_mem {z y : Str} (h : Lt z) (s : ∀ c ∈ tl y, c ∈ tl z) : Lt y := fun c hc => h c (s c hc)
theorem Lt.one {z : Str} {c : Nat} {i : Nat} (h : Lt z) (e : z.cps.toList[i]? = some c) : Lt ⟨#[c]⟩ := fun d hd => by
  have : d = c := by simpa using hd
  subst this
  exact h d (List.mem_of_getElem? e)
theorem Lt.app {x y : Str} (hx : Lt x) (hy : Lt y) : Lt (x ++ y) := fun c hc => by
  rw [TL.tl_append] at hc
  exact (List.mem_append.mp hc).elim (hx c) (hy c)
theorem Lt.cut {z : Str} {lo hi : Option Int} (h : Lt z) : Lt (cutS z lo hi) := fun c hc => h c (List.mem_of_mem_drop (List.mem_of_mem_take hc))
theorem Lt.dec {z : Str} (h : (tl z).all (fun c => (tl lettersS).contains c) = true) : Lt z := fun c hc => by
  have := List.all_eq_true.mp h c hc
  simpa using this
end AB

namespace AB
open PySem PySem.Spec PyProof.Rows L2
open TL (tl)
def spFew : Sp := fun vs H Q _ => ∃ (p c : Addr) (n : Nat), vs = [.ref p] ∧ Pen H p c n ∧ n ≤ 900000 ∧
  ∀ H' (z : Str), Keep p H H' → Pen H' p c (n + 4) → 1 ≤ z.length → z.length ≤ 3 → Lt z → Q (.str z) H'
def spWord : Sp := fun vs H Q _ => ∃ (p c : Addr) (n : Nat) (z : Str) (a b : Nat), vs = [.ref p, .str z, .int a, .int b] ∧ Pen H p c n ∧
  0 < z.length ∧ z.length ≤ 1000 ∧ a ≤ b ∧ b ≤ 1000 ∧ n + b + 1 ≤ 900000 ∧
  ∀ H' (y : Str), Keep p H H' → Pen H' p c (n + b + 1) → a ≤ y.length → y.length ≤ b → (∀ d ∈ tl y, d ∈ tl z) → Q (.str y) H'
/-- places(text, word), and the law's own -/
def spPlaces : Sp := fun vs H Q _ => ∃ (t w : Str), vs = [.str t, .str w] ∧ t.length ≤ 100000 ∧ 0 < w.length ∧ w.length ≤ 100000 ∧
  ∀ H' p, Same H H' → H p = none → H' p = some (.lst (nVs (plc (tl t) (tl w)))) → Q (.ref p) H'

def penL (c : Addr) : List (Key × V) := [(.inr "cells", .ref c), (.inr "turn", .int 0), (.inr "left", .int 0)]
theorem pen_merge (c : Addr) : mergeK [] (penL c) = penL c := by
  unfold mergeK penL
  simp [putK, e12, e13, e23]
theorem tl_ne {w : Str} (h : 0 < w.length) : tl w ≠ [] := fun e => by
  have := TL.len_tl w
  rw [e] at this
  simp at this
  omega
/-- in a row of one-sign texts -/
theorem one_len (c : Nat) : (Str.mk #[c]).length = 1 := rfl
theorem ones_sum {z : Str} : ∀ {ys : List Str}, (∀ y ∈ ys, ∃ d ∈ tl z, y = ⟨#[d]⟩) →
    (ys.map (·.length)).sum = ys.length ∧ (Txt.join "" ys).length = ys.length ∧ ∀ d ∈ tl (Txt.join "" ys), d ∈ tl z := by
  intro ys h
  have key : ∀ {ys : List Str}, (∀ y ∈ ys, ∃ d ∈ tl z, y = ⟨#[d]⟩) → (ys.map (·.length)).sum = ys.length ∧ ((ys.map tl).flatten).length = ys.length ∧ ∀ d ∈ (ys.map tl).flatten, d ∈ tl z := by
    intro ys
    induction ys with
    | nil => intro _; exact ⟨rfl, rfl, fun _ h => (nomatch h)⟩
    | cons y r ih =>
      intro h
      obtain ⟨a, b, c⟩ := ih fun x hx => h x (List.mem_cons_of_mem _ hx)
      obtain ⟨d, hd, rfl⟩ := h y List.mem_cons_self
      refine ⟨?_, ?_, ?_⟩
      · rw [List.map_cons, List.sum_cons, a, List.length_cons, one_len]
        omega
      · rw [List.map_cons, List.flatten_cons, List.length_append, b, List.length_cons]
        show 1 + r.length = r.length + 1
        omega
      · intro e he
        rw [List.map_cons, List.flatten_cons] at he
        rcases List.mem_append.mp he with q | q
        · have : e = d := by simpa using q
          subst this
          exact hd
        · exact c e q
  obtain ⟨a, b, c⟩ := key h
  refine ⟨a, ?_, ?_⟩
  · rw [TL.len_tl, tl_join, b]
  · rw [tl_join]
    exact c
def fewL (r : Str) : List Str := ["ab", "ab", "abc", "abc", "a b", "a\n", "\"\\", "x~", "01", r]
theorem fewL_ok {r : Str} (h1 : 1 ≤ r.length) (h2 : r.length ≤ 3) (h3 : Lt r) : ∀ y ∈ fewL r, 1 ≤ y.length ∧ y.length ≤ 3 ∧ Lt y := by
  have key : ∀ y ∈ fewL "ab", 1 ≤ y.length ∧ y.length ≤ 3 ∧ (tl y).all (fun c => (tl lettersS).contains c) = true := by decide +kernel
  intro y hy
  have : y ∈ fewL "ab" ∨ y = r := by
    unfold fewL at hy ⊢
    simp only [List.mem_cons, List.not_mem_nil, or_false] at hy ⊢
    grind
  rcases this with h | rfl
  · obtain ⟨a, b, c⟩ := key y h
    exact ⟨a, b, Lt.dec c⟩
  · exact ⟨h1, h2, h3⟩
theorem at_map_str {ys : List Str} {i : Nat} {v : V} (h : (ys.map V.str)[i]? = some v) : ∃ y ∈ ys, v = .str y := by
  rw [List.getElem?_map] at h
  cases e : ys[i]? with
  | none => rw [e] at h; cases h
  | some y =>
    rw [e] at h
    exact ⟨y, List.mem_of_getElem? e, (Option.some.inj h).symm⟩
theorem flat_strs (ys : List Str) : (ys.map V.str).all flatV = true := by
  rw [List.all_eq_true]
  intro x hx
  obtain ⟨y, _, rfl⟩ := List.mem_map.mp hx
  rfl
theorem signs94 : 0 < (Txt.replace lettersS "q" "").length ∧ (Txt.replace lettersS "q" "").length ≤ 100 ∧
    (tl (Txt.replace lettersS "q" "")).all (fun c => (tl lettersS).contains c) = true := by decide +kernel
end AB

/-! the rules that speak of the written part, with that part named (for the blocks of comprehensions) -/
namespace AB
open PySem PySem.Spec PyProof.Rows L2
section
variable {X : Cx} {K : PySem.W.Frag}
theorem ixK_list (h : X.K = K) : IxR X (rIxL K) := h ▸ ix_list
theorem ixK_tup (h : X.K = K) : IxR X (rIxT K) := h ▸ ix_tup
theorem ixK_seq (h : X.K = K) : IxR X (rIx K) := h ▸ ix_seq
theorem slK_list (h : X.K = K) : SlR X (rSlL K) := h ▸ sl_list
theorem inK_seq (h : X.K = K) : OpR X (compareOp .In) (rIn K false) := h ▸ op_in_seq
theorem notInK_seq (h : X.K = K) : OpR X (compareOp .NotIn) (rIn K true) := h ▸ op_notIn_seq
theorem eqK_D (h : X.K = K) (hu : X.A.units + 64 < cLine) : OpR X (compareOp .Eq) (rEqD K) := h ▸ op_eqD hu
theorem neK_D (h : X.K = K) (hu : X.A.units + 64 < cLine) : OpR X (compareOp .NotEq) (rNeD K) := h ▸ op_neD hu
def rLenK (K : PySem.W.Frag) : List V → Hp → VK → Prop := fun xs H Q => ∃ x n, xs = [x] ∧ LenV K x H n ∧ Q (.int n) H
theorem lenK (h : X.K = K) : CallR X (.builtin "len") (rLenK K) := h ▸ call_len
def rListOf (K : PySem.W.Frag) : List V → Hp → VK → Prop := fun xs H Q => ∃ p ys, xs = [.ref p] ∧ (SqL K H p ys ∨ SqT K H p ys) ∧ ∀ l, H l = none → Q (.ref l) (upd H l (.lst ys))
theorem listK_of (h : X.K = K) : CallR X (.type "list") (rListOf K) := h ▸ call_list_of
theorem reprK {k : Nat} (h : X.K = K) (hr : Room k X.A) (hg : X.A.guards = some []) : CallR X (.builtin "repr") (rRepr K) := h ▸ call_repr hr hg
theorem piK_list {tg l : Expr} {tl : TE} (h : X.K = K) (hl : PE X l tl) : PI X tg l (iList K tl) := h ▸ pi_list hl
theorem piK_tup {tg l : Expr} {tl : TE} (h : X.K = K) (hl : PE X l tl) : PI X tg l (iTup K tl) := h ▸ pi_tup hl
theorem pgK_tup {es : List Expr} {k : Nat} {t : TGs} {n : Nat} {pos : Pos} (hK : X.K = K) (hc : X.calm = true) (h : PGs X es t)
    (hn : (assignEach es X.env).length = n := by rfl) (hst : (assignEach es X.env).findIdx? (·.1) = none := by rfl) :
    PG X (.Tuple es k pos) (gTup K n t) := hK ▸ pg_tup hc h hn hst
def rJoinK (K : PySem.W.Frag) : V → List V → Hp → VK → Prop := fun x xs H Q => ∃ a p, ∃ ys : List Str, x = .str a ∧ xs = [.ref p] ∧
  (SqL K H p (ys.map V.str) ∨ SqT K H p (ys.map V.str)) ∧ (ys.map (·.length)).sum + ys.length * a.length ≤ 16777216 ∧ Q (.str (Txt.join a ys)) H
end
open TL (tl)
theorem cut_isAt {z y : Str} (i : Nat) : decide (V.str (cutS z (some (i : Int)) (some ((i : Int) + (y.length : Int)))) = V.str y) = isAt (tl z) (tl y) i := by
  have e : tl (cutS z (some (i : Int)) (some ((i : Int) + (y.length : Int)))) = ((tl z).drop i).take y.length := by
    have := tl_cutS (z := z) (a := i) (b := i + y.length)
    rw [Nat.add_sub_cancel_left] at this
    rw [← this]
    rfl
  unfold isAt TL.pre
  rw [← TL.len_tl, ← e]
  by_cases h : cutS z (some (i : Int)) (some ((i : Int) + (y.length : Int))) = y
  · rw [decide_eq_true (by rw [h]), h]
    simp
  · rw [decide_eq_false fun q => h (V.str.inj q)]
    symm
    exact beq_eq_false_iff_ne.mpr fun q => h (TL.ext_tl q)
end AB

namespace AB
open PySem PySem.Spec PyProof.Rows L2
open TL (tl)
/-- a law's promise -/
def spLaw (K : PySem.W.Frag) : Sp := fun vs H Q _ => ∃ (a : Addr) (ns : List Int), vs = [.ref a] ∧ SqL K H a (ns.map V.int) ∧ ns.length ≤ 63 ∧ ∀ H', Q (.bl true) H'

/-- two parameters by keywords, in the other order -/
def kb21 {α : Type} : List α → List α → List α := fun us ws => match us, ws with
  | [], [a, b] => [b, a]
  | _, _ => []
theorem kb21_mk {K : PySem.W.Frag} {fd : FuncData} {x y : Str} (h : ∀ a b : Value, bindArgs fd ⟨[], [(y, a), (x, b)]⟩ = pure [(x, b), (y, a)]) :
    KBinds K fd [x, y] [y, x] kb21 kb21 where
  to := by
    intro s us ws _ hl
    match us, ws, hl with
    | [], [a, b], _ => exact .of_eq (h a b)
    | [], [], h => cases h
    | [], [_], h => cases h
    | [], _ :: _ :: _ :: _, h => cases h
    | _ :: _, _, h => cases h
  rel := by
    intro vs us zs ws r1 r2
    cases r1 with
    | cons a b => exact .nil
    | nil =>
      cases r2 with
      | nil => exact .nil
      | cons p q =>
        cases q with
        | nil => exact .nil
        | cons p' q' =>
          cases q' with
          | nil => exact .cons p' (.cons p .nil)
          | cons _ _ => exact .nil

theorem show_plc {t w : Str} (ht : t.length ≤ 1000) : Show (.list (datI (plc (tl t) (tl w)))) 16000000 64 := by
  have hl := TL.len_tl t
  refine show_nats (m := 1001) ?_ (by decide) ?_
  · have := plc_len (tl t) (tl w)
    omega
  · intro k hk
    unfold plc plcN at hk
    have := List.mem_range.mp (List.mem_filter.mp hk).1
    omega
theorem ne_self {A B : Prop} {x : V} (h : B) : if (!decide (x = x)) = true then A else B := by
  rw [decide_eq_true rfl]
  exact h
theorem nef_self {A B : Prop} {l : List Nat} (h : B) : if (!PyData.eqv (.list (datI l)) (.list (datI l))) = true then A else B := by
  rw [eqv_nats]
  exact h
def nonE (ss : List Str) : List Str := ss.filter fun s => decide (0 < s.length)
theorem ne_empty {s : Str} : (!decide (V.str s = V.str "")) = decide (0 < s.length) := by
  by_cases h : 0 < s.length
  · rw [decide_eq_true h, decide_eq_false]
    · rfl
    · intro e
      have := V.str.inj e
      subst this
      exact absurd h (by decide +kernel)
  · rw [decide_eq_false h, decide_eq_true]
    · rfl
    · have e : tl s = tl "" := by
        have := TL.len_tl s
        have h2 : tl s = [] := List.length_eq_zero_iff.mp (by omega)
        rw [h2]
        decide +kernel
      rw [TL.ext_tl e]
end AB

namespace Law
open PySem PySem.Spec PyProof.Rows L2 AB
def topS (i : Nat) : Stmt := PySem.Challenge.pw_anchoredits_k03_places_of_words.main.body.getD i (.Pass ⟨0, 0, 0, 0⟩)
abbrev s_places : Stmt := topS 1
abbrev N_places : List Str := ["text", "word", "found", "place"]
abbrev P_places : List Str := ["text", "word"]
theorem sc_places : FnScope N_places P_places (defScope s_places) :=
  ⟨rfl, rfl, rfl, by decide +kernel, rfl, by decide +kernel, by decide +kernel⟩

abbrev s_L_pen : Stmt := topS 3
abbrev N_L_pen : List Str := ["_law_script"]
abbrev P_L_pen : List Str := ["_law_script"]
theorem sc_L_pen : FnScope N_L_pen P_L_pen (defScope s_L_pen) :=
  ⟨rfl, rfl, rfl, by decide +kernel, rfl, by decide +kernel, by decide +kernel⟩

abbrev s_L_draw : Stmt := topS 4
abbrev N_L_draw : List Str := ["_law_pen_here", "_law_many", "_law_digit", "_law_turn", "_law_cell", "_law_primes", "_law_prime", "_law_drawn"]
abbrev P_L_draw : List Str := ["_law_pen_here", "_law_many"]
theorem sc_L_draw : FnScope N_L_draw P_L_draw (defScope s_L_draw) :=
  ⟨rfl, rfl, rfl, by decide +kernel, rfl, by decide +kernel, by decide +kernel⟩

abbrev s_L_pick : Stmt := topS 5
abbrev N_L_pick : List Str := ["_law_pen_here", "_law_options"]
abbrev P_L_pick : List Str := ["_law_pen_here", "_law_options"]
theorem sc_L_pick : FnScope N_L_pick P_L_pick (defScope s_L_pick) :=
  ⟨rfl, rfl, rfl, by decide +kernel, rfl, by decide +kernel, by decide +kernel⟩

abbrev s_L_signs : Stmt := topS 6
abbrev N_L_signs : List Str := []
abbrev P_L_signs : List Str := []
theorem sc_L_signs : FnScope N_L_signs P_L_signs (defScope s_L_signs) :=
  ⟨rfl, rfl, rfl, by decide +kernel, rfl, by decide +kernel, by decide +kernel⟩

abbrev s_L_few : Stmt := topS 7
abbrev N_L_few : List Str := ["_law_pen_here", "_law_some", "_law_rare", "_law_k"]
abbrev P_L_few : List Str := ["_law_pen_here"]
theorem sc_L_few : FnScope N_L_few P_L_few (defScope s_L_few) :=
  ⟨rfl, rfl, rfl, by decide +kernel, rfl, by decide +kernel, by decide +kernel⟩

abbrev s_L_word : Stmt := topS 8
abbrev N_L_word : List Str := ["_law_pen_here", "_law_signs_here", "_law_least", "_law_most_letters", "_law_many", "_law_k"]
abbrev P_L_word : List Str := ["_law_pen_here", "_law_signs_here", "_law_least", "_law_most_letters"]
theorem sc_L_word : FnScope N_L_word P_L_word (defScope s_L_word) :=
  ⟨rfl, rfl, rfl, by decide +kernel, rfl, by decide +kernel, by decide +kernel⟩

abbrev s_L_places : Stmt := topS 9
abbrev N_L_places : List Str := ["_law_text_here", "_law_was", "_law_size", "_law_k"]
abbrev P_L_places : List Str := ["_law_text_here", "_law_was"]
theorem sc_L_places : FnScope N_L_places P_L_places (defScope s_L_places) :=
  ⟨rfl, rfl, rfl, by decide +kernel, rfl, by decide +kernel, by decide +kernel⟩

abbrev s_law : Stmt := topS 10
abbrev N_law : List Str := ["_law_script", "_law_pen_here", "_law_turn", "_law_signs_here", "_law_body", "_law_at", "_law_some", "_law_goal", "_law_told", "_law_due", "_law_one"]
abbrev P_law : List Str := ["_law_script"]
theorem sc_law : FnScope N_law P_law (defScope s_law) :=
  ⟨rfl, rfl, rfl, by decide +kernel, rfl, by decide +kernel, by decide +kernel⟩

end Law
namespace Law
open PySem PySem.Spec PyProof.Rows L2 AB
section
variable {P : Program} {w : World} {K : PySem.W.Frag} {mg : Str → Option Value} {base : Heap} {f : Addr} {fd : FuncData}
theorem ok_L_draw (X_L_draw : FX K mg "_law_draw" s_L_draw P_L_draw f fd) (B : Bt mg) :
    FnOk P w K mg base CX0 1 f fd P_L_draw spDraw := by
  refine X_L_draw.F.ok sc_L_draw (fun vs H Q E h => ?_) (fun cdv A outer s H vs Q E hr h => ?_)
  · obtain ⟨p, c, n, m, rfl, _⟩ := h
    rfl
  obtain ⟨p, c, n, m, rfl, hp, hn, m0, m1, q⟩ := h
  obtain ⟨t, l, xs, e, ec, lx, t0, t1, l0⟩ := hp.ex
  refine ⟨_, (pss_cons (ps_if (pt_cmpR op_gt (pe_dget (hu_of hr) (pv 0) pe_str (fun _ _ => rfl)) pe_int (nomark _))
  (pss_cons (ps_set (i := 2) sc_L_draw.nd rfl (.inl rfl) (pe_op op_mod (pe_callTy call_int1 (by rfl) B.b_int (by decide +kernel) (pa_cons (pe_dget (hu_of hr) (pv 0) pe_str (fun _ _ => rfl)) pa_nil)) (pv 1)))
  (pss_cons (ps_dput (hu_of hr) (pv 0) pe_str (pe_op op_fdiv (pe_dget (hu_of hr) (pv 0) pe_str (fun _ _ => rfl)) (pv 1)) rfl)
  (pss_one (ps_ret (pv 2)))))
  pss_nil)
  (pss_cons (ps_set (i := 3) sc_L_draw.nd rfl (.inl rfl) (pe_dget (hu_of hr) (pv 0) pe_str (fun _ _ => rfl)))
  (pss_cons (ps_dput (hu_of hr) (pv 0) pe_str (pe_op op_add (pv 3) pe_int) rfl)
  (pss_cons (ps_set (i := 4) sc_L_draw.nd rfl (.inl rfl) (pe_op op_add (pe_op op_mul pe_int (pv 3)) pe_int))
  (C8.pss_cut (ps_if (pt_cmpR (neK_D (K := K) rfl hr.units) (pe_dget (hu_of hr) (pv 0) pe_str (fun _ _ => rfl)) (pe_lst pa_nil) (nomark _))
  (pss_one (ps_set (i := 4) sc_L_draw.nd rfl (.inl rfl) (pe_ix (ixK_list (K := K) rfl) (pe_dget (hu_of hr) (pv 0) pe_str (fun _ _ => rfl)) (pe_op op_mod (pe_callTy call_int1 (by rfl) B.b_int (by decide +kernel) (pa_cons (pv 3) pa_nil)) (pe_callB (lenK (K := K) rfl) (by rfl) B.b_len (by decide +kernel) (pa_cons (pe_dget (hu_of hr) (pv 0) pe_str (fun _ _ => rfl)) pa_nil))) (fun _ _ => rfl))))
  pss_nil)
  (C8.pss_cut (ps_if (PW.pt (pw_and (pt_cmpR op_lt (pv 3) (pe_callB (lenK (K := K) rfl) (by rfl) B.b_len (by decide +kernel) (pa_cons (pe_dget (hu_of hr) (pv 0) pe_str (fun _ _ => rfl)) pa_nil)) (nomark _)) (pw_and1 (pt_cmpR op_ge (pe_callB call_abs (by rfl) B.b_abs (by decide +kernel) (pa_cons (pv 4) pa_nil)) (pe_op op_pow pe_int pe_int) (nomark _)))))
  (pss_cons (ps_dput (hu_of hr) (pv 0) pe_str (pe_op op_fdiv (pe_op op_sub (pe_callB call_abs (by rfl) B.b_abs (by decide +kernel) (pa_cons (pv 4) pa_nil)) (pe_op op_pow pe_int pe_int)) (pv 1)) rfl)
  (pss_one (ps_ret (pe_op op_mod (pe_op op_sub (pe_callB call_abs (by rfl) B.b_abs (by decide +kernel) (pa_cons (pv 4) pa_nil)) (pe_op op_pow pe_int pe_int)) (pv 1)))))
  pss_nil)
  (pss_cons (ps_set (i := 5) sc_L_draw.nd rfl (.inl rfl) (pe_lst (pa_cons pe_int (pa_cons pe_int (pa_cons pe_int (pa_cons pe_int (pa_cons pe_int pa_nil)))))))
  (pss_cons (ps_set (i := 6) sc_L_draw.nd rfl (.inl rfl) (pe_ix (ixK_list (K := K) rfl) (pv 5) (pe_op op_mod (pe_callTy call_int1 (by rfl) B.b_int (by decide +kernel) (pa_cons (pv 3) pa_nil)) pe_int) (fun _ _ => rfl)))
  (pss_cons (ps_set (i := 7) sc_L_draw.nd rfl (.inl rfl) (pe_op op_mod (pe_callTy call_int1 (by rfl) B.b_int (by decide +kernel) (pa_cons (pe_op op_add (pe_op op_add (pe_op op_mul (pe_op op_mod (pe_callTy call_int1 (by rfl) B.b_int (by decide +kernel) (pa_cons (pv 4) pa_nil)) (pv 6)) pe_int) (pe_op op_mul (pv 3) (pe_op op_add (pe_op op_mul pe_int (pv 3)) pe_int))) pe_int) pa_nil)) (pv 6)))
  (pss_cons (ps_set (i := 7) sc_L_draw.nd rfl (.inl rfl) (pe_op op_mod (pe_callTy call_int1 (by rfl) B.b_int (by decide +kernel) (pa_cons (pe_op op_mul (pv 7) (pe_op op_add (pv 7) pe_int)) pa_nil)) (pe_ix (ixK_list (K := K) rfl) (pv 5) (pe_op op_mod (pe_callTy call_int1 (by rfl) B.b_int (by decide +kernel) (pa_cons (pe_op op_add (pv 3) pe_int) pa_nil)) pe_int) (fun _ _ => rfl))))
  (pss_one (ps_ret (pe_op op_mod (pe_callTy call_int1 (by rfl) B.b_int (by decide +kernel) (pa_cons (pe_op op_fdiv (pe_op op_mod (pe_callTy call_int1 (by rfl) B.b_int (by decide +kernel) (pa_cons (pe_op op_add (pe_op op_add (pe_op op_mul (pv 7) (pv 7)) (pe_op op_mul pe_int (pv 7))) (pv 3)) pa_nil)) pe_int) pe_int) pa_nil)) (pv 1)))))))))))))), ?_⟩
  -- if pen['left'] > 0
  refine ⟨_, rfl, p, _, rfl, pen_left e, l, 0, rfl, rfl, _, rfl, ite2 (fun c1 => ?_) (fun c1 => ?_)⟩
  · -- the next digit of a large cell
    refine ⟨_, rfl, p, _, rfl, pen_left e, .inl ⟨_, rfl, _, rfl, _, _, rfl, rfl, m0, ?_⟩⟩
    refine ⟨_, rfl, p, _, rfl, pen_left e, _, rfl, _, _, rfl, rfl, ⟨m0, m1⟩, _, rfl, p, _, rfl, put_left e _, _, rfl, ?_⟩
    refine q _ _ (Int.emod_nonneg _ (by omega)) (Int.emod_lt_of_pos _ m0) Keep.put ?_
    exact ⟨t, _, xs, upd_same, by rw [upd_ne (pen_ne e ec)]; exact ec, lx, t0, by omega, Int.ediv_nonneg l0 (by omega)⟩
  · -- turn = pen['turn']; pen['turn'] = turn + 1; cell = 43 * turn + 19
    refine ⟨_, rfl, p, _, rfl, pen_turn e, ?_⟩
    refine ⟨_, rfl, _, _, rfl, rfl, _, rfl, p, _, rfl, put_turn e _, ?_⟩
    refine ⟨_, rfl, _, _, rfl, rfl, .inl ⟨by decide, by decide⟩, _, _, rfl, rfl, ?_⟩
    have e1 : upd H p (penD c (t + 1) l) p = some (penD c (t + 1) l) := upd_same
    have ec1 : upd H p (penD c (t + 1) l) c = some (.lst (xs.map V.int)) := by rw [upd_ne (pen_ne e ec)]; exact ec
    have k1 : Keep p H (upd H p (penD c (t + 1) l)) := Keep.put
    revert e1 ec1 k1
    generalize upd H p (penD c (t + 1) l) = H1
    intro e1 ec1 k1
    -- if pen['cells'] != []: a cell is there
    refine ⟨fun σ' H' => ∃ y : Int, σ' = [some (.ref p), some (.int m), none, some (.int t), some (.int y), none, none, none] ∧
      H' p = some (penD c (t + 1) l) ∧ H' c = some (.lst (xs.map V.int)) ∧ Keep p H H', ?_, ?_⟩
    · refine ⟨_, rfl, p, _, rfl, pen_cells e1, Nat.zero_le _, fun z nz => ?_⟩
      have e2 : upd H1 z (.lst []) p = some (penD c (t + 1) l) := by rw [upd_ne (ne_of_none e1 nz)]; exact e1
      have ec2 : upd H1 z (.lst []) c = some (.lst (xs.map V.int)) := by rw [upd_ne (ne_of_none ec1 nz)]; exact ec1
      have k2 : Keep p H (upd H1 z (.lst [])) := k1.trans (Keep.new nz)
      have ez : upd H1 z (.lst []) z = some (.lst []) := upd_same
      refine ⟨.list (xs.map .int), .list [], .lst (SqL.of ec2) (dp_ints xs), .lst (SqL.of ez) .nil, shaped_ints xs, by decide, _, rfl, ?_⟩
      refine ite2 (fun c2 => ?_) (fun c2 => ⟨_, rfl, e2, ec2, k2⟩)
      have hx : xs ≠ [] := fun z => by subst z; exact absurd c2 (by decide)
      have lp : 0 < xs.length := List.length_pos_iff.mpr hx
      obtain ⟨y, hy⟩ := ints_at (ns := xs) (i := t) (by omega)
      exact ⟨_, rfl, p, _, rfl, pen_cells e2, _, rfl, .inl ⟨_, rfl, _, rfl, p, _, rfl, pen_cells e2, _, _, rfl, .inl ⟨_, SqL.of ec2, rfl⟩, _, _, rfl, rfl,
        by rw [List.length_map]; omega, c, _, _, _, rfl, rfl, SqL.of ec2, hy, ⟨y, rfl, e2, ec2, k2⟩⟩⟩
    · rintro σ' H' ⟨y, rfl, e3, ec3, k3⟩
      -- if turn < len(pen['cells']) and abs(cell) >= 10 ** 18
      refine ⟨fun σ' H' => σ' = [some (.ref p), some (.int m), none, some (.int t), some (.int y), none, none, none] ∧
        H' p = some (penD c (t + 1) l) ∧ H' c = some (.lst (xs.map V.int)) ∧ Keep p H H', ?_, ?_⟩
      · refine ⟨_, rfl, _, rfl, p, _, rfl, pen_cells e3, _, _, rfl, .inl ⟨_, SqL.of ec3, rfl⟩, _, _, rfl, rfl, _, rfl, ?_⟩
        refine ite2 (fun _ => ?_) (fun _ => iteF ⟨rfl, e3, ec3, k3⟩)
        refine ⟨_, rfl, _, rfl, _, _, rfl, rfl, ⟨by decide, by decide, by decide⟩, _, _, rfl, rfl, _, rfl, ?_⟩
        refine ite2 (fun c3 => ?_) (fun _ => ⟨rfl, e3, ec3, k3⟩)
        refine ⟨_, rfl, _, rfl, _, _, rfl, rfl, ⟨by decide, by decide, by decide⟩, _, _, rfl, rfl, _, rfl, _, _, rfl, rfl, ⟨m0, m1⟩, _, rfl, p, _, rfl, put_left e3 _, ?_⟩
        refine ⟨_, rfl, _, rfl, _, _, rfl, rfl, ⟨by decide, by decide, by decide⟩, _, _, rfl, rfl, _, rfl, _, _, rfl, rfl, m0, ?_⟩
        have c4 := of_decide_eq_true c3
        refine q _ _ (Int.emod_nonneg _ (by omega)) (Int.emod_lt_of_pos _ m0) (k3.trans Keep.put) ?_
        exact ⟨t + 1, _, xs, upd_same, by rw [upd_ne (pen_ne e3 ec3)]; exact ec3, lx, by omega, by omega, Int.ediv_nonneg (by omega) (by omega)⟩
      · rintro σ' H4 ⟨rfl, e4, ec4, k4⟩
        -- primes
        refine ⟨by show 5 ≤ sizeLine; decide, fun z nz => ?_⟩
        have e5 : upd H4 z (.lst (primesL.map V.int)) p = some (penD c (t + 1) l) := by rw [upd_ne (ne_of_none e4 nz)]; exact e4
        have ec5 : upd H4 z (.lst (primesL.map V.int)) c = some (.lst (xs.map V.int)) := by rw [upd_ne (ne_of_none ec4 nz)]; exact ec4
        have k5 : Keep p H (upd H4 z (.lst (primesL.map V.int))) := k4.trans (Keep.new nz)
        have ez : upd H4 z (.lst (primesL.map V.int)) z = some (.lst (primesL.map V.int)) := upd_same
        show tSeq _ _ _ _ (upd H4 z (.lst (primesL.map V.int)))
        revert e5 ec5 k5 ez
        generalize upd H4 z (.lst (primesL.map V.int)) = H5
        intro e5 ec5 k5 ez
        obtain ⟨r1, hr1, r10, r11⟩ := prime_at t
        obtain ⟨r2, hr2, r20, r21⟩ := prime_at (t + 2)
        have p5 : (0 : Int) < 5 := by decide
        refine ⟨_, rfl, _, rfl, .inl ⟨_, rfl, _, _, rfl, rfl, p5, z, _, _, _, rfl, rfl, SqL.of ez, hr1, ?_⟩⟩
        -- drawn = ..
        refine ⟨_, rfl, .inl ⟨_, rfl, _, rfl, _, _, rfl, rfl, r10, _, _, rfl, rfl, .inr ⟨by decide, by decide⟩, _, rfl, _, rfl, _, _, rfl, rfl, .inl ⟨by decide, by decide⟩, _, _, rfl, rfl, _, _, rfl, rfl, .inl ⟨by omega, by omega⟩,
          _, _, rfl, rfl, _, _, rfl, rfl, .inl ⟨_, rfl, _, rfl, _, _, rfl, rfl, r10, ?_⟩⟩⟩
        have b1 : 0 ≤ (y % r1 * 39373 + t * (30011 * t + 8117) + 23) % r1 ∧ (y % r1 * 39373 + t * (30011 * t + 8117) + 23) % r1 < r1 :=
          ⟨Int.emod_nonneg _ (by omega), Int.emod_lt_of_pos _ r10⟩
        show gName 7 (V.int ((y % r1 * 39373 + t * (30011 * t + 8117) + 23) % r1)) _ _ _
        revert b1
        generalize (y % r1 * 39373 + t * (30011 * t + 8117) + 23) % r1 = d1
        rintro ⟨d10, d11⟩
        refine ⟨_, rfl, _, rfl, _, _, rfl, rfl, _, _, rfl, rfl, .inl ⟨by omega, by omega⟩, .inl ⟨_, rfl, _, rfl, _, rfl, _, _, rfl, rfl, .inl ⟨_, rfl, _, _, rfl, rfl, p5, z, _, _, _, rfl, rfl, SqL.of ez, hr2,
          _, _, rfl, rfl, r20, ?_⟩⟩⟩
        have b2 : 0 ≤ (d1 * (d1 + 69621)) % r2 ∧ (d1 * (d1 + 69621)) % r2 < r2 :=
          ⟨Int.emod_nonneg _ (by omega), Int.emod_lt_of_pos _ r20⟩
        show gName 7 (V.int ((d1 * (d1 + 69621)) % r2)) _ _ _
        revert b2
        generalize (d1 * (d1 + 69621)) % r2 = d2
        rintro ⟨d20, d21⟩
        have p6 : (0 : Int) < 2147483549 := by decide
        have p7 : CDiv ((d2 * d2 + 16807 * d2 + t) % 2147483549) 64 := ⟨by decide, by decide⟩
        refine ⟨_, rfl, _, rfl, _, _, rfl, rfl, .inl ⟨by omega, by omega⟩, _, rfl, _, _, rfl, rfl, .inl ⟨by decide, by decide⟩, _, _, rfl, rfl, _, rfl, _, _, rfl, rfl, .inl ⟨_, rfl, _, _, rfl, rfl, p6, _, _, rfl, rfl, p7,
          .inl ⟨_, rfl, _, rfl, _, _, rfl, rfl, m0, ?_⟩⟩⟩
        refine q _ _ (Int.emod_nonneg _ (by omega)) (Int.emod_lt_of_pos _ m0) k5 ?_
        exact ⟨t + 1, l, xs, e5, ec5, lx, by omega, by omega, l0⟩
end
end Law
namespace Law
open PySem PySem.Spec PyProof.Rows L2 AB
open TL (tl)
section
variable {P : Program} {w : World} {K : PySem.W.Frag} {mg : Str → Option Value} {base : Heap} {f : Addr} {fd : FuncData}

theorem ok_L_pen (X_L_pen : FX K mg "_law_pen" s_L_pen P_L_pen f fd) (B : Bt mg) :
    FnOk P w K mg base CX0 1 f fd P_L_pen (spPen K) := by
  refine X_L_pen.F.ok sc_L_pen (fun vs H Q E h => ?_) (fun cdv A outer s H vs Q E hr h => ?_)
  · obtain ⟨a, ns, rfl, _⟩ := h
    rfl
  obtain ⟨a, ns, rfl, hS, hl, q⟩ := h
  refine ⟨_, (pss_one (ps_ret (pe_disp (pps_cons pe_str (pe_callTy (listK_of (K := K) rfl) (by rfl) B.b_list (by decide +kernel) (pa_cons (pe_slice (slK_list (K := K) rfl) (pv 0) po_none (po_some pe_int)) pa_nil)) (pps_cons pe_str pe_int (pps_cons pe_str pe_int pps_nil))) (by rfl) (by rfl) (fun z => by cases z) (by decide)))), ?_⟩
  intro p np
  have s1 : Same H (upd H p (.dK [])) := same_new np
  refine ⟨.ref a, rfl, 63, rfl, a, _, rfl, s1.seq hS, fun c nc => ?_⟩
  refine ⟨c, _, rfl, .inl (SqL.of upd_same), fun d nd => ?_⟩
  have nc' : c ≠ p := fun z => by subst z; rw [upd_same] at nc; cases nc
  have e1 : upd (upd H p (.dK [])) c (.lst (cutV (ns.map V.int) none (some 63))) p = some (.dK []) := by rw [upd_ne nc'.symm, upd_same]
  have np' : d ≠ p := (ne_of_none e1 nd).symm
  have e2 : cutV (ns.map V.int) none (some 63) = ns.map V.int := cutV_whole (n := 63) (by rw [List.length_map]; exact hl)
  refine ⟨?_, penL d, rfl, show 3 ≤ 15 by decide, ?_⟩
  · rw [upd_ne np'.symm]
    exact e1
  rw [pen_merge]
  refine q _ p d ?_ np ?_
  · intro b o e
    have nb : b ≠ p := ne_of_none e np
    have h1 := s1 _ _ e
    have h2 := same_new (o := .lst (cutV (ns.map V.int) none (some 63))) nc _ _ h1
    rw [upd_ne nb]
    exact same_new nd _ _ h2
  · refine ⟨0, 0, ns, upd_same, ?_, hl, Int.le_refl _, Int.le_refl _, Int.le_refl _⟩
    rw [upd_ne np', upd_same, e2]

theorem ok_L_pick {f1 : Addr} {fd1 : FuncData} (X_L_pick : FX K mg "_law_pick" s_L_pick P_L_pick f fd)
    (X_L_draw : FX K mg "_law_draw" s_L_draw P_L_draw f1 fd1) (B : Bt mg) :
    FnOk P w K mg base CX0 2 f fd P_L_pick (spPick K) := by
  have G_L_draw : FnOk P w K mg base CX0 1 f1 fd1 P_L_draw spDraw := ok_L_draw X_L_draw B
  refine X_L_pick.F.ok sc_L_pick (fun vs H Q E h => ?_) (fun cdv A outer s H vs Q E hr h => ?_)
  · obtain ⟨p, c, n, o, rfl, _⟩ := h
    rfl
  obtain ⟨p, c, n, o, rfl, hp, hn, h⟩ := h
  refine ⟨_, (pss_one (ps_ret (pe_ix (ixK_seq (K := K) rfl) (pv 1) (pe_call G_L_draw (hr.mono (by decide)) (by rfl) X_L_draw.g X_L_draw.F.kp X_L_draw.b .nil pass0 (pa_cons (pv 0) (pa_cons (pe_callB (lenK (K := K) rfl) (by rfl) B.b_len (by decide +kernel) (pa_cons (pv 1) pa_nil)) pa_nil))) (fun _ _ => rfl)))), ?_⟩
  rcases h with ⟨z, rfl, z0, z1, q⟩ | ⟨a, xs, rfl, hS, x0, x1, q⟩
  · refine ⟨_, rfl, _, rfl, _, rfl, _, z.length, rfl, ⟨Nat.le_trans z1 (by decide), rfl⟩, p, c, n, z.length, rfl, hp, hn, by omega, by omega, fun H' i i0 i1 k hp' => ?_⟩
    obtain ⟨j, rfl⟩ : ∃ j : Nat, i = (j : Int) := ⟨i.toNat, by omega⟩
    have lj : j < z.cps.toList.length := by rw [len_toList]; omega
    have ej := List.getElem?_eq_getElem lj
    exact .inr (.inr ⟨z, j, _, rfl, rfl, Nat.le_trans z1 (by decide), atI_nat ej, q H' j _ ej k hp'⟩)
  · have lp := List.length_pos_iff.mpr x0
    refine ⟨_, rfl, _, rfl, _, rfl, _, xs.length, rfl, .inl ⟨xs, hS, rfl⟩, p, c, n, xs.length, rfl, hp, hn, by omega, by omega, fun H' i i0 i1 k hp' => ?_⟩
    obtain ⟨j, rfl⟩ : ∃ j : Nat, i = (j : Int) := ⟨i.toNat, by omega⟩
    have lj : j < xs.length := by omega
    have ej := List.getElem?_eq_getElem lj
    exact .inl ⟨a, xs, j, _, rfl, rfl, hp.sqL k hS, atI_nat ej, q H' j _ ej k hp'⟩

theorem td_L_signs (X_L_signs : FX K mg "_law_signs" s_L_signs P_L_signs f fd) : TextDef P w K mg base f lettersS :=
  textDef X_L_signs.F sc_L_signs rfl X_L_signs.b

theorem ok_L_word {f1 f2 : Addr} {fd1 fd2 : FuncData} (X_L_word : FX K mg "_law_word" s_L_word P_L_word f fd)
    (X_L_draw : FX K mg "_law_draw" s_L_draw P_L_draw f1 fd1) (X_L_pick : FX K mg "_law_pick" s_L_pick P_L_pick f2 fd2) (B : Bt mg) :
    FnOk P w K mg base CX0 3 f fd P_L_word spWord := by
  have G_L_draw : FnOk P w K mg base CX0 1 f1 fd1 P_L_draw spDraw := ok_L_draw X_L_draw B
  have G_L_pick : FnOk P w K mg base CX0 2 f2 fd2 P_L_pick (spPick K) := ok_L_pick X_L_pick X_L_draw B
  refine X_L_word.F.ok sc_L_word (fun vs H Q E h => ?_) (fun cdv A outer s H vs Q E hr h => ?_)
  · obtain ⟨p, c, n, z, a, b, rfl, _⟩ := h
    rfl
  obtain ⟨p, c, n, z, a, b, rfl, hp, z0, z1, ab, b1, nb, q⟩ := h
  refine ⟨_, (pss_cons (ps_set (i := 4) sc_L_word.nd rfl (.inl rfl) (pe_op op_add (pv 2) (pe_call G_L_draw (hr.mono (by decide)) (by rfl) X_L_draw.g X_L_draw.F.kp X_L_draw.b .nil pass0 (pa_cons (pv 0) (pa_cons (pe_op op_add (pe_op op_sub (pv 3) (pv 2)) pe_int) pa_nil)))))
  (pss_one (ps_ret (pe_join pe_str (pe_lc (own := [("_law_k", 5)]) (g := gName 5) (tt := tYes) (by rfl) sc_L_word.nd (pi_range1 (by rfl) B.b_range (pa_cons (pv 4) pa_nil)) (blkOk_by (own := [("_law_k", 5)]) (N := N_L_word) (sc := defScope s_L_word) (by decide +kernel)) (fun _ _ _ _ _ => (pg_name (i := 5) sc_L_word.nd rfl (.inl rfl))) (fun _ _ _ _ _ => pts_nil) (fun _ _ _ _ _ => (pe_call G_L_pick (hr.mono (by decide)) (by rfl) X_L_pick.g X_L_pick.F.kp X_L_pick.b .nil pass0 (pa_cons (pv 0) (pa_cons (pv 1) pa_nil))))))))), ?_⟩
  -- many = least + draw(pen, most - least + 1)
  refine ⟨_, rfl, _, rfl, _, rfl, _, rfl, _, _, rfl, rfl, _, _, rfl, rfl, p, c, n, _, rfl, hp, by omega, by omega, by omega, fun H1 i i0 i1 k1 hp1 => ?_⟩
  obtain ⟨j, rfl⟩ : ∃ j : Nat, i = (j : Int) := ⟨i.toNat, by omega⟩
  refine ⟨_, _, rfl, rfl, ⟨_, rfl⟩, _, rfl, (a : Int) + j, rfl, by omega, by omega, fun D nD => ?_⟩
  have hj : ((a : Int) + j).toNat = a + j := by omega
  have Dp := hp1.nep nD
  have Dc := hp1.nec nD
  have nD0 := k1.free Dp nD
  rw [hj]
  refine lc_range (lo := 0) (n := a + j) (fun i H2 => ∃ ys : List Str, H2 D = some (.lst (ys.map V.str)) ∧ ys.length = i ∧
      (∀ y ∈ ys, ∃ d ∈ tl z, y = ⟨#[d]⟩) ∧ Keep p H H2 ∧ Pen H2 p c (n + 1 + i)) ?_ ?_ ?_
  · exact ⟨[], upd_same, rfl, fun _ h => (nomatch h), k1.wr nD0, hp1.new nD⟩
  · rintro i H2 hi ⟨ys, eD, li, hy, k2, hp2⟩
    refine ⟨rfl, _, rfl, _, rfl, p, c, n + 1 + i, .str z, rfl, hp2, by omega, .inl ⟨z, rfl, z0, by omega, fun H3 m d hc k3 hp3 => ?_⟩⟩
    have eD3 := k3 _ _ (hp2.ne_lst eD) eD
    refine ⟨_, eD3, ?_, ys ++ [⟨#[d]⟩], ?_, ?_, ?_, (k2.trans k3).wr nD0, hp3.wr Dp Dc⟩
    · rw [List.length_map, li]
      exact Nat.lt_of_le_of_lt (show i ≤ 2000 by omega) (by decide)
    · rw [upd_same, List.map_append]
      rfl
    · rw [List.length_append, li]
      rfl
    · intro y hm
      rcases List.mem_append.mp hm with h | h
      · exact hy y h
      · exact ⟨d, List.mem_of_getElem? hc, List.mem_singleton.mp h⟩
  · rintro H2 ⟨ys, eD, li, hy, k2, hp2⟩
    have hs := ones_sum hy
    refine ⟨"", D, ys, rfl, rfl, .inl (SqL.of eD), ?_, q _ _ k2 (hp2.mono (by omega)) ?_ ?_ ?_⟩
    · rw [hs.1]
      show ys.length + ys.length * 0 ≤ 16777216
      omega
    · rw [hs.2.1]; omega
    · rw [hs.2.1]; omega
    · exact hs.2.2
end
end Law
namespace Law
open PySem PySem.Spec PyProof.Rows L2 AB
open TL (tl)
section
variable {P : Program} {w : World} {K : PySem.W.Frag} {mg : Str → Option Value} {base : Heap} {f : Addr} {fd : FuncData}
theorem ok_L_few {f1 f2 f3 : Addr} {fd1 fd2 fd3 : FuncData} (X_L_few : FX K mg "_law_few" s_L_few P_L_few f fd)
    (X_L_draw : FX K mg "_law_draw" s_L_draw P_L_draw f1 fd1) (X_L_pick : FX K mg "_law_pick" s_L_pick P_L_pick f2 fd2)
    (X_L_signs : FX K mg "_law_signs" s_L_signs P_L_signs f3 fd3) (B : Bt mg) :
    FnOk P w K mg base CX0 3 f fd P_L_few spFew := by
  have G_L_pick : FnOk P w K mg base CX0 2 f2 fd2 P_L_pick (spPick K) := ok_L_pick X_L_pick X_L_draw B
  have T_L_signs : TextDef P w K mg base f3 lettersS := td_L_signs X_L_signs
  refine X_L_few.F.ok sc_L_few (fun vs H Q E h => ?_) (fun cdv A outer s H vs Q E hr h => ?_)
  · obtain ⟨p, c, n, rfl, _⟩ := h
    rfl
  obtain ⟨p, c, n, rfl, hp, nb, q⟩ := h
  refine ⟨_, (pss_cons (ps_set (i := 1) sc_L_few.nd rfl (.inr rfl) (pe_lst (pa_cons (pe_call G_L_pick (hr.mono (by decide)) (by rfl) X_L_pick.g X_L_pick.F.kp X_L_pick.b .nil pass0 (pa_cons (pv 0) (pa_cons (pe_signsRep T_L_signs (hr.mono (by decide)) (by rfl) X_L_signs.g X_L_signs.F.kp (by decide +kernel) (by decide +kernel)) pa_nil))) (pa_cons (pe_call G_L_pick (hr.mono (by decide)) (by rfl) X_L_pick.g X_L_pick.F.kp X_L_pick.b .nil pass0 (pa_cons (pv 0) (pa_cons pe_str pa_nil))) (pa_cons (pe_call G_L_pick (hr.mono (by decide)) (by rfl) X_L_pick.g X_L_pick.F.kp X_L_pick.b .nil pass0 (pa_cons (pv 0) (pa_cons pe_str pa_nil))) pa_nil)))))
  (pss_cons (ps_set (i := 2) sc_L_few.nd rfl (.inl rfl) (pe_join pe_str (pe_lc (own := [("_law_k", 3)]) (g := gName 3)  (by rfl) sc_L_few.nd (pi_range1 (by rfl) B.b_range (pa_cons pe_int pa_nil)) (blkOk_by (own := [("_law_k", 3)]) (N := N_L_few) (sc := defScope s_L_few) (by decide +kernel)) (fun _ _ _ _ _ => (pg_name (i := 3) sc_L_few.nd rfl (.inl rfl))) (fun _ _ _ _ _ => (pts_one (pt_cmpR (notInK_seq (K := K) rfl) (pe_ix (ixK_list (K := K) rfl) (pv 1) (pv 3) (fun _ _ => rfl)) (pe_slice (slK_list (K := K) rfl) (pv 1) po_none (po_some (pv 3))) (by rfl)))) (fun _ _ _ _ _ => (pe_ix (ixK_list (K := K) rfl) (pv 1) (pv 3) (fun _ _ => rfl))))))
  (pss_one (ps_ret (pe_call G_L_pick (hr.mono (by decide)) (by rfl) X_L_pick.g X_L_pick.F.kp X_L_pick.b .nil pass0 (pa_cons (pv 0) (pa_cons (pe_lst (pa_cons pe_str (pa_cons pe_str (pa_cons pe_str (pa_cons pe_str (pa_cons pe_str (pa_cons pe_str (pa_cons pe_str (pa_cons pe_str (pa_cons pe_str (pa_cons (pv 2) pa_nil))))))))))) pa_nil))))))), ?_⟩
  obtain ⟨s0, s1, s2⟩ := signs94
  -- some = [..]
  refine ⟨_, rfl, p, c, n, _, rfl, hp, by omega, .inl ⟨_, rfl, s0, by omega, fun H1 i1 d1 hd1 k1 hp1 => ?_⟩⟩
  refine ⟨_, rfl, p, c, n + 1, _, rfl, hp1, by omega, .inl ⟨_, rfl, by decide +kernel, by decide +kernel, fun H2 i2 d2 hd2 k2 hp2 => ?_⟩⟩
  refine ⟨_, rfl, p, c, n + 1 + 1, _, rfl, hp2, by omega, .inl ⟨_, rfl, by decide +kernel, by decide +kernel, fun H3 i3 d3 hd3 k3 hp3 => ?_⟩⟩
  refine ⟨by show 3 ≤ sizeLine; decide, fun a na => ?_⟩
  have l1 : d1 ∈ tl lettersS := Lt.dec s2 _ (List.mem_of_getElem? hd1)
  have l2 : d2 ∈ tl lettersS := Lt.dec (z := "yz") (by decide +kernel) _ (List.mem_of_getElem? hd2)
  have l3 : d3 ∈ tl lettersS := Lt.dec (z := "(\n") (by decide +kernel) _ (List.mem_of_getElem? hd3)
  have kA : Keep p H (upd H3 a (.lst ([⟨#[d1]⟩, ⟨#[d2]⟩, ⟨#[d3]⟩].map V.str))) := ((k1.trans k2).trans k3).trans (Keep.new na)
  have eA : upd H3 a (.lst ([⟨#[d1]⟩, ⟨#[d2]⟩, ⟨#[d3]⟩].map V.str)) a = some (.lst ([⟨#[d1]⟩, ⟨#[d2]⟩, ⟨#[d3]⟩].map V.str)) := upd_same
  have hpA : Pen (upd H3 a (.lst ([⟨#[d1]⟩, ⟨#[d2]⟩, ⟨#[d3]⟩].map V.str))) p c (n + 1 + 1 + 1) := hp3.new na
  show tSeq _ _ _ _ (upd H3 a (.lst ([⟨#[d1]⟩, ⟨#[d2]⟩, ⟨#[d3]⟩].map V.str)))
  revert kA eA hpA
  generalize upd H3 a (.lst ([⟨#[d1]⟩, ⟨#[d2]⟩, ⟨#[d3]⟩].map V.str)) = H4
  intro kA eA hpA
  -- rare
  refine ⟨⟨_, rfl⟩, 3, rfl, by decide, by decide, fun D nD => ?_⟩
  refine lc_range (lo := 0) (n := 3) (fun i H5 => ∃ ys : List Str, H5 D = some (.lst (ys.map V.str)) ∧ ys.length ≤ i ∧ (0 < i → ys ≠ []) ∧
      (∀ y ∈ ys, ∃ d ∈ tl (sl [d1, d2, d3]), y = ⟨#[d]⟩) ∧ Same H4 H5) ?_ ?_ ?_
  · exact ⟨[], upd_same, Nat.le_refl _, fun h => absurd h (by decide), fun _ h => (nomatch h), same_new nD⟩
  · rintro i H5 hi ⟨ys, eD, li, ny, hy, s5⟩
    have ea5 := s5 _ _ eA
    have hd : ∃ d ∈ tl (sl [d1, d2, d3]), ([⟨#[d1]⟩, ⟨#[d2]⟩, ⟨#[d3]⟩].map V.str)[i]? = some (.str ⟨#[d]⟩) := by
      match i, hi with
      | 0, _ => exact ⟨d1, by simp [tl], rfl⟩
      | 1, _ => exact ⟨d2, by simp [tl], rfl⟩
      | 2, _ => exact ⟨d3, by simp [tl], rfl⟩
    obtain ⟨d, hdm, hd⟩ := hd
    have e0 : (0 : Int) + (i : Int) = (i : Int) := Int.zero_add _
    have hat : atI ([⟨#[d1]⟩, ⟨#[d2]⟩, ⟨#[d3]⟩].map V.str) ((0 : Int) + (i : Int)) = some (.str ⟨#[d]⟩) := by rw [e0]; exact atI_nat hd
    refine ⟨rfl, _, rfl, _, rfl, a, _, _, _, rfl, rfl, SqL.of ea5, hat, _, rfl, _, rfl, _, rfl, a, _, rfl, SqL.of ea5, fun s ns => ?_⟩
    refine ⟨s, _, rfl, .inl (SqL.of upd_same), rfl, ?_, _, rfl, ite2 (fun c1 => ?_) (fun c1 => ?_)⟩
    · rw [e0, cutV_to (by show i ≤ 3; omega), ← List.map_take]
      exact flat_strs _
    · have eD6 : upd H5 s (.lst (cutV ([⟨#[d1]⟩, ⟨#[d2]⟩, ⟨#[d3]⟩].map V.str) none (some (0 + (i : Int))))) D = some (.lst (ys.map V.str)) := by rw [upd_ne (ne_of_none eD ns)]; exact eD
      have ea6 : upd H5 s (.lst (cutV ([⟨#[d1]⟩, ⟨#[d2]⟩, ⟨#[d3]⟩].map V.str) none (some (0 + (i : Int))))) a = some (.lst ([⟨#[d1]⟩, ⟨#[d2]⟩, ⟨#[d3]⟩].map V.str)) := by rw [upd_ne (ne_of_none ea5 ns)]; exact ea5
      refine ⟨_, rfl, _, rfl, a, _, _, _, rfl, rfl, SqL.of ea6, hat, _, eD6, ?_, ys ++ [⟨#[d]⟩], ?_, ?_, ?_, ?_, ?_⟩
      · rw [List.length_map]
        exact Nat.lt_of_le_of_lt (show ys.length ≤ 3 by omega) (by decide)
      · rw [upd_same, List.map_append]
        rfl
      · rw [List.length_append]
        show ys.length + 1 ≤ i + 1
        omega
      · intro _ h
        simp at h
      · intro y hm
        rcases List.mem_append.mp hm with h | h
        · exact hy y h
        · exact ⟨d, hdm, List.mem_singleton.mp h⟩
      · exact AB.Same.wr (s5.trans (same_new ns)) nD
    · refine ⟨ys, by rw [upd_ne (ne_of_none eD ns)]; exact eD, by omega, fun _ => ?_, hy, s5.trans (same_new ns)⟩
      by_cases h0 : 0 < i
      · exact ny h0
      · exfalso
        apply c1
        have : i = 0 := by omega
        subst this
        rfl
  · rintro H5 ⟨ys, eD, li, ny, hy, s5⟩
    have hs := ones_sum hy
    have lys := List.length_pos_iff.mpr (ny (by decide))
    refine ⟨"", D, ys, rfl, rfl, .inl (SqL.of eD), ?_, ?_⟩
    · rw [hs.1]
      show ys.length + ys.length * 0 ≤ 16777216
      omega
    have lr : Lt (Txt.join "" ys) := fun x hx => by
      have := hs.2.2 x hx
      have h3 : x = d1 ∨ x = d2 ∨ x = d3 := by simpa [tl] using this
      rcases h3 with rfl | rfl | rfl
      · exact l1
      · exact l2
      · exact l3
    have l0 := hs.2.1
    revert lr l0
    generalize Txt.join "" ys = r
    intro lr l0
    refine ⟨_, rfl, _, rfl, by show 10 ≤ sizeLine; decide, fun l nl => ?_⟩
    refine ⟨p, c, n + 1 + 1 + 1, _, rfl, (hpA.same s5).new nl, by omega, .inr ⟨l, (fewL r).map V.str, rfl, SqL.of upd_same, by unfold fewL; simp, by show 10 ≤ 100000; decide, fun H' i v hv k hp' => ?_⟩⟩
    obtain ⟨y, hy, rfl⟩ := at_map_str hv
    obtain ⟨y1, y2, y3⟩ := fewL_ok (by omega) (by omega) lr y hy
    exact q H' y (((kA.trans (AB.Same.keep s5)).trans (Keep.new nl)).trans k) hp' y1 y2 y3
end
end Law
namespace Law
open PySem PySem.Spec PyProof.Rows L2 AB
open TL (tl)
section
variable {P : Program} {w : World} {K : PySem.W.Frag} {mg : Str → Option Value} {base : Heap} {f : Addr} {fd : FuncData}
theorem ok_places (X_places : FX K mg "places" s_places P_places f fd) (B : Bt mg) :
    FnOk P w K mg base CX0 1 f fd P_places spPlaces := by
  refine X_places.F.ok sc_places (fun vs H Q E h => ?_) (fun cdv A outer s H vs Q E hr h => ?_)
  · obtain ⟨t, u, rfl, _⟩ := h
    rfl
  obtain ⟨t, u, rfl, lt, u0, u1, q⟩ := h
  have hu := tl_ne u0
  have ht := TL.len_tl t
  refine ⟨_, (pss_cons (ps_par (i := 2) (j := 3) (by rfl) sc_places.nd rfl rfl (by decide) rfl rfl (pa_cons (pe_lst pa_nil) (pa_cons (pe_bm PySem.F.plainAttrs_str PySem.F.slot_str_find PySem.F.type_str_find mt_find (pv 0) (pa_cons (pv 1) pa_nil)) pa_nil)) (by rfl))
  (pss_cons (ps_while PassesOwn.never (pt_cmpR op_ge (pv 3) pe_int (nomark _))
  (pss_cons (ps_expr (pe_bm PySem.F.plainAttrs_list PySem.F.slot_list_append PySem.F.type_list_append mt_append (pv 2) (pa_cons (pv 3) pa_nil)))
  (pss_one (ps_set (i := 3) sc_places.nd rfl (.inl rfl) (pe_bm PySem.F.plainAttrs_str PySem.F.slot_str_find PySem.F.type_str_find mt_find3 (pv 0) (pa_cons (pv 1) (pa_cons (pe_op op_add (pv 3) pe_int) pa_nil)))))))
  (pss_one (ps_ret (pv 2))))), ?_⟩
  refine ⟨Nat.zero_le _, fun o no => ⟨_, rfl, rfl, _, rfl, _, _, rfl, rfl, _, _, rfl, ?_⟩⟩
  have s0 : Same H (upd H o (.lst [])) := same_new no
  refine ⟨fun m σ' H' => ∃ place : Int, σ' = [some (.str t), some (.str u), some (.ref o), some (.int place)] ∧ Same H H' ∧
      ((place = -1 ∧ H' o = some (.lst (nVs (plc (tl t) (tl u))))) ∨
        ∃ k : Nat, place = k ∧ isAt (tl t) (tl u) k = true ∧ H' o = some (.lst (nVs (plcN (tl t) (tl u) k))) ∧ m = t.length + 1 - k), ?_, ?_⟩
  · rcases find_from (x := t) hu 0 with ⟨a, b⟩ | ⟨k, r, a, b, c, d⟩
    · refine ⟨0, -1, ?_, s0, .inl ⟨rfl, ?_⟩⟩
      · show [_, _, _, some (V.int (Txt.find t u))] = _
        unfold Txt.find
        rw [a]
      · rw [upd_same]
        unfold plc
        rw [plcN_skip' (a := 0) (Nat.zero_le _) fun j h1 _ => b j h1]
        rfl
    · refine ⟨t.length + 1 - k, (k : Int), ?_, s0, .inr ⟨k, rfl, c, ?_, rfl⟩⟩
      · show [_, _, _, some (V.int (Txt.find t u))] = _
        unfold Txt.find
        rw [a]
      · rw [upd_same, plcN_skip' (a := 0) (Nat.zero_le _) fun j h1 h2 => d j h1 h2]
        rfl
  · rintro m σ' H' ⟨place, rfl, s1, hW⟩
    refine ⟨_, rfl, _, _, rfl, rfl, _, rfl, ?_⟩
    rcases hW with ⟨rfl, eo⟩ | ⟨k, rfl, hk, eo, rfl⟩
    · exact ⟨_, rfl, q H' o s1 no eo⟩
    · have hkl := isAt_le hu hk
      have lk := plcN_len (tl t) (tl u) k
      rw [show decide ((0 : Int) ≤ (k : Int)) = true from decide_eq_true (by omega)]
      refine ⟨_, fun _ _ h => h, ?_⟩
      refine ⟨_, rfl, .inl ⟨rfl, _, SqL.of eo⟩, _, rfl, o, _, _, rfl, rfl, eo, ?_, ?_⟩
      · rw [nVs_len]
        exact Nat.lt_of_le_of_lt (show _ ≤ 100001 by omega) (by decide)
      refine ⟨_, rfl, rfl, _, rfl, _, rfl, _, _, rfl, rfl, _, _, _, rfl, rfl, ?_⟩
      have s2 : Same H (upd H' o (.lst (nVs (plcN (tl t) (tl u) k) ++ [V.int (k : Int)]))) := AB.Same.wr s1 no
      have e1 : nVs (plcN (tl t) (tl u) k) ++ [V.int (k : Int)] = nVs (plcN (tl t) (tl u) (k + 1)) := by
        rw [plcN_succ, if_pos hk, nVs_app]
      have e2 : ((k : Int) + 1) = ((k + 1 : Nat) : Int) := by omega
      rcases find_from (x := t) hu (k + 1) with ⟨a, b⟩ | ⟨j, r, a, b, c, d⟩
      · refine ⟨0, by omega, -1, ?_, s2, .inl ⟨rfl, ?_⟩⟩
        · show [_, _, _, some (V.int (Txt.find3 t u ((k : Int) + 1)))] = _
          rw [e2, find3_nat, a]
        · rw [upd_same, e1]
          unfold plc
          rw [plcN_skip' (a := k + 1) (b := (tl t).length + 1) (by omega) fun j h1 _ => b j h1]
      · have := isAt_le hu c
        refine ⟨t.length + 1 - j, by omega, (j : Int), ?_, s2, .inr ⟨j, rfl, c, ?_, rfl⟩⟩
        · show [_, _, _, some (V.int (Txt.find3 t u ((k : Int) + 1)))] = _
          rw [e2, find3_nat, a]
        · rw [upd_same, e1, plcN_skip' (a := k + 1) (b := j) (by omega) fun i h1 h2 => d i h1 h2]
end
end Law
namespace Law
open PySem PySem.Spec PyProof.Rows L2 AB
open TL (tl)
section
variable {P : Program} {w : World} {K : PySem.W.Frag} {mg : Str → Option Value} {base : Heap} {f : Addr} {fd : FuncData}
theorem ok_L_places (X_L_places : FX K mg "_law_places" s_L_places P_L_places f fd) (B : Bt mg) :
    FnOk P w K mg base CX0 1 f fd P_L_places spPlaces := by
  refine X_L_places.F.ok sc_L_places (fun vs H Q E h => ?_) (fun cdv A outer s H vs Q E hr h => ?_)
  · obtain ⟨t, u, rfl, _⟩ := h
    rfl
  obtain ⟨t, u, rfl, lt, u0, u1, q⟩ := h
  have hu := tl_ne u0
  have ht := TL.len_tl t
  have hul := TL.len_tl u
  have big : 100000 ≤ sizeLine := by decide
  refine ⟨_, (pss_cons (ps_set (i := 2) sc_L_places.nd rfl (.inr rfl) (pe_callB (lenK (K := K) rfl) (by rfl) B.b_len (by decide +kernel) (pa_cons (pv 1) pa_nil)))
  (pss_one (ps_ret (pe_lc (own := [("_law_k", 3)]) (g := gName 3)  (by rfl) sc_L_places.nd (pi_range1 (by rfl) B.b_range (pa_cons (pe_op op_add (pe_op op_sub (pe_callB (lenK (K := K) rfl) (by rfl) B.b_len (by decide +kernel) (pa_cons (pv 0) pa_nil)) (pv 2)) pe_int) pa_nil)) (blkOk_by (own := [("_law_k", 3)]) (N := N_L_places) (sc := defScope s_L_places) (by decide +kernel)) (fun _ _ _ _ _ => (pg_name (i := 3) sc_L_places.nd rfl (.inl rfl))) (fun _ _ _ _ _ => (pts_one (pt_cmpR op_eq (pe_slice sl_str (pv 0) (po_some (pv 3)) (po_some (pe_op op_add (pv 3) (pv 2)))) (pv 1) (nomark _)))) (fun _ _ _ _ _ => (pv 3)))))), ?_⟩
  refine ⟨_, rfl, _, _, rfl, ⟨Nat.le_trans u1 big, rfl⟩, ?_⟩
  refine ⟨_, rfl, _, _, rfl, ⟨Nat.le_trans lt big, rfl⟩, _, rfl, _, _, rfl, rfl, _, _, rfl, rfl, (t.length : Int) - u.length + 1, rfl, by omega, by omega, fun D nD => ?_⟩
  have hn : ((t.length : Int) - u.length + 1).toNat = t.length + 1 - u.length := by omega
  rw [hn]
  refine lc_range (lo := 0) (n := t.length + 1 - u.length) (fun i H2 => H2 D = some (.lst (nVs (plcN (tl t) (tl u) i))) ∧ Same H H2) ?_ ?_ ?_
  · exact ⟨upd_same, same_new nD⟩
  · rintro i H2 hi ⟨eD, s2⟩
    have lk := plcN_len (tl t) (tl u) i
    refine ⟨rfl, _, rfl, _, rfl, _, rfl, _, rfl, _, rfl, _, _, rfl, rfl, _, rfl, t, rfl, Nat.le_trans lt big, _, rfl, rfl, _, rfl, ?_⟩
    have e := cut_isAt (z := t) (y := u) i
    rw [Int.zero_add, e]
    refine ite2 (fun c1 => ?_) (fun c1 => ?_)
    · refine ⟨_, rfl, _, eD, ?_, ?_, AB.Same.wr s2 nD⟩
      · rw [nVs_len]
        exact Nat.lt_of_le_of_lt (show _ ≤ 100001 by omega) (by decide)
      · rw [upd_same, plcN_succ, if_pos c1, nVs_app]
    · refine ⟨?_, s2⟩
      rw [plcN_succ, if_neg c1, List.append_nil]
      exact eD
  · rintro H2 ⟨eD, s2⟩
    rw [plcN_end (by rw [← ht, ← hul]; exact Nat.le_refl _) hu] at eD
    exact q H2 D s2 nD eD
end
end Law
namespace Law
open PySem PySem.Spec PyProof.Rows L2 AB
open TL (tl)
section
variable {P : Program} {w : World} {K : PySem.W.Frag} {mg : Str → Option Value} {base : Heap} {f : Addr} {fd : FuncData}
theorem ok_law {f1 f2 f3 f4 f5 f6 f7 f8 : Addr} {d1 d2 d3 d4 d5 d6 d7 d8 : FuncData} (X_law : FX K mg "law" s_law P_law f fd)
    (X_L_pen : FX K mg "_law_pen" s_L_pen P_L_pen f1 d1) (X_L_draw : FX K mg "_law_draw" s_L_draw P_L_draw f2 d2)
    (X_L_pick : FX K mg "_law_pick" s_L_pick P_L_pick f3 d3) (X_L_signs : FX K mg "_law_signs" s_L_signs P_L_signs f4 d4)
    (X_L_few : FX K mg "_law_few" s_L_few P_L_few f5 d5) (X_L_word : FX K mg "_law_word" s_L_word P_L_word f6 d6)
    (X_places : FX K mg "places" s_places P_places f7 d7) (X_L_places : FX K mg "_law_places" s_L_places P_L_places f8 d8)
    (KB_places : KBinds K d7 P_places ["word", "text"] kb21 kb21) (B : Bt mg) :
    FnG P w K mg base CX0 4 f fd P_law (spLaw K) := by
  have G_L_pen : FnOk P w K mg base CX0 1 f1 d1 P_L_pen (spPen K) := ok_L_pen X_L_pen B
  have G_L_draw : FnOk P w K mg base CX0 1 f2 d2 P_L_draw spDraw := ok_L_draw X_L_draw B
  have G_L_pick : FnOk P w K mg base CX0 2 f3 d3 P_L_pick (spPick K) := ok_L_pick X_L_pick X_L_draw B
  have G_L_few : FnOk P w K mg base CX0 3 f5 d5 P_L_few spFew := ok_L_few X_L_few X_L_draw X_L_pick X_L_signs B
  have G_L_word : FnOk P w K mg base CX0 3 f6 d6 P_L_word spWord := ok_L_word X_L_word X_L_draw X_L_pick B
  have G_places : FnOk P w K mg base CX0 1 f7 d7 P_places spPlaces := ok_places X_places B
  have G_L_places : FnOk P w K mg base CX0 1 f8 d8 P_L_places spPlaces := ok_L_places X_L_places B
  refine gun_ok X_law.F sc_law (fun vs H Q E h => ?_) (fun cdv A outer s H vs Q E hr hg h => ?_)
  · obtain ⟨a, ns, rfl, _⟩ := h
    rfl
  obtain ⟨a, ns, rfl, hS, hl, q⟩ := h
  refine ⟨_, PSs.nox (pss_cons (ps_set (i := 1) sc_law.nd rfl (.inl rfl) (pe_call G_L_pen (hr.mono (by decide)) (by rfl) X_L_pen.g X_L_pen.F.kp X_L_pen.b .nil pass0 (pa_cons (pv 0) pa_nil)))
  (pss_cons (ps_for PassesOwn.never rfl (pi_range1 (by rfl) B.b_range (pa_cons (pe_op op_add pe_int (pe_callB (call_min2 rfl) (by rfl) B.b_min (by decide +kernel) (pa_cons pe_int (pa_cons (pe_callB (lenK (K := K) rfl) (by rfl) B.b_len (by decide +kernel) (pa_cons (pv 0) pa_nil)) pa_nil)))) pa_nil)) (pg_name (i := 2) sc_law.nd rfl (.inl rfl))
  (pss_cons (ps_set (i := 3) sc_law.nd rfl (.inl rfl) (pe_call G_L_few (hr.mono (by decide)) (by rfl) X_L_few.g X_L_few.F.kp X_L_few.b .nil pass0 (pa_cons (pv 1) pa_nil)))
  (pss_cons (ps_set (i := 4) sc_law.nd rfl (.inl rfl) (pe_call G_L_word (hr.mono (by decide)) (by rfl) X_L_word.g X_L_word.F.kp X_L_word.b .nil pass0 (pa_cons (pv 1) (pa_cons (pv 3) (pa_cons pe_int (pa_cons pe_int pa_nil))))))
  (pss_cons (ps_set (i := 5) sc_law.nd rfl (.inl rfl) (pe_call G_L_draw (hr.mono (by decide)) (by rfl) X_L_draw.g X_L_draw.F.kp X_L_draw.b .nil pass0 (pa_cons (pv 1) (pa_cons (pe_op op_add (pe_callB (lenK (K := K) rfl) (by rfl) B.b_len (by decide +kernel) (pa_cons (pv 4) pa_nil)) pe_int) pa_nil))))
  (pss_cons (ps_set (i := 6) sc_law.nd rfl (.inl rfl) (pe_lst (pa_cons (pe_call G_L_word (hr.mono (by decide)) (by rfl) X_L_word.g X_L_word.F.kp X_L_word.b .nil pass0 (pa_cons (pv 1) (pa_cons (pv 3) (pa_cons pe_int (pa_cons pe_int pa_nil))))) (pa_cons (pe_slice sl_str (pv 4) (po_some (pv 5)) (po_some (pe_op op_add (pe_op op_add (pv 5) pe_int) (pe_call G_L_draw (hr.mono (by decide)) (by rfl) X_L_draw.g X_L_draw.F.kp X_L_draw.b .nil pass0 (pa_cons (pv 1) (pa_cons pe_int pa_nil)))))) (pa_cons (pv 4) (pa_cons (pe_op op_add_str (pv 4) pe_str) pa_nil))))))
  (pss_cons (ps_expr (pe_bm PySem.F.plainAttrs_list PySem.F.slot_list_append PySem.F.type_list_append mt_append (pv 6) (pa_cons (pe_op op_rep_str (pe_call G_L_pick (hr.mono (by decide)) (by rfl) X_L_pick.g X_L_pick.F.kp X_L_pick.b .nil pass0 (pa_cons (pv 1) (pa_cons (pv 3) pa_nil))) pe_int) pa_nil)))
  (pss_cons (ps_set (i := 7) sc_law.nd rfl (.inl rfl) (pe_call G_L_pick (hr.mono (by decide)) (by rfl) X_L_pick.g X_L_pick.F.kp X_L_pick.b .nil pass0 (pa_cons (pv 1) (pa_cons (pe_lc (own := [("_law_one", 10)]) (g := gName 10)  (by rfl) sc_law.nd (piK_list (K := K) rfl (pv 6)) (blkOk_by (own := [("_law_one", 10)]) (N := N_law) (sc := defScope s_law) (by decide +kernel)) (fun _ _ _ _ _ => (pg_name (i := 10) sc_law.nd rfl (.inl rfl))) (fun _ _ _ _ _ => (pts_one (pt_cmpR op_ne (pv 10) pe_str (nomark _)))) (fun _ _ _ _ _ => (pv 10))) pa_nil))))
  (pss_cons (ps_par (i := 8) (j := 9) (by rfl) sc_law.nd rfl rfl (by decide) rfl rfl (pa_cons (pe_call G_places (hr.mono (by decide)) (by rfl) X_places.g X_places.F.kp X_places.b .nil pass0 (pa_cons (pv 4) (pa_cons (pv 7) pa_nil))) (pa_cons (pe_call G_L_places (hr.mono (by decide)) (by rfl) X_L_places.g X_L_places.F.kp X_L_places.b .nil pass0 (pa_cons (pv 4) (pa_cons (pv 7) pa_nil))) pa_nil)) (by rfl))
  (C8.pss_cut (ps_if (PW.pt (pw_or (pt_cmpR op_ne (pe_callB (reprK (K := K) rfl hr hg) (by rfl) B.b_repr (by decide +kernel) (pa_cons (pv 8) pa_nil)) (pe_callB (reprK (K := K) rfl hr hg) (by rfl) B.b_repr (by decide +kernel) (pa_cons (pv 9) pa_nil)) (nomark _)) (pw_or1 (pt_cmpR op_ne (pe_callB (reprK (K := K) rfl hr hg) (by rfl) B.b_repr (by decide +kernel) (pa_cons (pe_callK0 G_places (hr.mono (by decide)) (by rfl) X_places.g X_places.F.kp KB_places pass0 (pk_cons (pv 7) (pk_cons (pv 4) pk_nil))) pa_nil)) (pe_callB (reprK (K := K) rfl hr hg) (by rfl) B.b_repr (by decide +kernel) (pa_cons (pv 9) pa_nil)) (nomark _)))))
  (pss_one (ps_ret pe_bl))
  pss_nil)
  (pss_cons (ps_expr (pe_bm PySem.F.plainAttrs_list PySem.F.slot_list_append PySem.F.type_list_append mt_append (pv 8) (pa_cons pe_int pa_nil)))
  (pss_cons (ps_expr (pe_bm0 PySem.F.plainAttrs_list PySem.F.slot_list_reverse PySem.F.type_list_reverse mt_reverse (pv 8)))
  (pss_one (ps_if (pt_cmpR (neK_D (K := K) rfl hr.units) (pe_call G_places (hr.mono (by decide)) (by rfl) X_places.g X_places.F.kp X_places.b .nil pass0 (pa_cons (pv 4) (pa_cons (pv 7) pa_nil))) (pv 9) (nomark _))
  (pss_one (ps_ret pe_bl))
  pss_nil)))))))))))))
  (pss_one (ps_ret (pe_and (pe_cmpR (eqK_D (K := K) rfl hr.units) (pe_call G_places (hr.mono (by decide)) (by rfl) X_places.g X_places.F.kp X_places.b .nil pass0 (pa_cons pe_str (pa_cons pe_str pa_nil))) (pe_lst (pa_cons pe_int (pa_cons pe_int pa_nil))) (nomark _)) (pe_one (pe_cmpR (eqK_D (K := K) rfl hr.units) (pe_call G_places (hr.mono (by decide)) (by rfl) X_places.g X_places.F.kp X_places.b .nil pass0 (pa_cons pe_str (pa_cons pe_str pa_nil))) (pe_lst pa_nil) (nomark _)))))))), ?_⟩
  refine ⟨_, rfl, a, ns, rfl, hS, hl, fun H1 p c s1 np hp1 => ?_⟩
  have hS1 := s1.seq hS
  refine ⟨_, rfl, _, _, rfl, .inl ⟨_, hS1, rfl⟩, _, _, rfl, _, _, rfl, rfl, (12 : Int) + (if ((ns.map V.int).length : Int) < 12 then ((ns.map V.int).length : Int) else 12), rfl, by split <;> omega, by split <;> omega, ?_⟩
  have hj : ((12 : Int) + (if ((ns.map V.int).length : Int) < 12 then ((ns.map V.int).length : Int) else 12)).toNat ≤ 24 := by split <;> omega
  revert hj
  generalize ((12 : Int) + (if ((ns.map V.int).length : Int) < 12 then ((ns.map V.int).length : Int) else 12)).toNat = N
  intro hj
  refine for_range (lo := 0) (n := N) (fun i σ H2 => ∃ y2 y3 y4 y5 y6 y7 y8 y9 y10, σ = [some (.ref a), some (.ref p), y2, y3, y4, y5, y6, y7, y8, y9, y10] ∧ Pen H2 p c (100 * i)) ?_ ?_ ?_
  · exact ⟨_, _, _, _, _, _, _, _, _, rfl, hp1⟩
  · rintro i σ H2 hi ⟨y2, y3, y4, y5, y6, y7, y8, y9, y10, rfl, hp2⟩
    have hb : 100 * i ≤ 2400 := by omega
    revert hp2 hb
    generalize hM : 100 * i = M
    intro hp2 hb
    -- signs, body, at
    refine ⟨_, rfl, p, c, M, rfl, hp2, by omega, fun H3 z k3 hp3 z1 z2 lz => ?_⟩
    refine ⟨_, rfl, _, rfl, p, c, M + 4, z, 0, 30, rfl, hp3, by omega, by omega, by omega, by omega, by omega, fun H4 t k4 hp4 _ t1 ht => ?_⟩
    have tb : t.length ≤ sizeLine := Nat.le_trans (show t.length ≤ 1000 by omega) (by decide)
    refine ⟨_, rfl, _, rfl, _, _, rfl, ⟨tb, rfl⟩, _, _, rfl, rfl, p, c, _, _, rfl, hp4, by omega, by omega, by omega, fun H5 at' a0 a1 k5 hp5 => ?_⟩
    obtain ⟨at', rfl⟩ : ∃ j : Nat, at' = (j : Int) := ⟨at'.toNat, by omega⟩
    -- some
    refine ⟨_, rfl, _, rfl, p, c, _, z, 1, 3, rfl, hp5, by omega, by omega, by omega, by omega, by omega, fun H6 w1 k6 hp6 w10 w11 hw1 => ?_⟩
    refine ⟨_, rfl, _, rfl, _, rfl, _, rfl, _, _, rfl, rfl, _, rfl, p, c, _, 5, rfl, hp6, by omega, by decide, by decide, fun H7 j j0 j1 k7 hp7 => ?_⟩
    refine ⟨_, _, rfl, rfl, _, rfl, t, rfl, tb, _, rfl, _, rfl, _, _, rfl, rfl, ?_, by show 4 ≤ sizeLine; decide, fun b nb => ?_⟩
    · show t.length + 1 ≤ sizeLine
      exact Nat.le_trans (show t.length + 1 ≤ 1000 by omega) (by decide)
    have cl := cutS_length t (some (at' : Int)) (some ((at' : Int) + 1 + j))
    have tal : (t ++ Str.ofString "a").length = t.length + 1 := by
      rw [TL.len_tl, TL.tl_append, List.length_append, ← TL.len_tl]
      rfl
    have eb : upd H7 b (.lst ([w1, cutS t (some (at' : Int)) (some ((at' : Int) + 1 + j)), t, t ++ Str.ofString "a"].map V.str)) b = some (.lst ([w1, cutS t (some (at' : Int)) (some ((at' : Int) + 1 + j)), t, t ++ Str.ofString "a"].map V.str)) := upd_same
    have hp8 : Pen (upd H7 b (.lst ([w1, cutS t (some (at' : Int)) (some ((at' : Int) + 1 + j)), t, t ++ Str.ofString "a"].map V.str))) p c _ := hp7.new nb
    have bp := hp7.nep nb
    have bc := hp7.nec nb
    show tSeq _ _ _ _ (upd H7 b (.lst ([w1, cutS t (some (at' : Int)) (some ((at' : Int) + 1 + j)), t, t ++ Str.ofString "a"].map V.str)))
    revert cl tal eb hp8
    generalize cutS t (some (at' : Int)) (some ((at' : Int) + 1 + j)) = w2
    generalize t ++ Str.ofString "a" = w3
    generalize upd H7 b (.lst ([w1, w2, t, w3].map V.str)) = H8
    intro w2l w3l eb hp8
    -- some.append(pick(pen, signs) * 2)
    refine ⟨_, rfl, .inl ⟨rfl, _, SqL.of eb⟩, _, rfl, _, rfl, p, c, _, .str z, rfl, hp8, by omega, .inl ⟨z, rfl, by omega, by omega, fun H9 i9 d hd k9 hp9 => ?_⟩⟩
    have eb9 := k9 _ _ bp eb
    refine ⟨_, 2, rfl, rfl, by decide, by decide, by show 1 * 2 ≤ 1000000; decide, b, _, _, rfl, rfl, eb9, by show 4 < sizeLine; decide, ?_⟩
    have e10 : upd H9 b (.lst ([w1, w2, t, w3, sl [d, d]].map V.str)) b = some (.lst ([w1, w2, t, w3, sl [d, d]].map V.str)) := upd_same
    have hp10 : Pen (upd H9 b (.lst ([w1, w2, t, w3, sl [d, d]].map V.str))) p c _ := hp9.wr bp bc
    show tSeq _ _ _ _ (upd H9 b (.lst ([w1, w2, t, w3, sl [d, d]].map V.str)))
    revert e10 hp10
    generalize upd H9 b (.lst ([w1, w2, t, w3, sl [d, d]].map V.str)) = H10
    intro e10 hp10
    -- goal
    have hss : ∀ g ∈ [w1, w2, t, w3, sl [d, d]], g.length ≤ 31 := by
      intro g hg
      simp only [List.mem_cons, List.not_mem_nil, or_false] at hg
      rcases hg with rfl | rfl | rfl | rfl | rfl
      · omega
      · omega
      · omega
      · omega
      · show 2 ≤ 31; decide
    have h3 : w3 ∈ nonE [w1, w2, t, w3, sl [d, d]] := List.mem_filter.mpr ⟨by simp, decide_eq_true (by omega)⟩
    have hlen : [w1, w2, t, w3, sl [d, d]].length = 5 := rfl
    revert e10 hss h3 hlen
    generalize [w1, w2, t, w3, sl [d, d]] = ss
    intro e10 hss h3 hlen
    refine ⟨_, rfl, _, rfl, b, rfl, ⟨_, SqL.of e10⟩, fun D nD => ?_⟩
    refine lc_list (K := K) (a := b) (xs := ss.map V.str) (fun i H11 => H11 D = some (.lst ((nonE (ss.take i)).map V.str)) ∧ Same H10 H11) ⟨upd_same, same_new nD⟩ (fun i H11 _ h => SqL.of (h.2 _ _ e10)) ?_ ?_
    · rintro i x H11 hx ⟨eD, s11⟩
      rw [List.getElem?_map] at hx
      cases hg : ss[i]? with
      | none => rw [hg] at hx; cases hx
      | some g =>
        rw [hg] at hx
        obtain rfl : V.str g = x := Option.some.inj hx
        have hi5 : i < ss.length := (List.getElem?_eq_some_iff.mp hg).1
        have htk : ss.take (i + 1) = ss.take i ++ [g] := by rw [List.take_add_one, hg]; rfl
        refine ⟨rfl, _, rfl, rfl, _, rfl, ?_⟩
        rw [ne_empty]
        refine ite2 (fun c1 => ?_) (fun c1 => ?_)
        · refine ⟨_, rfl, _, eD, ?_, ?_, AB.Same.wr s11 nD⟩
          · rw [List.length_map]
            have := List.length_filter_le (fun s : Str => decide (0 < s.length)) (ss.take i)
            rw [List.length_take] at this
            exact Nat.lt_of_le_of_lt (show (nonE (ss.take i)).length ≤ 5 by unfold nonE; omega) (by decide)
          · rw [upd_same, htk]
            unfold nonE
            rw [List.filter_append, List.map_append, List.filter_cons, if_pos c1]
            rfl
        · refine ⟨?_, s11⟩
          rw [htk]
          unfold nonE
          rw [List.filter_append, List.filter_cons, if_neg c1]
          simpa [nonE] using eD
    rintro H11 ⟨eD, s11⟩
    rw [List.length_map, List.take_length] at eD
    refine ⟨p, c, _, .ref D, rfl, hp10.same s11, by omega, .inr ⟨D, _, rfl, SqL.of eD, ?_, ?_, fun H12 i12 v hv k12 hp12 => ?_⟩⟩
    · intro e
      rw [List.map_eq_nil_iff] at e
      rw [e] at h3
      cases h3
    · rw [List.length_map]
      have := List.length_filter_le (fun s : Str => decide (0 < s.length)) ss
      unfold nonE
      omega
    obtain ⟨g, hg, rfl⟩ := at_map_str hv
    obtain ⟨hg1, hg2⟩ := List.mem_filter.mp hg
    have g0 : 0 < g.length := of_decide_eq_true hg2
    have g1 := hss g hg1
    have sh := show_plc (t := t) (w := g) (by omega)
    -- told, due
    refine ⟨_, rfl, _, rfl, t, g, rfl, by omega, g0, by omega, fun H13 p1 s13 n13 e13 => ?_⟩
    refine ⟨_, rfl, _, rfl, t, g, rfl, by omega, g0, by omega, fun H14 p2 s14 n14 e14 => ⟨_, _, rfl, ?_⟩⟩
    have e13' := s14 _ _ e13
    have ne12 : p1 ≠ p2 := ne_of_none e13 n14
    -- the two reprs
    refine ⟨fun σ' H' => σ' = [some (.ref a), some (.ref p), some (.int (0 + (i : Int))), some (.str z), some (.str t), some (.int at'), some (.ref b), some (.str g), some (.ref p1), some (.ref p2), y10] ∧ Same H14 H', ?_, ?_⟩
    · refine ⟨_, rfl, _, _, rfl, .lst (SqL.of e13') (dp_nats _), sh, _, rfl, _, _, rfl, .lst (SqL.of e14) (dp_nats _), sh, rfl, _, rfl, ne_self ?_⟩
      refine ⟨_, rfl, _, rfl, t, g, rfl, by omega, g0, by omega, fun H15 p3 s15 n15 e15 => ?_⟩
      refine ⟨_, _, rfl, .lst (SqL.of e15) (dp_nats _), sh, _, rfl, _, _, rfl, .lst (SqL.of (s15 _ _ e14)) (dp_nats _), sh, rfl, _, rfl, ne_self ?_⟩
      exact ⟨rfl, s15⟩
    rintro σ' H15 ⟨rfl, s15⟩
    have e13a := s15 _ _ e13'
    have e14a := s15 _ _ e14
    have hp15 : Pen H15 p c _ := ((hp12.same s13).same s14).same s15
    have p1p := hp15.ne_lst e13a
    have p1c : p1 ≠ c := hp12.nec n13
    -- told.append(7); told.reverse()
    refine ⟨_, rfl, .inl ⟨rfl, _, SqL.of e13a⟩, p1, _, _, rfl, rfl, e13a, ?_, ?_⟩
    · rw [nVs_len]
      have := plc_len (tl t) (tl g)
      rw [← TL.len_tl] at this
      exact Nat.lt_of_le_of_lt (show _ ≤ 1000 by omega) (by decide)
    refine ⟨_, rfl, .inl ⟨rfl, _, SqL.of upd_same⟩, p1, _, rfl, rfl, upd_same, ?_⟩
    rw [upd_upd]
    have e14b : upd H15 p1 (.lst (nVs (plc (tl t) (tl g)) ++ [V.int 7]).reverse) p2 = some (.lst (nVs (plc (tl t) (tl g)))) := by rw [upd_ne ne12.symm]; exact e14a
    have hp16 : Pen (upd H15 p1 (.lst (nVs (plc (tl t) (tl g)) ++ [V.int 7]).reverse)) p c _ := hp15.wr p1p p1c
    -- places(body, goal) != due
    refine ⟨_, rfl, _, rfl, t, g, rfl, by omega, g0, by omega, fun H16 p4 s16 n16 e16 => ?_⟩
    refine ⟨_, rfl, .list (datI (plc (tl t) (tl g))), .list (datI (plc (tl t) (tl g))), .lst (SqL.of e16) (dp_nats _), .lst (SqL.of (s16 _ _ e14b)) (dp_nats _), shaped_nats _, shaped_nats _, _, rfl, nef_self ?_⟩
    exact ⟨_, _, _, _, _, _, _, _, _, rfl, (hp16.same s16).mono (by omega)⟩
  · rintro σ H2 ⟨y2, y3, y4, y5, y6, y7, y8, y9, y10, rfl, hp2⟩
    refine ⟨_, _, rfl, by decide +kernel, by decide +kernel, by decide +kernel, fun H3 p1 s3 n3 e3 => ?_⟩
    refine ⟨by show 2 ≤ sizeLine; decide, fun l nl => ?_⟩
    have e3' := same_new (o := .lst [V.int 0, V.int 1]) nl _ _ e3
    refine ⟨.list (datI (plc (tl "aaa") (tl "aa"))), .list [.int 0, .int 1], .lst (SqL.of e3') (dp_nats _), .lst (SqL.of upd_same) (.cons (.int 0) (.cons (.int 1) .nil)), by decide +kernel, by decide +kernel, _, rfl, ?_⟩
    rw [show PyData.eqv (.list (datI (plc (tl "aaa") (tl "aa")))) (.list [.int 0, .int 1]) = true by decide +kernel]
    refine ⟨_, _, rfl, by decide +kernel, by decide +kernel, by decide +kernel, fun H4 p2 s4 n4 e4 => ?_⟩
    refine ⟨Nat.zero_le _, fun l2 nl2 => ?_⟩
    have e4' := same_new (o := .lst []) nl2 _ _ e4
    refine ⟨.list (datI (plc (tl "") (tl "a"))), .list [], .lst (SqL.of e4') (dp_nats _), .lst (SqL.of upd_same) .nil, by decide +kernel, by decide +kernel, ?_⟩
    rw [show PyData.eqv (.list (datI (plc (tl "") (tl "a")))) (.list []) = true by decide +kernel]
    exact q _
end
end Law
namespace Law
open PySem PySem.Spec PyProof.Rows L2 AB
theorem all_mk {P : Program} {w : World} {K : PySem.W.Frag} {h : Heap} {mg : Str → Option Value} {fa f0 f1 f2 f3 f4 f5 f6 f7 f8 : Addr} (X : K.In h) (G : h.Ns mainGlobals mg) (hfa : mg "law" = some (.ref fa))
    {od0 an0 od1 an1 od2 an2 od3 an3 od4 an4 od5 an5 od6 an6 od7 an7 od8 an8 : Option Addr} {sl0 sl1 sl2 sl3 sl4 sl5 sl6 sl7 sl8 : Array (Option Value)} {oc0 kV0 dc0 pm0 cd0 ct0 oc1 kV1 dc1 pm1 cd1 ct1 oc2 kV2 dc2 pm2 cd2 ct2 oc3 kV3 dc3 pm3 cd3 ct3 oc4 kV4 dc4 pm4 cd4 ct4 oc5 kV5 dc5 pm5 cd5 ct5 oc6 kV6 dc6 pm6 cd6 ct6 oc7 kV7 dc7 pm7 cd7 ct7 oc8 kV8 dc8 pm8 cd8 ct8 : Value}
    (a0 : PySem.W.nsIn K mainGlobals "places" = some (some (.ref f0)))
    (l0 : K.lookup f0 = some ⟨oc0, od0, .func (PySem.W.fnOf "places" "places" (defArgs s_places) (defBody s_places) (defScope s_places) .none kV0 dc0 pm0 an0 cd0 ct0), sl0⟩)
    (c0 : PySem.W.codeIn K cd0 "places" = true) (k0 : PySem.W.keepIn K (.ref f0) = true)
    (a1 : PySem.W.nsIn K mainGlobals "_law_pen" = some (some (.ref f1)))
    (l1 : K.lookup f1 = some ⟨oc1, od1, .func (PySem.W.fnOf "_law_pen" "_law_pen" (defArgs s_L_pen) (defBody s_L_pen) (defScope s_L_pen) .none kV1 dc1 pm1 an1 cd1 ct1), sl1⟩)
    (c1 : PySem.W.codeIn K cd1 "_law_pen" = true) (k1 : PySem.W.keepIn K (.ref f1) = true)
    (a2 : PySem.W.nsIn K mainGlobals "_law_draw" = some (some (.ref f2)))
    (l2 : K.lookup f2 = some ⟨oc2, od2, .func (PySem.W.fnOf "_law_draw" "_law_draw" (defArgs s_L_draw) (defBody s_L_draw) (defScope s_L_draw) .none kV2 dc2 pm2 an2 cd2 ct2), sl2⟩)
    (c2 : PySem.W.codeIn K cd2 "_law_draw" = true) (k2 : PySem.W.keepIn K (.ref f2) = true)
    (a3 : PySem.W.nsIn K mainGlobals "_law_pick" = some (some (.ref f3)))
    (l3 : K.lookup f3 = some ⟨oc3, od3, .func (PySem.W.fnOf "_law_pick" "_law_pick" (defArgs s_L_pick) (defBody s_L_pick) (defScope s_L_pick) .none kV3 dc3 pm3 an3 cd3 ct3), sl3⟩)
    (c3 : PySem.W.codeIn K cd3 "_law_pick" = true) (k3 : PySem.W.keepIn K (.ref f3) = true)
    (a4 : PySem.W.nsIn K mainGlobals "_law_signs" = some (some (.ref f4)))
    (l4 : K.lookup f4 = some ⟨oc4, od4, .func (PySem.W.fnOf "_law_signs" "_law_signs" (defArgs s_L_signs) (defBody s_L_signs) (defScope s_L_signs) .none kV4 dc4 pm4 an4 cd4 ct4), sl4⟩)
    (c4 : PySem.W.codeIn K cd4 "_law_signs" = true) (k4 : PySem.W.keepIn K (.ref f4) = true)
    (a5 : PySem.W.nsIn K mainGlobals "_law_few" = some (some (.ref f5)))
    (l5 : K.lookup f5 = some ⟨oc5, od5, .func (PySem.W.fnOf "_law_few" "_law_few" (defArgs s_L_few) (defBody s_L_few) (defScope s_L_few) .none kV5 dc5 pm5 an5 cd5 ct5), sl5⟩)
    (c5 : PySem.W.codeIn K cd5 "_law_few" = true) (k5 : PySem.W.keepIn K (.ref f5) = true)
    (a6 : PySem.W.nsIn K mainGlobals "_law_word" = some (some (.ref f6)))
    (l6 : K.lookup f6 = some ⟨oc6, od6, .func (PySem.W.fnOf "_law_word" "_law_word" (defArgs s_L_word) (defBody s_L_word) (defScope s_L_word) .none kV6 dc6 pm6 an6 cd6 ct6), sl6⟩)
    (c6 : PySem.W.codeIn K cd6 "_law_word" = true) (k6 : PySem.W.keepIn K (.ref f6) = true)
    (a7 : PySem.W.nsIn K mainGlobals "_law_places" = some (some (.ref f7)))
    (l7 : K.lookup f7 = some ⟨oc7, od7, .func (PySem.W.fnOf "_law_places" "_law_places" (defArgs s_L_places) (defBody s_L_places) (defScope s_L_places) .none kV7 dc7 pm7 an7 cd7 ct7), sl7⟩)
    (c7 : PySem.W.codeIn K cd7 "_law_places" = true) (k7 : PySem.W.keepIn K (.ref f7) = true)
    (a8 : PySem.W.nsIn K mainGlobals "law" = some (some (.ref f8)))
    (l8 : K.lookup f8 = some ⟨oc8, od8, .func (PySem.W.fnOf "law" "law" (defArgs s_law) (defBody s_law) (defScope s_law) .none kV8 dc8 pm8 an8 cd8 ct8), sl8⟩)
    (c8 : PySem.W.codeIn K cd8 "law" = true) (k8 : PySem.W.keepIn K (.ref f8) = true)
    (z0 : PySem.W.nsIn K mainGlobals "len" = some none)
    (z1 : PySem.W.nsIn K mainGlobals "range" = some none)
    (z2 : PySem.W.nsIn K mainGlobals "int" = some none)
    (z3 : PySem.W.nsIn K mainGlobals "abs" = some none)
    (z4 : PySem.W.nsIn K mainGlobals "min" = some none)
    (z5 : PySem.W.nsIn K mainGlobals "max" = some none)
    (z6 : PySem.W.nsIn K mainGlobals "repr" = some none)
    (z7 : PySem.W.nsIn K mainGlobals "list" = some none)
    (z8 : PySem.W.nsIn K mainGlobals "tuple" = some none)
    (z9 : PySem.W.nsIn K mainGlobals "isinstance" = some none)
    (z10 : PySem.W.nsIn K mainGlobals "sorted" = some none)
    (z11 : PySem.W.nsIn K mainGlobals "enumerate" = some none)
    (z12 : PySem.W.nsIn K mainGlobals "zip" = some none)
    (z13 : PySem.W.nsIn K mainGlobals "all" = some none)
    (z14 : PySem.W.nsIn K mainGlobals "any" = some none)
    (z15 : PySem.W.nsIn K mainGlobals "str" = some none)
    (z16 : PySem.W.nsIn K mainGlobals "bool" = some none)
    (z17 : PySem.W.nsIn K mainGlobals "sum" = some none)
    : ∃ fd : FuncData, (∀ (s : Shared) (v : Value), BindsTo s fd ⟨[v], []⟩ [("_law_script", v)]) ∧ ∀ base : Heap, K.In base → base.Ns mainGlobals mg →
        FnG P w K mg base CX0 4 fa fd ["_law_script"] (spLaw K) := by
  have e := hfa.symm.trans (PySem.W.mg_of X G a8)
  cases e
  have F_places := fun_mk (st := s_places) l0 c0 k0
  have X_places : FX K mg "places" s_places P_places _ _ := ⟨F_places, F_places.binds (ps := P_places) fun _ _ _ _ _ _ us hl => match us, hl with | [_, _], _ => rfl, PySem.W.mg_of X G a0⟩
  have F_L_pen := fun_mk (st := s_L_pen) l1 c1 k1
  have X_L_pen : FX K mg "_law_pen" s_L_pen P_L_pen _ _ := ⟨F_L_pen, F_L_pen.binds (ps := P_L_pen) fun _ _ _ _ _ _ us hl => match us, hl with | [_], _ => rfl, PySem.W.mg_of X G a1⟩
  have F_L_draw := fun_mk (st := s_L_draw) l2 c2 k2
  have X_L_draw : FX K mg "_law_draw" s_L_draw P_L_draw _ _ := ⟨F_L_draw, F_L_draw.binds (ps := P_L_draw) fun _ _ _ _ _ _ us hl => match us, hl with | [_, _], _ => rfl, PySem.W.mg_of X G a2⟩
  have F_L_pick := fun_mk (st := s_L_pick) l3 c3 k3
  have X_L_pick : FX K mg "_law_pick" s_L_pick P_L_pick _ _ := ⟨F_L_pick, F_L_pick.binds (ps := P_L_pick) fun _ _ _ _ _ _ us hl => match us, hl with | [_, _], _ => rfl, PySem.W.mg_of X G a3⟩
  have F_L_signs := fun_mk (st := s_L_signs) l4 c4 k4
  have X_L_signs : FX K mg "_law_signs" s_L_signs P_L_signs _ _ := ⟨F_L_signs, F_L_signs.binds (ps := P_L_signs) fun _ _ _ _ _ _ us hl => match us, hl with | [], _ => rfl, PySem.W.mg_of X G a4⟩
  have F_L_few := fun_mk (st := s_L_few) l5 c5 k5
  have X_L_few : FX K mg "_law_few" s_L_few P_L_few _ _ := ⟨F_L_few, F_L_few.binds (ps := P_L_few) fun _ _ _ _ _ _ us hl => match us, hl with | [_], _ => rfl, PySem.W.mg_of X G a5⟩
  have F_L_word := fun_mk (st := s_L_word) l6 c6 k6
  have X_L_word : FX K mg "_law_word" s_L_word P_L_word _ _ := ⟨F_L_word, F_L_word.binds (ps := P_L_word) fun _ _ _ _ _ _ us hl => match us, hl with | [_, _, _, _], _ => rfl, PySem.W.mg_of X G a6⟩
  have F_L_places := fun_mk (st := s_L_places) l7 c7 k7
  have X_L_places : FX K mg "_law_places" s_L_places P_L_places _ _ := ⟨F_L_places, F_L_places.binds (ps := P_L_places) fun _ _ _ _ _ _ us hl => match us, hl with | [_, _], _ => rfl, PySem.W.mg_of X G a7⟩
  have F_law := fun_mk (st := s_law) l8 c8 k8
  have X_law : FX K mg "law" s_law P_law _ _ := ⟨F_law, F_law.binds (ps := P_law) fun _ _ _ _ _ _ us hl => match us, hl with | [_], _ => rfl, PySem.W.mg_of X G a8⟩
  have B : Bt mg := ⟨PySem.W.mg_none_of X G z0, PySem.W.mg_none_of X G z1, PySem.W.mg_none_of X G z2, PySem.W.mg_none_of X G z3, PySem.W.mg_none_of X G z4, PySem.W.mg_none_of X G z5, PySem.W.mg_none_of X G z6, PySem.W.mg_none_of X G z7, PySem.W.mg_none_of X G z8, PySem.W.mg_none_of X G z9, PySem.W.mg_none_of X G z10, PySem.W.mg_none_of X G z11, PySem.W.mg_none_of X G z12, PySem.W.mg_none_of X G z13, PySem.W.mg_none_of X G z14, PySem.W.mg_none_of X G z15, PySem.W.mg_none_of X G z16, PySem.W.mg_none_of X G z17⟩
  exact ⟨PySem.W.fnOf "law" "law" (defArgs s_law) (defBody s_law) (defScope s_law) .none kV8 dc8 pm8 an8 cd8 ct8, fun s v => .of_eq rfl, fun base _ _ => ok_law X_law X_L_pen X_L_draw X_L_pick X_L_signs X_L_few X_L_word X_places X_L_places (kb21_mk fun _ _ => rfl) B⟩
end Law
open PySem PySem.W PyProof.Rows
set_option maxHeartbeats 0 in
theorem PySem.Challenge.cw_anchoredits_k03_places_of_words_holds : PySem.Challenge.rw_anchoredits_k03_places_of_words.Holds := by
  w_on; o_law; k_head; (case hw => w_witness2)
  k_fill
  refine AB.walk_goes (l := PySem.Challenge.rw_anchoredits_k03_places_of_words) (n := 63) (k := 4) (x := "_law_script") (sp := AB.spLaw) rfl (by decide) rfl ⟨rfl, by decide, by decide⟩ (fun w h Y => PySem.W.kIn_of Y) ?F (fun _ _ a ns hl hS => ⟨a, ns, rfl, hS, hl, fun _ => rfl⟩)
  case F =>
    intro w mg fa h KX G hmg
    refine' Law.all_mk KX G hmg ?a0 ?l0 ?c0 ?k0 ?a1 ?l1 ?c1 ?k1 ?a2 ?l2 ?c2 ?k2 ?a3 ?l3 ?c3 ?k3 ?a4 ?l4 ?c4 ?k4 ?a5 ?l5 ?c5 ?k5 ?a6 ?l6 ?c6 ?k6 ?a7 ?l7 ?c7 ?k7 ?a8 ?l8 ?c8 ?k8 ?z0 ?z1 ?z2 ?z3 ?z4 ?z5 ?z6 ?z7 ?z8 ?z9 ?z10 ?z11 ?z12 ?z13 ?z14 ?z15 ?z16 ?z17
    (case a0 => k_is); (case l0 => k_is); (case c0 => k_is); (case k0 => k_is); (case a1 => k_is); (case l1 => k_is); (case c1 => k_is); (case k1 => k_is)
    (case a2 => k_is); (case l2 => k_is); (case c2 => k_is); (case k2 => k_is); (case a3 => k_is); (case l3 => k_is); (case c3 => k_is); (case k3 => k_is)
    (case a4 => k_is); (case l4 => k_is); (case c4 => k_is); (case k4 => k_is); (case a5 => k_is); (case l5 => k_is); (case c5 => k_is); (case k5 => k_is)
    (case a6 => k_is); (case l6 => k_is); (case c6 => k_is); (case k6 => k_is); (case a7 => k_is); (case l7 => k_is); (case c7 => k_is); (case k7 => k_is)
    (case a8 => k_is); (case l8 => k_is); (case c8 => k_is); (case k8 => k_is); (case z0 => k_is); (case z1 => k_is); (case z2 => k_is); (case z3 => k_is)
    (case z4 => k_is); (case z5 => k_is); (case z6 => k_is); (case z7 => k_is); (case z8 => k_is); (case z9 => k_is); (case z10 => k_is); (case z11 => k_is)
    (case z12 => k_is); (case z13 => k_is); (case z14 => k_is); (case z15 => k_is); (case z16 => k_is); (case z17 => k_is)

