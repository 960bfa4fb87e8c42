import PyProof.Rows.All
import Wide.All
import OpenK.AllK
import Wide.FinOn
import PyProof.ReprRoads
import HandS.ForMost
import HandS.StrMore
import HandS.Codes
import PyProof.ReprLen
import HandS.Conv
import HandS.Style
import HandS.NoneIn
import HandS.IsInst
import HandS.Flow
import KE.GoesMore
import PyProof.MaxThree
import PyProof.Rows.StrRev
import HandS.ForExc
import HandS.Lambda
import HandS.EndTab
import HandS.Zip
import PyProof.Rows.IntBool
import HandS.TupAny
import HandS.Wide
import HandS.Deep
import KE.KExcSuper
import KE.KExcInit
import HandS.ExcInit
import PyProof.ExcBaseAll.OverflowError
import PyProof.ExcBaseAll.RuntimeError
import PyProof.ExcBaseAll.LookupError
import KE.KExcIs
import HandS.ExcField
import HandS.ExcIs
import KE.KNestM
import HandS.Defaults
import HandS.Star
import HandS.Property
import KE.KSuper
import HandS.ClsMeth
import HandS.TupSets
import HandS.SortOrd
import KE.GoesEnum
import PyProof.SumAny
import PyProof.MinMaxWalk
import PyProof.CollectStr
import HandS.More
import HandS.SetFor
import HandS.Strs
import HandS.GenList
import HandS.GenYield
import PyProof.FactsLen
import PyProof.InstEq
import HandS.OwnEq
import KE.KOpsOwn
import HandS.ExcValue
import PyProof.Rows.CountFlat
import PySem.Challenge.RW_anchoredits_k13_errors_and_limits
set_option Elab.async false
set_option linter.all false
set_option maxRecDepth 100000
set_option maxHeartbeats 4000000
namespace AB
open PySem PySem.Spec PyProof.Rows L2
/-! a def's promise where no repr is under way (A.guards is known to be empty) -/
structure FnG (q : Prop) (P : Program) (w : World) (K : PySem.W.Frag) (mg : Str → Option Value) (base : Heap)
    (CX : CXT) (k : Nat) (f : Addr) (fd : FuncData) (ps : List Str) (sp : Sp) : Prop where
  gl : ∀ vs H Q E, sp vs H Q E → vs.length = ps.length
  go : ∀ (A : Around) (outer : List Env) (s : Shared) (H : Hp) (args : Args) (us : List Value)
    (vs : List V) (Q : VK) (E : XK), Room k A → (q → A.guards = some []) →
    Env0 P w K mg base A outer s H → BindsTo s fd args (ps.zip us) → Vals vs us → sp vs H Q E →
    codeAny (model P w) A (.call (.ref f) args) (CR CX outer P w H s Q E) s
section
variable {P : Program} {w : World} {K : PySem.W.Frag} {mg : Str → Option Value} {base : Heap}
  {CX : CXT} {k : Nat} {f : Addr} {fd : FuncData} {ps : List Str} {sp : Sp}
theorem guards_deeper {A : Around} {env : Env} (h : A.guards = some []) : (A.deeper env).guards = some [] := h
/-- where it is known anyway -/
theorem FnG.tt {q : Prop} (F : FnG q P w K mg base CX k f fd ps sp) : FnG True P w K mg base CX k f fd ps sp :=
  ⟨F.gl, fun A o s H ar us vs Q E hr hg e0 hb hv hs => F.go A o s H ar us vs Q E hr (fun _ => hg trivial) e0 hb hv hs⟩
/-- a def's body keeps its promise, where no repr is under way -/
theorem gun_okC {q : Prop} {x qual : Str} {st : Stmt} {N : List Str} (F : Fun K x qual st f fd)
    (S : FnScope N ps (defScope st)) (len : ∀ vs H Q E, sp vs H Q E → vs.length = ps.length)
    (body : ∀ (cdv : Value), cdv = fd.code → ∀ (A : Around) (outer : List Env) (s : Shared) (H : Hp) (vs : List V)
      (Q : VK) (E : XK), Room k (A.deeper (envOfC qual (defScope st) s.heap.objs.size f cdv)) →
      (q → (A.deeper (envOfC qual (defScope st) s.heap.objs.size f cdv)).guards = some []) → sp vs H Q E →
      ∃ t, PSs (cxOf CX P w K mg base N qual (defScope st) f cdv A outer s H E) (defBody st) t ∧
        t { nx := fun _ H' => Q .non H', rt := Q } (start N vs) H) :
    FnG q P w K mg base CX (k + 1) f fd ps sp := by
  obtain ⟨oc, od, kV, doc, pm, an, cdv, ct, osl, rfl, lk, hcd⟩ := F.ex
  refine ⟨len, ?_⟩
  intro A outer s H args us vs Q E hr hgd e0 hb hv hs
  have kin : K.In s.heap := e0.mod.kin.keeps fun b o e => (e0.bs b o e).1
  have nol : s.heap.NoLimit := e0.mod.nolimit.keeps fun b o e => (e0.bs b o e).1
  refine Att.call_fn (binds := ps.zip us) kin nol lk hcd hr.depth hb ?_ ?_ S.co S.gen S.kind
  · rw [List.all_eq_true]
    rintro ⟨n, v⟩ hy
    rcases S.par n (List.of_mem_zip hy).1 with q | q <;> simp [q]
  · intro s1 ic
    obtain ⟨t, ht, hq⟩ := body cdv rfl A outer s H vs Q E (hr.deeper _) (fun z => guards_deeper (hgd z)) hs
    have I := inv_start (CX := CX) (E := E) S hr.hd e0 (len _ _ _ _ hs) hv ic
    refine wpAny_mono (ht.run [] s1 _ H _ I hq) ?_ fun e s' z => z
    intro fl s' z
    cases fl with
    | ret u =>
      obtain ⟨v, σ', H', J, rv, q⟩ := z
      exact ⟨v, H', J.os, J.bare, J.base, J.hok, rv, q⟩
    | next =>
      obtain ⟨σ', H', J, q⟩ := z
      exact ⟨.non, H', J.os, J.bare, J.base, J.hok, rfl, q⟩
    | brk => obtain ⟨_, _, _, q⟩ := z; exact q.elim
    | cont => obtain ⟨_, _, _, q⟩ := z; exact q.elim
end
end AB
namespace AB
open PySem PySem.Spec PyProof.Rows L2
/-! ### what is shown by repr -/
structure Show (d : PyData) (n k : Nat) : Prop where
  ok : d.showable = true
  nd : d.hasDict = false
  dp : d.depth ≤ k
  sz : d.shown.length ≤ n
theorem Show.mono {d : PyData} {n k n' k' : Nat} (h : Show d n k) (hn : n ≤ n') (hk : k ≤ k') : Show d n' k' :=
  ⟨h.ok, h.nd, Nat.le_trans h.dp hk, Nat.le_trans h.sz hn⟩
theorem log_lt2 {m k : Nat} (hk : 0 < k) (h : m < 2 ^ k) : m.log2 < k := by
  by_cases h0 : m = 0
  · subst h0; exact hk
  · exact (Nat.log2_lt h0).mpr h
theorem Show.int {i : Int} (h : i.natAbs < 2 ^ 300) : Show (.int i) 301 0 := by
  refine ⟨?_, rfl, Nat.le_refl _, ?_⟩
  · exact decide_eq_true (Nat.lt_trans (log_lt2 (k := 300) (by decide) h) (by decide))
  · show (Str.ofString (toString i)).length ≤ 301
    rw [PySem.ofString_length]
    exact int_text_length_le (k := 300) (by decide) (log_lt2 (by decide) h)
theorem Show.str {x : Str} {m : Nat} (hc : ∀ c ∈ x.cps.toList, c < 16 ^ 8) (hm : x.length ≤ m) :
    Show (.str x) (10 * m + 2) 0 :=
  ⟨rfl, rfl, Nat.le_refl _, Nat.le_trans (StrLaws.reprText_len x hc) (by omega)⟩
theorem Show.none : Show .none 4 0 := ⟨rfl, rfl, Nat.le_refl _, by decide +kernel⟩
theorem Show.bool (b : Bool) : Show (.bool b) 5 0 := ⟨rfl, rfl, Nat.le_refl _, by cases b <;> decide +kernel⟩
theorem showable_all : ∀ {ds : List PyData} {n k : Nat}, (∀ d ∈ ds, Show d n k) →
    PyData.showableAll ds = true ∧ PyData.hasDictAll ds = false ∧ PyData.depthAll ds ≤ k ∧
      ((PyData.shownAll ds).map (·.length)).sum ≤ n * ds.length ∧ (PyData.shownAll ds).length = ds.length
  | [], n, k, _ => ⟨rfl, rfl, Nat.zero_le _, Nat.zero_le _, rfl⟩
  | d :: r, n, k, h => by
    have hd := h d List.mem_cons_self
    obtain ⟨a, b, c, e, f⟩ := showable_all (ds := r) (n := n) (k := k) fun x hx => h x (List.mem_cons_of_mem _ hx)
    refine ⟨?_, ?_, ?_, ?_, ?_⟩
    · simp only [PyData.showableAll, hd.ok, a, Bool.and_self]
    · simp only [PyData.hasDictAll, hd.nd, b, Bool.or_self]
    · simp only [PyData.depthAll]
      exact Nat.max_le.mpr ⟨hd.dp, c⟩
    · simp only [PyData.shownAll, List.map_cons, List.sum_cons, List.length_cons]
      have := hd.sz
      rw [Nat.mul_succ]
      omega
    · simp only [PyData.shownAll, List.length_cons, f]
theorem Show.list {ds : List PyData} {n k m : Nat} (h : ∀ d ∈ ds, Show d n k) (hm : n * ds.length + 2 * ds.length + 3 ≤ m) :
    Show (.list ds) m (k + 1) := by
  obtain ⟨a, b, c, e, f⟩ := showable_all h
  refine ⟨by simpa only [PyData.showable] using a, by simpa only [PyData.hasDict] using b, by simp only [PyData.depth]; omega, ?_⟩
  have q := listText_len_le (PyData.shownAll ds)
  simp only [PyData.shown]
  omega
theorem Show.tup {ds : List PyData} {n k m : Nat} (h : ∀ d ∈ ds, Show d n k) (hm : n * ds.length + 2 * ds.length + 3 ≤ m) :
    Show (.tuple ds) m (k + 1) := by
  obtain ⟨a, b, c, e, f⟩ := showable_all h
  refine ⟨by simpa only [PyData.showable] using a, by simpa only [PyData.hasDict] using b, by simp only [PyData.depth]; omega, ?_⟩
  have q := tupleText_len_le (PyData.shownAll ds)
  simp only [PyData.shown]
  omega
theorem sizeLine_big : 16000000 ≤ sizeLine := by rw [sizeLine_eq]; decide
section
variable {X : Cx}
/-! ### texts from code lists; repetition -/
abbrev sl (l : List Nat) : Str := ⟨l.toArray⟩
theorem sl_toList (z : Str) : sl z.cps.toList = z := by cases z; simp [sl]
theorem sl_len (l : List Nat) : (sl l).length = l.length := by simp [sl, Str.length]
theorem len_toList (z : Str) : z.cps.toList.length = z.length := by simp [Str.length]
theorem foldl_app : ∀ (n : Nat) (a acc : Array Nat), ((List.replicate n a).foldl (· ++ ·) acc).toList = acc.toList ++ (List.replicate n a.toList).flatten
  | 0, a, acc => by simp
  | n + 1, a, acc => by
    rw [List.replicate_succ, List.foldl_cons, foldl_app n a, List.replicate_succ, List.flatten_cons]
    simp
theorem op_rep_str : OpR X (binaryOp .Mult) (fun x y H Q => ∃ z k, x = .str z ∧ y = .int k ∧ 0 ≤ k ∧ k < 1000000 ∧
    z.length * k.toNat ≤ 1000000 ∧ Q (.str (sl (List.replicate k.toNat z.cps.toList).flatten)) H) := by
  intro pins s σ H x y v u Q I rx ry h
  obtain ⟨z, k, rfl, rfl, k0, k1, hz, q⟩ := h
  obtain ⟨t, rfl⟩ := rx
  obtain ⟨t', rfl⟩ := ry
  refine PySem.P.mul_str ?_ (fun h1 h2 => ?_) (fun h1 h2 => ?_) ?_
  · rw [decide_eq_false (by omega), decide_eq_false (by omega)]
    rfl
  · intro c
    have h3 : (1 : Int) ≤ k := by omega
    have h4 : z.length ≤ 1000000 := by
      have : 1 ≤ k.toNat := by omega
      exact Nat.le_trans (Nat.le_mul_of_pos_right _ this) hz
    have h5 : (1000000 : Int) ≤ (2 ^ 63 - 1) / k := by
      rw [Int.le_ediv_iff_mul_le (by omega)]
      omega
    omega
  · unfold Builtin.Str.tooLong
    have := sizeLine_big
    exact decide_eq_false (by omega)
  · have key : ∀ w : Str, w.cps.toList = (List.replicate k.toNat z.cps.toList).flatten → ∀ t tk,
        EP X pins σ Q (.str w t) { s with toks := tk } := fun w e t tk => by
      have : w = sl (List.replicate k.toNat z.cps.toList).flatten := by rw [← e, sl_toList]
      subst this
      exact ⟨.str _, H, I.tok tk, ⟨t, rfl⟩, q⟩
    by_cases h1 : k < 1
    · rw [if_pos h1]
      have : k.toNat = 0 := by omega
      refine ⟨by decide, key _ ?_ _ _⟩
      rw [this]; rfl
    · rw [if_neg h1]
      by_cases h2 : (k == 1 || z.length == 0) = true
      · rw [if_pos h2]
        refine key z ?_ t s.toks
        rcases Bool.or_eq_true_iff.mp h2 with c | c
        · have e : k = 1 := eq_of_beq c
          subst e
          simp
        · have e : z.cps.toList = [] := by
            have : z.length = 0 := eq_of_beq c
            rw [← List.length_eq_zero_iff, len_toList, this]
          rw [e]
          simp
      · rw [if_neg h2]
        have e := foldl_app k.toNat z.cps #[]
        refine ⟨?_, key _ (by simpa using e) _ _⟩
        have l : (Str.mk ((List.replicate k.toNat z.cps).foldl (· ++ ·) #[])).length = z.length * k.toNat := by
          rw [← len_toList]
          show ((List.replicate k.toNat z.cps).foldl (· ++ ·) #[]).toList.length = _
          rw [e]
          simp [Str.length, Nat.mul_comm]
        rw [l]
        have := sizeLine_big
        omega
/-! ### f(k = v, ..) without positional arguments -/
end
end AB
namespace AB
open PySem PySem.Spec PyProof.Rows L2
/-! ### the law's own call, from a promise that knows that no repr is under way -/
def scrO (vs : List Value) : Obj := { cls := .type "list", data := .seq vs.toArray }
/-! ### a def that hands back a written text, and .replace of what it hands back -/
end AB
namespace AB
open PySem PySem.Spec PyProof.Rows L2
/-! ### a def of the text, the built-ins -/
structure FX (K : PySem.W.Frag) (mg : Str → Option Value) (x : Str) (st : Stmt) (ps : List Str) (f : Addr) (fd : FuncData) : Prop where
  F : Fun K x x st f fd
  b : Binds K fd ps []
  g : mg x = some (.ref f)
/-! ### the source of draws -/
def Keep (p : Addr) (H H' : Hp) : Prop := ∀ b o, b ≠ p → H b = some o → H' b = some o
theorem Keep.trans {p : Addr} {H H1 H2 : Hp} (a : Keep p H H1) (b : Keep p H1 H2) : Keep p H H2 :=
  fun c o n e => b c o n (a c o n e)
theorem Same.keep {p : Addr} {H H' : Hp} (s : Same H H') : Keep p H H' := fun b o _ e => s b o e
theorem Keep.new {p q : Addr} {H : Hp} {o : HO} (h : H q = none) : Keep p H (upd H q o) := fun b u _ e => by
  rw [upd_ne (ne_of_none e h)]; exact e
theorem same_new {q : Addr} {H : Hp} {o : HO} (h : H q = none) : Same H (upd H q o) := fun b u e => by
  rw [upd_ne (ne_of_none e h)]; exact e
theorem Keep.put {p : Addr} {H : Hp} {o : HO} : Keep p H (upd H p o) := fun b u n e => by
  rw [upd_ne n]; exact e
def penD (c : Addr) (t l : Int) : HO :=
  .dK [(.inr "cells", .ref c), (.inr "turn", .int t), (.inr "left", .int l)]
structure Pen (H : Hp) (p c : Addr) (n : Nat) : Prop where
  ex : ∃ (t l : Int) (xs : List Int), H p = some (penD c t l) ∧ H c = some (.lst (xs.map V.int)) ∧
    xs.length ≤ 63 ∧ 0 ≤ t ∧ t ≤ n ∧ 0 ≤ l
section
variable {H : Hp} {p c : Addr} {t l : Int}
theorem e12 : ¬ (("cells" : Str) = "turn") := by decide +kernel
theorem k12 : ¬ ((Sum.inr ("cells" : Str) : Key) = Sum.inr ("turn" : Str)) := fun z => e12 (Sum.inr.inj z)
theorem e13 : ¬ (("cells" : Str) = "left") := by decide +kernel
theorem k13 : ¬ ((Sum.inr ("cells" : Str) : Key) = Sum.inr ("left" : Str)) := fun z => e13 (Sum.inr.inj z)
theorem e23 : ¬ (("turn" : Str) = "left") := by decide +kernel
theorem k23 : ¬ ((Sum.inr ("turn" : Str) : Key) = Sum.inr ("left" : Str)) := fun z => e23 (Sum.inr.inj z)
theorem e32 : ¬ (("left" : Str) = "turn") := by decide +kernel
theorem pen_cells (h : H p = some (penD c t l)) : DGet H p (.str "cells") (some (.ref c)) := by
  have q := DGet.k (k := Sum.inr ("cells" : Str)) h
  rw [valV_pos rfl] at q
  exact q
theorem pen_turn (h : H p = some (penD c t l)) : DGet H p (.str "turn") (some (.int t)) := by
  have q := DGet.k (k := Sum.inr ("turn" : Str)) h
  rw [valV_neg k12, valV_pos rfl] at q
  exact q
theorem pen_left (h : H p = some (penD c t l)) : DGet H p (.str "left") (some (.int l)) := by
  have q := DGet.k (k := Sum.inr ("left" : Str)) h
  rw [valV_neg k13, valV_neg k23, valV_pos rfl] at q
  exact q
end
theorem Keep.free {p q : Addr} {H H' : Hp} (k : Keep p H H') (n : q ≠ p) (h : H' q = none) : H q = none := by
  cases e : H q with
  | none => rfl
  | some o => rw [k q o n e] at h; cases h
theorem Keep.wr {p q : Addr} {H H' : Hp} {o : HO} (k : Keep p H H') (h : H q = none) : Keep p H (upd H' q o) := fun b u nb e => by
  rw [upd_ne (ne_of_none e h)]
  exact k b u nb e
theorem Same.wr {q : Addr} {H H' : Hp} {o : HO} (k : Same H H') (h : H q = none) : Same H (upd H' q o) := fun b u e => by
  rw [upd_ne (ne_of_none e h)]
  exact k b u e
section
variable {H H' : Hp} {p c a : Addr} {n m : Nat} {xs : List V} {o : HO}
theorem Pen.mono (h : Pen H p c n) (hm : n ≤ m) : Pen H p c m := by
  obtain ⟨t, l, ys, e, e2, a, b, d, f⟩ := h.ex
  exact ⟨t, l, ys, e, e2, a, b, by omega, f⟩
theorem Pen.same (h : Pen H p c n) (s : Same H H') : Pen H' p c n := by
  obtain ⟨t, l, ys, e, e2, a⟩ := h.ex
  exact ⟨t, l, ys, s _ _ e, s _ _ e2, a⟩
theorem Pen.new (h : Pen H p c n) (nq : H a = none) : Pen (upd H a o) p c n := h.same (same_new nq)
/-- an object of one's own is written -/
theorem Pen.wr (h : Pen H p c n) (h1 : a ≠ p) (h2 : a ≠ c) : Pen (upd H a o) p c n := by
  obtain ⟨t, l, ys, e, e2, r⟩ := h.ex
  exact ⟨t, l, ys, by rw [upd_ne h1.symm]; exact e, by rw [upd_ne h2.symm]; exact e2, r⟩
end
end AB
namespace AB
open PySem PySem.Spec PyProof.Rows L2
open TL (tl)
/-! ### places of a word -/
def nVs (l : List Nat) : List V := l.map fun k : Nat => V.int (k : Int)
/-! ### slices, joins -/
/-! ### letters -/
def lettersS : Str := "\x0a !\"#$&'()*+,-./0123456789:;<=>?@ABCDEFGHIJKLMNOPQRSTUVWXYZ[\\]^_`abcdefghijklmnopqrstuvwxyz{|}~"
/-- the text's signs are letters -/
def Lt (z : Str) : Prop := ∀ c ∈ tl z, c ∈ tl lettersS
theorem Lt.one {z : Str} {c : Nat} {i : Nat} (h : Lt z) (e : z.cps.toList[i]? = some c) : Lt ⟨#[c]⟩ := fun d hd => by
  have : d = c := by simpa using hd
  subst this
  exact h d (List.mem_of_getElem? e)
theorem Lt.app {x y : Str} (hx : Lt x) (hy : Lt y) : Lt (x ++ y) := fun c hc => by
  rw [TL.tl_append] at hc
  exact (List.mem_append.mp hc).elim (hx c) (hy c)
theorem Lt.cut {z : Str} {lo hi : Option Int} (h : Lt z) : Lt (cutS z lo hi) := fun c hc => h c (List.mem_of_mem_drop (List.mem_of_mem_take hc))
end AB
namespace AB
open PySem PySem.Spec PyProof.Rows L2
open TL (tl)
end AB
/-! the rules that speak of the written part, with that part named (for the blocks of comprehensions) -/
namespace AB
open PySem PySem.Spec PyProof.Rows L2
section
variable {X : Cx} {K : PySem.W.Frag}
theorem ixK_seq (h : X.K = K) : IxR X (rIx K) := h ▸ ix_seq
theorem eqK_D (h : X.K = K) (hu : X.A.units + 64 < cLine) : OpR X (compareOp .Eq) (rEqD K) := h ▸ op_eqD hu
theorem neK_D (h : X.K = K) (hu : X.A.units + 64 < cLine) : OpR X (compareOp .NotEq) (rNeD K) := h ▸ op_neD hu
def rLenK (K : PySem.W.Frag) : List V → Hp → VK → Prop := fun xs H Q => ∃ x n, xs = [x] ∧ LenV K x H n ∧ Q (.int n) H
theorem lenK (h : X.K = K) : CallR X (.builtin "len") (rLenK K) := h ▸ call_len
def rListOf (K : PySem.W.Frag) : List V → Hp → VK → Prop := fun xs H Q => ∃ p ys, xs = [.ref p] ∧ (SqL K H p ys ∨ SqT K H p ys) ∧ ∀ l, H l = none → Q (.ref l) (upd H l (.lst ys))
theorem listK_of (h : X.K = K) : CallR X (.type "list") (rListOf K) := h ▸ call_list_of
theorem piK_list {tg l : Expr} {tl : TE} (h : X.K = K) (hl : PE X l tl) : PI X tg l (iList K tl) := h ▸ pi_list hl
theorem piK_tup {tg l : Expr} {tl : TE} (h : X.K = K) (hl : PE X l tl) : PI X tg l (iTup K tl) := h ▸ pi_tup hl
theorem pgK_tup {es : List Expr} {k : Nat} {t : TGs} {n : Nat} {pos : Pos} (hK : X.K = K) (hc : X.calm = true) (h : PGs X es t)
    (hn : (assignEach es X.env).length = n := by rfl) (hst : (assignEach es X.env).findIdx? (·.1) = none := by rfl) :
    PG X (.Tuple es k pos) (gTup K n t) := hK ▸ pg_tup hc h hn hst
end
open TL (tl)
end AB
namespace AB
open PySem PySem.Spec PyProof.Rows L2
open TL (tl)
/-- a law's promise -/
def spLaw (K : PySem.W.Frag) : Sp := fun vs H Q _ => ∃ (a : Addr) (ns : List Int), vs = [.ref a] ∧ SqL K H a (ns.map V.int) ∧ ns.length ≤ 63 ∧ ∀ H', Q (.bl true) H'
end AB
/-! how far two texts are apart: plain mathematics -/
namespace AB
def neq (c d : Nat) : Nat := if c = d then 0 else 1
/-- an alignment and what it costs -/
inductive Al : List Nat → List Nat → Nat → Prop
  | nil : Al [] [] 0
  | del {x y n} (c : Nat) : Al x y n → Al (c :: x) y (n + 1)
  | ins {x y n} (d : Nat) : Al x y n → Al x (d :: y) (n + 1)
  | sub {x y n} (c d : Nat) : Al x y n → Al (c :: x) (d :: y) (n + neq c d)
theorem Al.app {x y x' y' : List Nat} {n m : Nat} (h : Al x y n) (g : Al x' y' m) : Al (x ++ x') (y ++ y') (n + m) := by
  induction h with
  | nil => simpa using g
  | del c _ ih => rw [Nat.add_right_comm]; exact .del c ih
  | ins c _ ih => rw [Nat.add_right_comm]; exact .ins c ih
  | sub c d _ ih => rw [Nat.add_right_comm]; exact .sub c d ih
theorem Al.rev {x y : List Nat} {n : Nat} (h : Al x y n) : Al x.reverse y.reverse n := by
  induction h with
  | nil => exact .nil
  | del c _ ih => rw [List.reverse_cons]; have := ih.app (.del c .nil); simpa using this
  | ins c _ ih => rw [List.reverse_cons]; have := ih.app (.ins c .nil); simpa using this
  | sub c d _ ih =>
    rw [List.reverse_cons, List.reverse_cons]
    have := ih.app (.sub c d .nil)
    simpa using this
theorem neq_symm (c d : Nat) : neq c d = neq d c := by unfold neq; by_cases h : c = d <;> simp [h, eq_comm]
theorem Al.symm {x y : List Nat} {n : Nat} (h : Al x y n) : Al y x n := by
  induction h with
  | nil => exact .nil
  | del c _ ih => exact .ins c ih
  | ins c _ ih => exact .del c ih
  | sub c d _ ih => rw [neq_symm]; exact .sub d c ih
/-! ### by beginnings -/
end AB
namespace AB
open PySem PySem.Spec PyProof.Rows L2
open TL (tl)
section
variable {X : Cx}
/-! ### min(a, b, c) -/
theorem vals3 {x y z : V} {us : List Value} (r : Vals [x, y, z] us) : ∃ u v w, us = [u, v, w] ∧ RelV x u ∧ RelV y v ∧ RelV z w := by
  cases r with
  | cons a b =>
    obtain ⟨v, w, rfl, h1, h2⟩ := vals2 b
    exact ⟨_, v, w, rfl, a, h1, h2⟩
def rMin3 : List V → Hp → VK → Prop := fun xs H Q => ∃ i j k : Int, xs = [.int i, .int j, .int k] ∧ Q (.int (min i (min j k))) H
theorem call_min3 (hc : X.calm = true) : CallR X (.builtin "min") rMin3 := by
  intro pins s σ H xs us Q I r h
  obtain ⟨i, j, k, rfl, q⟩ := h
  obtain ⟨u, v, w, rfl, ⟨t, rfl⟩, ⟨t', rfl⟩, ⟨t'', rfl⟩⟩ := vals3 r
  refine min_three_ints (I.ok.hd hc) ?_
  intro h' tk kp
  refine ⟨_, H, I.kept kp, ?_, q⟩
  by_cases c1 : j < i
  · rw [if_pos c1]
    by_cases c2 : k < j
    · rw [if_pos c2]
      exact ⟨t'', by congr 1; omega⟩
    · rw [if_neg c2]
      exact ⟨t', by congr 1; omega⟩
  · rw [if_neg c1]
    by_cases c2 : k < i
    · rw [if_pos c2]
      exact ⟨t'', by congr 1; omega⟩
    · rw [if_neg c2]
      exact ⟨t, by congr 1; omega⟩
/-! ### enumerate of a text -/
/-! ### text[::-1] -/
end
end AB
namespace AB
open PySem PySem.Spec PyProof.Rows L2
open TL (tl)
/-! ### kinds -/
/-! ### changes of a text -/
/-- rows of numbers: a list of lists -/
structure Rows (H : Hp) (l : Addr) (rs : List Addr) (xss : List (List Nat)) : Prop where
  top : H l = some (.lst (rs.map V.ref))
  len : rs.length = xss.length
  row : ∀ (i : Nat) r xs, rs[i]? = some r → xss[i]? = some xs → H r = some (.lst (nVs xs))
theorem Rows.same {H H' : Hp} {l : Addr} {rs : List Addr} {xss : List (List Nat)} (h : Rows H l rs xss) (s : Same H H') : Rows H' l rs xss :=
  ⟨s _ _ h.top, h.len, fun i r xs a b => s _ _ (h.row i r xs a b)⟩
theorem Rows.get {H : Hp} {l : Addr} {rs : List Addr} {xss : List (List Nat)} {i : Nat} {xs : List Nat} (h : Rows H l rs xss) (e : xss[i]? = some xs) :
    ∃ r, rs[i]? = some r ∧ (rs.map V.ref)[i]? = some (.ref r) ∧ H r = some (.lst (nVs xs)) := by
  have hi : i < xss.length := (List.getElem?_eq_some_iff.mp e).1
  have hi' : i < rs.length := by rw [h.len]; exact hi
  refine ⟨rs[i], List.getElem?_eq_getElem hi', ?_, h.row i _ _ (List.getElem?_eq_getElem hi') e⟩
  rw [List.getElem?_map, List.getElem?_eq_getElem hi']
  rfl
/-! ### promises -/
end AB
/-! PL: what a def computes as a plain function of data (values without addresses); lists that a def owns are written in place -/
namespace PL
open PySem PySem.Spec PyProof.Rows L2 AB
open TL (tl)
inductive D where
  | non | bl (b : Bool) | int (i : Int) | str (l : List Nat)
  | tup (xs : List D) | lst (xs : List D) | dct (kvs : List (Key × D)) | dcT (kvs : Str × List (Str × D))
  | ins (c : Str) (fs : List (Str × D)) | ty (n : String) | ref (a : Addr) | flz (xs : List D)
/-- a text's signs are signs -/
def sOk (l : List Nat) : Bool := l.all (· < 0x110000)
/-- a def object -/
def FunO (a : Addr) (ob : Obj) : HO := .ext fun h => h.get? a = some ob
/-- a lambda: its maker's cells, its name, its parts -/
structure LamT where
  cells : List (Str × Addr)
  q : Str
  ps : Arguments
  body : Expr
  sc : Scope
structure Gx where
  K : PySem.W.Frag
  mg : Str → Option Value
  prog : Program
  w : World
  base : Heap
  T : List (Addr × Str)
  sys : ∃ o, base.get? sysModules = some o
  q : Prop
  lm : Nat → Option LamT
/-- no table of code objects -/
def NT (o : HO) : Prop := ∀ ps, o ≠ .tbl ps
theorem NT.lst {xs : List V} : NT (.lst xs) := fun _ z => by cases z
theorem NT.tup {xs : List V} : NT (.tup xs) := fun _ z => by cases z
theorem NT.dK {xs : List (Key × V)} : NT (.dK xs) := fun _ z => by cases z
theorem NT.ins {C dx : Addr} {fs : List (Str × V)} : NT (.ins C dx fs) := fun _ z => by cases z
theorem NT.own {a : Addr} : NT (.own a) := fun _ z => by cases z
theorem NT.ext {φ : Heap → Prop} : NT (.ext φ) := fun _ z => by cases z
theorem NT.xd {xs : List (Str × V)} : NT (.xd xs) := fun _ z => by cases z
/-- an error object: its class, the place of its fields -/
def ErrO (C : Addr) (d : Option Addr) (a : Addr) : HO := .ext fun h => ∃ (oe : Obj) (vs : Array Value), h.get? a = some oe ∧ oe.cls = .ref C ∧ oe.dict = d ∧ oe.data = .fields vs
def KL (K : PySem.W.Frag) (a : Addr) (xs : List V) : Prop :=
  ∃ (o : Obj) (its : Array Value) (n : Nat), K.lookup a = some o ∧ o.cls = .type "list" ∧ o.dict = none ∧ o.data = .seq its n ∧ its.size ≤ sizeLine ∧ Vals xs its.toList
def KT (K : PySem.W.Frag) (a : Addr) (xs : List V) : Prop :=
  ∃ (o : Obj) (its : Array Value) (n : Nat), K.lookup a = some o ∧ o.cls = .type "tuple" ∧ o.data = .seq its n ∧ its.size ≤ sizeLine ∧ Vals xs its.toList
def SL (G : Gx) (H : Hp) (F : Addr → Prop) (a : Addr) (xs : List V) : Prop := (Rd H a (.lst xs) ∧ ¬F a) ∨ KL G.K a xs
def ST (G : Gx) (H : Hp) (F : Addr → Prop) (a : Addr) (xs : List V) : Prop := (Rd H a (.tup xs) ∧ ¬F a) ∨ KT G.K a xs
theorem SL.sq {G : Gx} {H : Hp} {F : Addr → Prop} {a : Addr} {xs : List V} (h : SL G H F a xs) : SqL G.K H a xs := h.elim (fun z => .inl z.1) .inr
theorem ST.sq {G : Gx} {H : Hp} {F : Addr → Prop} {a : Addr} {xs : List V} (h : ST G H F a xs) : SqT G.K H a xs := h.elim (fun z => .inl z.1) .inr
/-- the lambda with a number -/
def LamAt (G : Gx) (H : Hp) (F : Addr → Prop) (a b : Addr) : Prop := ∃ (l : LamT) (pm : Value) (c' : Addr) (ctv : Value), G.lm b = some l ∧
  H a = some (FunO a (PySem.W.kla_obj "<lambda>" l.q l.ps l.body l.sc (L2.cloFrom l.cells l.sc.names []) pm c' ctv)) ∧ ¬F a ∧ H c' = some (LamX.CodeO c' l.q) ∧ ¬F c'
/-- an error of the class c at a, its fields -/
def ErrH (G : Gx) (H : Hp) (F : Addr → Prop) (a : Addr) (xs : List (Str × V)) (c : Str) : Prop :=
  ∃ C d, G.mg c = some (.ref C) ∧ H a = some (ErrO C d a) ∧ ((d = none ∧ xs = []) ∨ ∃ b, d = some b ∧ H b = some (.xd xs) ∧ ¬F b)
mutual
/-- v shows d in H, and leans on no object of F -/
inductive Rp (G : Gx) (H : Hp) (F : Addr → Prop) : V → D → Prop
  | non : Rp G H F .non .non
  | bl (b : Bool) : Rp G H F (.bl b) (.bl b)
  | int (i : Int) : Rp G H F (.int i) (.int i)
  | str {l : List Nat} : sOk l = true → Rp G H F (.str (sl l)) (.str l)
  | ty (n : String) : Rp G H F (.ty n) (.ty n)
  | ref (a b : Addr) : b = 0 ∨ LamAt G H F a b → Rp G H F (.ref a) (.ref b)
  | tup {a : Addr} {vs : List V} {ds : List D} : ST G H F a vs → RpAll G H F vs ds → Rp G H F (.ref a) (.tup ds)
  | lst {a : Addr} {vs : List V} {ds : List D} : H a = some (.lst vs) → ¬F a → RpAll G H F vs ds → Rp G H F (.ref a) (.lst ds)
  | flz {a : Addr} {vs : List V} {ds : List D} : SL G H F a vs → RpAll G H F vs ds → Rp G H F (.ref a) (.flz ds)
  | dct {a : Addr} {kvs : List (Key × V)} {es : List (Key × D)} : H a = some (.dK kvs) → ¬F a → kvs.map (·.1) = es.map (·.1) → RpAll G H F (kvs.map (·.2)) (es.map (·.2)) → Rp G H F (.ref a) (.dct es)
  | dcT {a : Addr} {xs : List (Str × V)} {es : Str × List (Str × D)} : ErrH G H F a xs es.1 → ¬F a → xs.map (·.1) = es.2.map (·.1) → RpAll G H F (xs.map (·.2)) (es.2.map (·.2)) → Rp G H F (.ref a) (.dcT es)
  | ins {a C dx : Addr} {c : Str} {fs : List (Str × V)} {es : List (Str × D)} : G.mg c = some (.ref C) → H a = some (.ins C dx fs) → H dx = some (.own a) → ¬F a → ¬F dx → fs.map (·.1) = es.map (·.1) → RpAll G H F (fs.map (·.2)) (es.map (·.2)) → Rp G H F (.ref a) (.ins c es)
inductive RpAll (G : Gx) (H : Hp) (F : Addr → Prop) : List V → List D → Prop
  | nil : RpAll G H F [] []
  | cons {v : V} {vs : List V} {d : D} {ds : List D} : Rp G H F v d → RpAll G H F vs ds → RpAll G H F (v :: vs) (d :: ds)
end
/-- the heap goes on: what is not in F stays; F' has no old object that was not in F -/
structure Mv (H H' : Hp) (F F' : Addr → Prop) : Prop where
  keep : ∀ b o, H b = some o → ¬F b → NT o → H' b = some o
  frb : ∀ b, F' b → F b ∨ H b = none
section
variable {G : Gx} {H H' : Hp} {F F' : Addr → Prop}
theorem Mv.nf (m : Mv H H' F F') {b : Addr} {o : HO} (e : H b = some o) (h : ¬F b) : ¬F' b := fun z =>
  (m.frb b z).elim h fun q => by rw [e] at q; cases q
theorem Rd.mv (m : Mv H H' F F') {a : Addr} {u : HO} (nt : NT u) (r : Rd H a u) (h : ¬F a) : Rd H' a u ∧ ¬F' a := by
  rcases r with r | ⟨o, r⟩
  · exact ⟨.inl (m.keep _ _ r h nt), m.nf r h⟩
  · exact ⟨.inr ⟨o, m.keep _ _ r h fun _ z => by cases z⟩, m.nf r h⟩
theorem SL.mv (m : Mv H H' F F') {a : Addr} {xs : List V} (h : SL G H F a xs) : SL G H' F' a xs := h.elim (fun z => .inl (Rd.mv m NT.lst z.1 z.2)) .inr
theorem ST.mv (m : Mv H H' F F') {a : Addr} {xs : List V} (h : ST G H F a xs) : ST G H' F' a xs := h.elim (fun z => .inl (Rd.mv m NT.tup z.1 z.2)) .inr
theorem LamAt.mv (m : Mv H H' F F') {a b : Addr} (h : LamAt G H F a b) : LamAt G H' F' a b := by
  obtain ⟨l, pm, c', ctv, h1, h2, h3, h4, h5⟩ := h
  exact ⟨l, pm, c', ctv, h1, m.keep _ _ h2 h3 .ext, m.nf h2 h3, m.keep _ _ h4 h5 .ext, m.nf h4 h5⟩
theorem ErrH.at {a : Addr} {xs : List (Str × V)} {c : Str} (h : ErrH G H F a xs c) : ∃ o, H a = some o := by
  obtain ⟨C, d, _, e, _⟩ := h
  exact ⟨_, e⟩
theorem ErrH.mv (m : Mv H H' F F') {a : Addr} {xs : List (Str × V)} {c : Str} (n : ¬F a) (h : ErrH G H F a xs c) : ErrH G H' F' a xs c := by
  obtain ⟨C, d, g, e, z⟩ := h
  refine ⟨C, d, g, m.keep _ _ e n .ext, z.imp id ?_⟩
  rintro ⟨b, rfl, eb, nb⟩
  exact ⟨b, rfl, m.keep _ _ eb nb .xd, m.nf eb nb⟩
theorem Rp.mv (m : Mv H H' F F') {v : V} {d : D} (h : Rp G H F v d) : Rp G H' F' v d := by
  refine Rp.rec (motive_1 := fun v d _ => Rp G H' F' v d) (motive_2 := fun vs ds _ => RpAll G H' F' vs ds)
    .non .bl .int (fun h => .str h) .ty (fun a b h => .ref a b (h.imp id (LamAt.mv m))) (fun s _ r => .tup (s.mv m) r) (fun e n _ r => .lst (m.keep _ _ e n .lst) (m.nf e n) r) (fun s _ r => .flz (s.mv m) r)
    (fun e n k _ r => .dct (m.keep _ _ e n .dK) (m.nf e n) k r) (fun e n k _ r => .dcT (e.mv m n) (e.at.elim fun _ q => m.nf q n) k r)
    (fun g e e2 n n2 k _ r => .ins g (m.keep _ _ e n .ins) (m.keep _ _ e2 n2 .own) (m.nf e n) (m.nf e2 n2) k r) .nil (fun _ _ a b => .cons a b) h
theorem RpAll.mv (m : Mv H H' F F') {vs : List V} {ds : List D} (h : RpAll G H F vs ds) : RpAll G H' F' vs ds := by
  induction vs generalizing ds with
  | nil => cases h; exact .nil
  | cons v vs ih =>
    cases h with
    | cons a b => exact .cons (a.mv m) (ih b)
theorem Mv.refl : Mv H H F F := ⟨fun _ _ e _ _ => e, fun _ h => .inl h⟩
theorem Mv.less (h : ∀ b, F' b → F b) : Mv H H F F' := ⟨fun _ _ e _ _ => e, fun b z => .inl (h b z)⟩
theorem RpAll.length {vs : List V} {ds : List D} (h : RpAll G H F vs ds) : vs.length = ds.length := by
  induction vs generalizing ds with
  | nil => cases h; rfl
  | cons v vs ih => cases h with | cons a b => simp [ih b]
theorem RpAll.get {vs : List V} {ds : List D} (h : RpAll G H F vs ds) {i : Nat} {v : V} (e : vs[i]? = some v) : ∃ d, ds[i]? = some d ∧ Rp G H F v d := by
  induction vs generalizing ds i with
  | nil => simp at e
  | cons w vs ih =>
    cases h with
    | cons a b =>
      cases i with
      | zero => simp at e; subst e; exact ⟨_, rfl, a⟩
      | succ i => simpa using ih b (by simpa using e)
theorem RpAll.get' {vs : List V} {ds : List D} (h : RpAll G H F vs ds) {i : Nat} {d : D} (e : ds[i]? = some d) : ∃ v, vs[i]? = some v ∧ Rp G H F v d := by
  have hl := h.length
  have hi : i < vs.length := by rw [hl]; exact (List.getElem?_eq_some_iff.mp e).1
  obtain ⟨d', e', r⟩ := h.get (List.getElem?_eq_getElem hi)
  rw [e] at e'; cases e'
  exact ⟨_, List.getElem?_eq_getElem hi, r⟩
theorem RpAll.app {vs ws : List V} {ds es : List D} (h : RpAll G H F vs ds) (k : RpAll G H F ws es) : RpAll G H F (vs ++ ws) (ds ++ es) := by
  induction vs generalizing ds with
  | nil => cases h; exact k
  | cons v vs ih => cases h with | cons a b => exact .cons a (ih b)
theorem RpAll.take {vs : List V} {ds : List D} (h : RpAll G H F vs ds) (n : Nat) : RpAll G H F (vs.take n) (ds.take n) := by
  induction vs generalizing ds n with
  | nil => cases h; simp; exact .nil
  | cons v vs ih =>
    cases h with
    | cons a b =>
      cases n with
      | zero => exact .nil
      | succ n => exact .cons a (ih b n)
theorem RpAll.drop {vs : List V} {ds : List D} (h : RpAll G H F vs ds) (n : Nat) : RpAll G H F (vs.drop n) (ds.drop n) := by
  induction vs generalizing ds n with
  | nil => cases h; simp; exact .nil
  | cons v vs ih =>
    cases h with
    | cons a b =>
      cases n with
      | zero => exact .cons a b
      | succ n => exact ih b n
theorem RpAll.ints (ns : List Int) : RpAll G H F (ns.map V.int) (ns.map D.int) := by
  induction ns with
  | nil => exact .nil
  | cons n ns ih => exact .cons (.int n) ih
end
/-! ### slots -/
inductive Sl where
  | no | sh (d : D) | ow (d : D) | io (d : D)
abbrev Ev := List Sl
def Sl.mut : Sl → Bool
  | .ow _ => true
  | .io _ => true
  | _ => false
def own (σ : L2.St) (ε : Ev) (p : Addr) : Prop := ∃ (i : Nat) (s : Sl), ε[i]? = some s ∧ s.mut = true ∧ σ[i]? = some (some (.ref p))
/-- what an owned object holds -/
def Top (G : Gx) (H : Hp) (F : Addr → Prop) (p : Addr) : D → Prop
  | .lst ds => ∃ vs, H p = some (.lst vs) ∧ RpAll G H F vs ds
  | .dct es => ∃ kvs, H p = some (.dK kvs) ∧ kvs.map (·.1) = es.map (·.1) ∧ RpAll G H F (kvs.map (·.2)) (es.map (·.2))
  | .ins c es => ∃ C dx fs, G.mg c = some (.ref C) ∧ H p = some (.ins C dx fs) ∧ H dx = some (.own p) ∧ ¬F dx ∧ fs.map (·.1) = es.map (·.1) ∧ RpAll G H F (fs.map (·.2)) (es.map (·.2))
  | _ => False
section
variable {G : Gx} {H H' : Hp} {F F' : Addr → Prop} {p : Addr} {d : D}
theorem Top.some (h : Top G H F p d) : ∃ o, H p = some o := by
  cases d with
  | lst ds => obtain ⟨vs, e, _⟩ := h; exact ⟨_, e⟩
  | dct es => obtain ⟨vs, e, _⟩ := h; exact ⟨_, e⟩
  | ins c es => obtain ⟨C, dx, fs, _, e, _⟩ := h; exact ⟨_, e⟩
  | _ => exact h.elim
theorem Top.nt (h : Top G H F p d) {o : HO} (e : H p = Option.some o) : NT o := by
  cases d with
  | lst ds => obtain ⟨vs, e1, _⟩ := h; rw [e] at e1; cases e1; exact .lst
  | dct es => obtain ⟨vs, e1, _⟩ := h; rw [e] at e1; cases e1; exact .dK
  | ins c es => obtain ⟨C, dx, fs, _, e1, _⟩ := h; rw [e] at e1; cases e1; exact .ins
  | _ => exact h.elim
/-- what is written is no table and no code object -/
theorem Top.ntb (h : Top G H F p d) {P : Addr} {q : Str} (t : LamX.TabS H P q) : p ≠ P ∧ ∀ c, H c = Option.some (LamX.CodeO c q) → p ≠ c := by
  obtain ⟨ps, e1, _⟩ := t
  refine ⟨fun z => ?_, fun c ec z => ?_⟩
  · subst z; exact h.nt e1 ps rfl
  · subst z
    cases d with
    | lst ds => obtain ⟨vs, e1, _⟩ := h; rw [e1] at ec; cases ec
    | dct es => obtain ⟨vs, e1, _⟩ := h; rw [e1] at ec; cases ec
    | ins c es => obtain ⟨C, dx, fs, _, e1, _⟩ := h; rw [e1] at ec; cases ec
    | _ => exact h.elim
/-- tables stay where all but some objects stay, none of them a table or a code object -/
theorem tab_keep {as : Addr → Prop} (kp : ∀ b o, H b = some o → ¬as b → H' b = some o) {P : Addr} {q : Str} (t : LamX.TabS H P q) (n1 : ¬as P) (n2 : ∀ c, H c = some (LamX.CodeO c q) → ¬as c) : LamX.TabS H' P q := by
  obtain ⟨ps, e1, h1, h2⟩ := t
  refine ⟨ps, kp _ _ e1 n1, h1, fun pos cv hc => ?_⟩
  obtain ⟨c, rfl, ec⟩ := h2 pos cv hc
  exact ⟨c, rfl, kp _ _ ec (n2 c ec)⟩
theorem tab_top (h : Top G H F p d) {o : HO} {P : Addr} {q : Str} (t : LamX.TabS H P q) : LamX.TabS (upd H p o) P q := by
  obtain ⟨n1, n2⟩ := h.ntb t
  exact tab_keep (as := fun b => b = p) (fun b u e n => by rw [upd_ne n]; exact e) t (fun z => n1 z.symm) fun c ec z => n2 c ec z.symm
theorem tab_lst {xs : List V} (e : H p = Option.some (.lst xs)) {o : HO} {P : Addr} {q : Str} (t : LamX.TabS H P q) : LamX.TabS (upd H p o) P q := by
  refine tab_keep (as := fun b => b = p) (fun b u e n => by rw [upd_ne n]; exact e) t (fun z => ?_) fun c ec z => ?_
  · obtain ⟨ps, e1, _⟩ := t; rw [z, e] at e1; cases e1
  · rw [z, e] at ec; cases ec
theorem tab_dK {xs : List (Key × V)} (e : H p = Option.some (.dK xs)) {o : HO} {P : Addr} {q : Str} (t : LamX.TabS H P q) : LamX.TabS (upd H p o) P q := by
  refine tab_keep (as := fun b => b = p) (fun b u e n => by rw [upd_ne n]; exact e) t (fun z => ?_) fun c ec z => ?_
  · obtain ⟨ps, e1, _⟩ := t; rw [z, e] at e1; cases e1
  · rw [z, e] at ec; cases ec
theorem Top.mv (h : Top G H F p d) (m : Mv H H' F F') (e : H' p = H p) : Top G H' F' p d := by
  cases d with
  | lst ds => obtain ⟨vs, e1, r⟩ := h; exact ⟨vs, e.trans e1, r.mv m⟩
  | dct es => obtain ⟨vs, e1, k, r⟩ := h; exact ⟨vs, e.trans e1, k, r.mv m⟩
  | ins c es => obtain ⟨C, dx, fs, g, e1, e2, n, k, r⟩ := h; exact ⟨C, dx, fs, g, e.trans e1, m.keep _ _ e2 n .own, m.nf e2 n, k, r.mv m⟩
  | _ => exact h.elim
/-- an owned object is given away -/
theorem Top.rp (h : Top G H F p d) (hF : ∀ b, F' b → F b) (np : ¬F' p) : Rp G H F' (.ref p) d := by
  have m : Mv H H F F' := Mv.less hF
  cases d with
  | lst ds => obtain ⟨vs, e1, r⟩ := h; exact .lst e1 np (r.mv m)
  | dct es => obtain ⟨vs, e1, k, r⟩ := h; exact .dct e1 np k (r.mv m)
  | ins c es => obtain ⟨C, dx, fs, g, e1, e2, n, k, r⟩ := h; exact .ins g e1 e2 np (fun z => n (hF _ z)) k (r.mv m)
  | _ => exact h.elim
end
structure Fr where
  H0 : Hp
  io : Nat → Addr → Prop
  F0 : Addr → Prop
def Fr.F (C : Fr) (σ : L2.St) (ε : Ev) (p : Addr) : Prop := C.F0 p ∨ own σ ε p
def Fr.add (C : Fr) (p : Addr) : Fr := { C with F0 := fun q => C.F0 q ∨ q = p }
structure Ok (G : Gx) (C : Fr) (H : Hp) (σ : L2.St) (ε : Ev) : Prop where
  len : σ.length = ε.length
  kept : ∀ b o, C.H0 b = some o → (∀ i, ¬C.io i b) → NT o → H b = some o
  inj : ∀ (i j : Nat) (s t : Sl) (p : Addr), ε[i]? = some s → s.mut = true → ε[j]? = some t → t.mut = true → σ[i]? = some (some (.ref p)) → σ[j]? = some (some (.ref p)) → i = j
  new : ∀ (i : Nat) (d : D) (p : Addr), ε[i]? = some (.ow d) → σ[i]? = some (some (.ref p)) → C.H0 p = none
  nf : ∀ p, own σ ε p → ¬C.F0 p
  f0 : ∀ p, C.F0 p → H p ≠ none
  sh : ∀ (i : Nat) (d : D), ε[i]? = some (.sh d) → ∃ v, σ[i]? = some (some v) ∧ Rp G H (C.F σ ε) v d
  ow : ∀ (i : Nat) (d : D), ε[i]? = some (.ow d) → ∃ p, σ[i]? = some (some (.ref p)) ∧ Top G H (C.F σ ε) p d
  io : ∀ (i : Nat) (d : D), ε[i]? = some (.io d) → ∃ p, σ[i]? = some (some (.ref p)) ∧ Top G H (C.F σ ε) p d
  ioA : ∀ i a, C.io i a → σ[i]? = some (some (.ref a)) ∧ ∃ d, ε[i]? = some (.io d)
  ioB : ∀ (i : Nat) (d : D), ε[i]? = some (.io d) → ∃ a, C.io i a
  tb : ∀ p ∈ G.T, LamX.TabS H p.1 p.2
  h0 : ∀ b, H b = none → C.H0 b = none
/-- a step -/
structure Stp (σ : L2.St) (ε : Ev) (σ' : L2.St) (ε' : Ev) (H H' : Hp) : Prop where
  keep : ∀ b o, H b = some o → ¬own σ ε b → NT o → H' b = some o
  own : ∀ b, own σ' ε' b → own σ ε b ∨ H b = none
  al : ∀ b, H' b = none → H b = none
section
variable {σ σ1 σ2 : L2.St} {ε ε1 ε2 : Ev} {H H1 H2 : Hp} {G : Gx} {C : Fr}
theorem none_of_grow (h : ∀ b o, H b = some o → H1 b = some o) {b : Addr} (e : H1 b = none) : H b = none := by
  cases q : H b with
  | none => rfl
  | some o => rw [h b o q] at e; cases e
theorem Stp.refl : Stp σ ε σ ε H H := ⟨fun _ _ e _ _ => e, fun _ h => .inl h, fun _ h => h⟩
theorem Stp.trans (a : Stp σ ε σ1 ε1 H H1) (b : Stp σ1 ε1 σ2 ε2 H1 H2) : Stp σ ε σ2 ε2 H H2 where
  keep := fun c o e n t => b.keep c o (a.keep c o e n t) (fun z => (a.own c z).elim n fun q => by rw [e] at q; cases q) t
  own := fun c z => (b.own c z).elim (a.own c) fun q => .inr (a.al c q)
  al := fun c e => a.al c (b.al c e)
theorem Stp.mv (a : Stp σ ε σ1 ε1 H H1) : Mv H H1 (C.F σ ε) (C.F σ1 ε1) :=
  ⟨fun b o e n t => a.keep b o e (fun z => n (.inr z)) t, fun b z => z.elim (fun q => .inl (.inl q)) fun q => (a.own b q).imp .inr id⟩
/-- the heap has grown -/
theorem Stp.grow (h : ∀ b o, H b = some o → H1 b = some o) : Stp σ ε σ ε H H1 :=
  ⟨fun b o e _ _ => h b o e, fun _ z => .inl z, fun b e => none_of_grow h e⟩
theorem Ok.own_some (k : Ok G C H σ ε) {p : Addr} (h : own σ ε p) : ∃ o, H p = some o := by
  obtain ⟨i, s, e, m, q⟩ := h
  cases s with
  | no => cases m
  | sh d => cases m
  | ow d => obtain ⟨p', e', t⟩ := k.ow i d e; rw [q] at e'; cases e'; exact t.some
  | io d => obtain ⟨p', e', t⟩ := k.io i d e; rw [q] at e'; cases e'; exact t.some
theorem Ok.fresh (k : Ok G C H σ ε) {p : Addr} (h : H p = none) : C.H0 p = none ∧ ¬C.F σ ε p := by
  have no : ¬own σ ε p := fun z => by
    obtain ⟨o, e⟩ := k.own_some z
    rw [h] at e; cases e
  exact ⟨k.h0 p h, fun z => z.elim (fun q => k.f0 p q h) no⟩
/-- the heap grows -/
theorem Ok.grow (k : Ok G C H σ ε) (h : ∀ b o, H b = some o → H1 b = some o) : Ok G C H1 σ ε := by
  have m : Mv H H1 (C.F σ ε) (C.F σ ε) := (Stp.grow (σ := σ) (ε := ε) h).mv
  exact ⟨k.len, fun b o e n t => h b o (k.kept b o e n t), k.inj, k.new, k.nf, fun p z e => k.f0 p z (by cases q : H p with
      | none => rfl
      | some o => rw [h p o q] at e; cases e),
    fun i d e => by obtain ⟨v, e1, r⟩ := k.sh i d e; exact ⟨v, e1, r.mv m⟩,
    fun i d e => by obtain ⟨v, e1, r⟩ := k.ow i d e; obtain ⟨o, eo⟩ := r.some; exact ⟨v, e1, r.mv m (by rw [eo, h _ _ eo])⟩,
    fun i d e => by obtain ⟨v, e1, r⟩ := k.io i d e; obtain ⟨o, eo⟩ := r.some; exact ⟨v, e1, r.mv m (by rw [eo, h _ _ eo])⟩, k.ioA, k.ioB, fun p hp => (k.tb p hp).ext h, fun b e => k.h0 b (none_of_grow h e)⟩
/-- a new object, kept apart -/
theorem Ok.add (k : Ok G C H σ ε) {p : Addr} {o : HO} (h : H p = none) : Ok G (C.add p) (upd H p o) σ ε := by
  have g : ∀ b u, H b = some u → upd H p o b = some u := fun b u e => by rw [upd_ne (ne_of_none e h)]; exact e
  have k2 := k.grow g
  have m : Mv H (upd H p o) (C.F σ ε) ((C.add p).F σ ε) := ⟨fun b u e _ _ => g b u e, fun b z => z.elim (fun q => q.elim (fun z => .inl (.inl z)) fun e => .inr (e ▸ h)) fun q => .inl (.inr q)⟩
  have np := (k.fresh h).2
  exact ⟨k.len, k2.kept, k.inj, k.new, fun q z w => w.elim (k.nf q z) fun e => np (.inr (e ▸ z)), fun q z => z.elim (k2.f0 q) (fun e => by subst e; rw [upd_same]; exact Option.some_ne_none _),
    fun i d e => by obtain ⟨v, e1, r⟩ := k.sh i d e; exact ⟨v, e1, r.mv m⟩,
    fun i d e => by obtain ⟨v, e1, r⟩ := k.ow i d e; obtain ⟨u, eo⟩ := r.some; exact ⟨v, e1, r.mv m (by rw [eo, g _ _ eo])⟩,
    fun i d e => by obtain ⟨v, e1, r⟩ := k.io i d e; obtain ⟨u, eo⟩ := r.some; exact ⟨v, e1, r.mv m (by rw [eo, g _ _ eo])⟩, k.ioA, k.ioB, k2.tb, k2.h0⟩
theorem Ok.unadd {p : Addr} (k : Ok G (C.add p) H σ ε) : Ok G C H σ ε := by
  have m : Mv H H ((C.add p).F σ ε) (C.F σ ε) := Mv.less fun b z => z.imp .inl id
  exact ⟨k.len, k.kept, k.inj, k.new, fun q z w => k.nf q z (.inl w), fun q z => k.f0 q (.inl z),
    fun i d e => by obtain ⟨v, e1, r⟩ := k.sh i d e; exact ⟨v, e1, r.mv m⟩,
    fun i d e => by obtain ⟨v, e1, r⟩ := k.ow i d e; exact ⟨v, e1, r.mv m rfl⟩,
    fun i d e => by obtain ⟨v, e1, r⟩ := k.io i d e; exact ⟨v, e1, r.mv m rfl⟩, k.ioA, k.ioB, k.tb, k.h0⟩
end
/-! ### values of expressions -/
inductive Fv where
  | sh (d : D) | fr (d : D) | at (i : Nat)
/-- Hs: the heap at the expression's start -/
def VR (G : Gx) (C : Fr) (Hs H : Hp) (σ : L2.St) (ε : Ev) (v : V) : Fv → Prop
  | .sh d => Rp G H (C.F σ ε) v d
  | .at i => σ[i]? = some (some v)
  | .fr d => ∃ p, v = .ref p ∧ Hs p = none ∧ ¬C.F σ ε p ∧ Ok G (C.add p) H σ ε ∧ Top G H ((C.add p).F σ ε) p d
structure Xc where
  cls : Str
  fs : List (Str × D)
def XR (G : Gx) (H : Hp) (F : Addr → Prop) (c : Value) (d : Option Addr) (x : Xc) : Prop :=
  G.mg x.cls = some c ∧ ((x.fs = [] ∧ d = none) ∨ ∃ a vs, d = some a ∧ H a = some (.xd vs) ∧ vs.map (·.1) = x.fs.map (·.1) ∧ RpAll G H F (vs.map (·.2)) (x.fs.map (·.2)))
inductive Re (α : Type) where
  | ok (a : α) (ε : Ev) | exc (x : Xc) (ε : Ev) | no
def Re.bind {α β : Type} (r : Re α) (k : α → Ev → Re β) : Re β :=
  match r with
  | .ok a ε => k a ε
  | .exc x ε => .exc x ε
  | .no => .no
abbrev Dn (α : Type) := Ev → Re α
def PX (G : Gx) (W : WX) (C : Fr) (σ : L2.St) (ε : Ev) (H : Hp) (x : Xc) (ε' : Ev) : Prop :=
  ∀ c d H', Stp σ ε σ ε' H H' → Ok G C H' σ ε' → XR G H' (C.F σ ε') c d x → W c d σ H'
def PostE (G : Gx) (W : WX) (C : Fr) (σ : L2.St) (ε : Ev) (H : Hp) (Q : VK) : Re Fv → Prop
  | .ok fv ε' => ∀ v H', Stp σ ε σ ε' H H' → Ok G C H' σ ε' → VR G C H H' σ ε' v fv → Q v H'
  | .exc x ε' => PX G W C σ ε H x ε'
  | .no => False
def PostT (G : Gx) (W : WX) (C : Fr) (σ : L2.St) (ε : Ev) (H : Hp) (Q : Bool → Hp → Prop) : Re Bool → Prop
  | .ok b ε' => ∀ H', Stp σ ε σ ε' H H' → Ok G C H' σ ε' → Q b H'
  | .exc x ε' => PX G W C σ ε H x ε'
  | .no => False
/-- argument values: never fresh -/
def Fv.old : Fv → Fv
  | .fr d => .sh d
  | x => x
inductive VRs (G : Gx) (C : Fr) (H : Hp) (σ : L2.St) (ε : Ev) : List V → List Fv → Prop
  | nil : VRs G C H σ ε [] []
  | sh {v : V} {d : D} {vs : List V} {fs : List Fv} : Rp G H (C.F σ ε) v d → VRs G C H σ ε vs fs → VRs G C H σ ε (v :: vs) (.sh d :: fs)
  | at {v : V} {i : Nat} {vs : List V} {fs : List Fv} : σ[i]? = some (some v) → VRs G C H σ ε vs fs → VRs G C H σ ε (v :: vs) (.at i :: fs)
def PostA (G : Gx) (W : WX) (C : Fr) (σ : L2.St) (ε : Ev) (H : Hp) (Q : List V → Hp → Prop) : Re (List Fv) → Prop
  | .ok fs ε' => ∀ vs H', Stp σ ε σ ε' H H' → Ok G C H' σ ε' → VRs G C H' σ ε' vs fs → Q vs H'
  | .exc x ε' => PX G W C σ ε H x ε'
  | .no => False
inductive Fl where
  | nx | bk | ct | rt (fv : Fv)
def PostS (G : Gx) (W : WX) (C : Fr) (σ : L2.St) (ε : Ev) (H : Hp) (E : Ends) : Re Fl → Prop
  | .ok .nx ε' => ∀ σ' H', Stp σ ε σ' ε' H H' → Ok G C H' σ' ε' → E.nx σ' H'
  | .ok .bk ε' => ∀ σ' H', Stp σ ε σ' ε' H H' → Ok G C H' σ' ε' → E.bk σ' H'
  | .ok .ct ε' => ∀ σ' H', Stp σ ε σ' ε' H H' → Ok G C H' σ' ε' → E.ct σ' H'
  | .ok (.rt fv) ε' => ∀ σ' v H', Stp σ ε σ' ε' H H' → Ok G C H' σ' ε' → VR G C C.H0 H' σ' ε' v fv → E.rt v H'
  | .exc x ε' => ∀ c d σ' H', Stp σ ε σ' ε' H H' → Ok G C H' σ' ε' → XR G H' (C.F σ' ε') c d x → W c d σ' H'
  | .no => False
def wE (G : Gx) (W : WX) (den : Dn Fv) : TE := fun σ H Q => ∃ C ε, Ok G C H σ ε ∧ PostE G W C σ ε H Q (den ε)
def wT (G : Gx) (W : WX) (den : Dn Bool) : TT := fun σ H Q => ∃ C ε, Ok G C H σ ε ∧ PostT G W C σ ε H Q (den ε)
def wA (G : Gx) (W : WX) (den : Dn (List Fv)) : TA := fun σ H Q => ∃ C ε, Ok G C H σ ε ∧ PostA G W C σ ε H Q (den ε)
def wS (G : Gx) (W : WX) (den : Dn Fl) : TS := fun E σ H => ∃ C ε, Ok G C H σ ε ∧ PostS G W C σ ε H E (den ε)
abbrev PEp (G : Gx) (X : Cx) (W : WX) (e : Expr) (den : Dn Fv) : Prop := PE X e (wE G W den)
abbrev PTp (G : Gx) (X : Cx) (W : WX) (e : Expr) (den : Dn Bool) : Prop := PT X e (wT G W den)
abbrev PWp (G : Gx) (X : Cx) (W : WX) (e : Expr) (den : Dn Bool) : Prop := PW X e (wT G W den)
abbrev PAp (G : Gx) (X : Cx) (W : WX) (es : List Expr) (den : Dn (List Fv)) : Prop := PA X es (wA G W den)
abbrev PSp (G : Gx) (X : Cx) (W : WX) (s : Stmt) (den : Dn Fl) : Prop := PS X s (wS G W den)
abbrev PBp (G : Gx) (X : Cx) (W : WX) (s : List Stmt) (den : Dn Fl) : Prop := PSs X s (wS G W den)
section
variable {G : Gx} {X : Cx} {W : WX} {C : Fr} {σ σ1 : L2.St} {ε ε1 : Ev} {H H1 : Hp}
theorem PE.imp {e : Expr} {t t' : TE} (h : PE X e t) (k : ∀ σ H Q, t' σ H Q → t σ H Q) : PE X e t' := ⟨fun pins s σ H Q I z => h.run pins s σ H Q I (k σ H Q z)⟩
theorem PT.imp {e : Expr} {t t' : TT} (h : PT X e t) (k : ∀ σ H Q, t' σ H Q → t σ H Q) : PT X e t' := ⟨fun pins s σ H Q I z => h.run pins s σ H Q I (k σ H Q z)⟩
theorem PW.imp {e : Expr} {t t' : TT} (h : PW X e t) (k : ∀ σ H Q, t' σ H Q → t σ H Q) : PW X e t' := ⟨fun wh pins s σ H Q I z => h.run wh pins s σ H Q I (k σ H Q z)⟩
theorem PA.imp {es : List Expr} {t t' : TA} (h : PA X es t) (k : ∀ σ H Q, t' σ H Q → t σ H Q) : PA X es t' := ⟨fun p pins s σ H Q I z => h.run p pins s σ H Q I (k σ H Q z)⟩
theorem PS.imp {e : Stmt} {t t' : TS} (h : PS X e t) (k : ∀ D σ H, t' D σ H → t D σ H) : PS X e t' := ⟨fun pins s σ H D I z => h.run pins s σ H D I (k D σ H z)⟩
theorem PSs.imp {e : List Stmt} {t t' : TS} (h : PSs X e t) (k : ∀ D σ H, t' D σ H → t D σ H) : PSs X e t' := ⟨fun pins s σ H D I z => h.run pins s σ H D I (k D σ H z)⟩
/-! the rest of a computation, from a later state -/
theorem PX.from (st : Stp σ ε σ ε1 H H1) {x : Xc} {ε' : Ev} (h : PX G W C σ ε H x ε') : PX G W C σ ε1 H1 x ε' := fun c d H' s k r => h c d H' (st.trans s) k r
theorem VR.back (st : Stp σ ε σ1 ε1 H H1) {H' : Hp} {σ' : L2.St} {ε' : Ev} {v : V} {fv : Fv} (h : VR G C H1 H' σ' ε' v fv) : VR G C H H' σ' ε' v fv := by
  cases fv with
  | fr d => obtain ⟨p, e, n, r⟩ := h; exact ⟨p, e, st.al p n, r⟩
  | sh d => exact h
  | «at» i => exact h
theorem PostE.from (st : Stp σ ε σ ε1 H H1) {Q : VK} {r : Re Fv} (h : PostE G W C σ ε H Q r) : PostE G W C σ ε1 H1 Q r := by
  cases r with
  | ok fv ε' => exact fun v H' s k r => h v H' (st.trans s) k (r.back st)
  | exc x ε' => exact PX.from st h
  | no => exact h
theorem PostT.from (st : Stp σ ε σ ε1 H H1) {Q : Bool → Hp → Prop} {r : Re Bool} (h : PostT G W C σ ε H Q r) : PostT G W C σ ε1 H1 Q r := by
  cases r with
  | ok b ε' => exact fun H' s k => h H' (st.trans s) k
  | exc x ε' => exact PX.from st h
  | no => exact h
theorem PostA.from (st : Stp σ ε σ ε1 H H1) {Q : List V → Hp → Prop} {r : Re (List Fv)} (h : PostA G W C σ ε H Q r) : PostA G W C σ ε1 H1 Q r := by
  cases r with
  | ok b ε' => exact fun vs H' s k r => h vs H' (st.trans s) k r
  | exc x ε' => exact PX.from st h
  | no => exact h
theorem PostS.from (st : Stp σ ε σ1 ε1 H H1) {E : Ends} {r : Re Fl} (h : PostS G W C σ ε H E r) : PostS G W C σ1 ε1 H1 E r := by
  cases r with
  | ok b ε' =>
    cases b with
    | nx => exact fun σ' H' s k => h σ' H' (st.trans s) k
    | bk => exact fun σ' H' s k => h σ' H' (st.trans s) k
    | ct => exact fun σ' H' s k => h σ' H' (st.trans s) k
    | rt fv => exact fun σ' v H' s k r => h σ' v H' (st.trans s) k r
  | exc x ε' => exact fun c d σ' H' s k r => h c d σ' H' (st.trans s) k r
  | no => exact h
theorem PostS.px {E : Ends} {x : Xc} {ε' : Ev} (h : PostS G W C σ ε H E (.exc x ε')) : PX G W C σ ε H x ε' := fun c d H' s k r => h c d σ H' s k r
/-! a first part, then the rest -/
theorem wE_bind {γ : Type} {P : Re γ → Prop} {da : Dn Fv} {k : Fv → Ev → Re γ} {Q' : VK} (ok : Ok G C H σ ε) (hP : P ((da ε).bind k)) (hx : ∀ x ε', P (.exc x ε') → PX G W C σ ε H x ε') (hn : ¬P .no)
    (hk : ∀ fv ε1 v H1, Stp σ ε σ ε1 H H1 → Ok G C H1 σ ε1 → VR G C H H1 σ ε1 v fv → P (k fv ε1) → Q' v H1) : wE G W da σ H Q' := by
  refine ⟨C, ε, ok, ?_⟩
  cases e : da ε with
  | ok fv ε1 => rw [e] at hP; exact fun v H1 st ok1 vr => hk fv ε1 v H1 st ok1 vr hP
  | exc x ε' => rw [e] at hP; exact hx x ε' hP
  | no => rw [e] at hP; exact hn hP
theorem wT_bind {γ : Type} {P : Re γ → Prop} {da : Dn Bool} {k : Bool → Ev → Re γ} {Q' : Bool → Hp → Prop} (ok : Ok G C H σ ε) (hP : P ((da ε).bind k)) (hx : ∀ x ε', P (.exc x ε') → PX G W C σ ε H x ε') (hn : ¬P .no)
    (hk : ∀ b ε1 H1, Stp σ ε σ ε1 H H1 → Ok G C H1 σ ε1 → P (k b ε1) → Q' b H1) : wT G W da σ H Q' := by
  refine ⟨C, ε, ok, ?_⟩
  cases e : da ε with
  | ok fv ε1 => rw [e] at hP; exact fun H1 st ok1 => hk fv ε1 H1 st ok1 hP
  | exc x ε' => rw [e] at hP; exact hx x ε' hP
  | no => rw [e] at hP; exact hn hP
theorem wA_bind {γ : Type} {P : Re γ → Prop} {da : Dn (List Fv)} {k : List Fv → Ev → Re γ} {Q' : List V → Hp → Prop} (ok : Ok G C H σ ε) (hP : P ((da ε).bind k)) (hx : ∀ x ε', P (.exc x ε') → PX G W C σ ε H x ε') (hn : ¬P .no)
    (hk : ∀ fs ε1 vs H1, Stp σ ε σ ε1 H H1 → Ok G C H1 σ ε1 → VRs G C H1 σ ε1 vs fs → P (k fs ε1) → Q' vs H1) : wA G W da σ H Q' := by
  refine ⟨C, ε, ok, ?_⟩
  cases e : da ε with
  | ok fv ε1 => rw [e] at hP; exact fun v H1 st ok1 vr => hk fv ε1 v H1 st ok1 vr hP
  | exc x ε' => rw [e] at hP; exact hx x ε' hP
  | no => rw [e] at hP; exact hn hP
/-- argument values last -/
theorem VRs.stp (h : VRs G C H σ ε vs fs) (st : Stp σ ε σ ε1 H H1) : VRs G C H1 σ ε1 vs fs := by
  induction h with
  | nil => exact .nil
  | sh r _ ih => exact .sh (r.mv st.mv) ih
  | «at» r _ ih => exact .at r ih
theorem VR.old {v : V} {fv : Fv} {Hs : Hp} (h : VR G C Hs H σ ε v fv) {vs : List V} {fs : List Fv} (hs : VRs G C H σ ε vs fs) : VRs G C H σ ε (v :: vs) (fv.old :: fs) := by
  cases fv with
  | sh d => exact .sh h hs
  | «at» i => exact .at h hs
  | fr d =>
    obtain ⟨p, rfl, _, np, _, t⟩ := h
    exact .sh (t.rp (fun b z => z.imp .inl id) np) hs
end
end PL
namespace PL
open PySem PySem.Spec PyProof.Rows L2 AB
open TL (tl)
/-! ### what a value can be read as -/
def Rt (G : Gx) (H : Hp) (F : Addr → Prop) (v : V) : D → Prop
  | .lst ds => ∃ a vs, v = .ref a ∧ H a = some (.lst vs) ∧ RpAll G H F vs ds
  | .dct es => ∃ a kvs, v = .ref a ∧ H a = some (.dK kvs) ∧ kvs.map (·.1) = es.map (·.1) ∧ RpAll G H F (kvs.map (·.2)) (es.map (·.2))
  | .ins c es => ∃ a C dx fs, v = .ref a ∧ G.mg c = some (.ref C) ∧ H a = some (.ins C dx fs) ∧ fs.map (·.1) = es.map (·.1) ∧ RpAll G H F (fs.map (·.2)) (es.map (·.2))
  | d => Rp G H F v d
def Ev.at (ε : Ev) (i : Nat) : Option D :=
  match ε[i]? with
  | some (.sh d) => some d
  | some (.ow d) => some d
  | some (.io d) => some d
  | _ => none
def rd (ε : Ev) : Fv → Option D
  | .sh d => some d
  | .fr d => some d
  | .at i => ε.at i
def rds (ε : Ev) : List Fv → Option (List D)
  | [] => some []
  | f :: fs => match rd ε f, rds ε fs with
    | some d, some ds => some (d :: ds)
    | _, _ => none
inductive RtAll (G : Gx) (H : Hp) (F : Addr → Prop) : List V → List D → Prop
  | nil : RtAll G H F [] []
  | cons {v : V} {vs : List V} {d : D} {ds : List D} : Rt G H F v d → RtAll G H F vs ds → RtAll G H F (v :: vs) (d :: ds)
section
variable {G : Gx} {X : Cx} {W : WX} {C : Fr} {σ : L2.St} {ε : Ev} {H : Hp} {F : Addr → Prop}
theorem Rp.rt {v : V} {d : D} (h : Rp G H F v d) : Rt G H F v d := by
  cases h with
  | lst e n r => exact ⟨_, _, rfl, e, r⟩
  | flz s r => exact .flz s r
  | dct e n k r => exact ⟨_, _, rfl, e, k, r⟩
  | dcT e n k r => exact .dcT e n k r
  | ins g e e2 n n2 k r => exact ⟨_, _, _, _, rfl, g, e, k, r⟩
  | tup s r => exact .tup s r
  | non => exact .non
  | bl b => exact .bl b
  | int i => exact .int i
  | str h => exact .str h
  | ty n => exact .ty n
  | ref a b h => exact .ref a b h
theorem Top.rt {p : Addr} {d : D} (h : Top G H F p d) : Rt G H F (.ref p) d := by
  cases d with
  | lst ds => obtain ⟨vs, e1, r⟩ := h; exact ⟨p, vs, rfl, e1, r⟩
  | dct es => obtain ⟨vs, e1, k, r⟩ := h; exact ⟨p, vs, rfl, e1, k, r⟩
  | ins c es => obtain ⟨C, dx, fs, g, e1, e2, n, k, r⟩ := h; exact ⟨p, C, dx, fs, rfl, g, e1, k, r⟩
  | _ => exact h.elim
theorem Ok.rtAt (k : Ok G C H σ ε) {i : Nat} {v : V} {d : D} (e : σ[i]? = some (some v)) (h : ε.at i = some d) : Rt G H (C.F σ ε) v d := by
  unfold Ev.at at h
  cases q : ε[i]? with
  | none => rw [q] at h; cases h
  | some s =>
    rw [q] at h
    cases s with
    | no => cases h
    | sh d' => cases h; obtain ⟨w, e1, r⟩ := k.sh i _ q; rw [e] at e1; cases e1; exact r.rt
    | ow d' => cases h; obtain ⟨w, e1, r⟩ := k.ow i _ q; rw [e] at e1; cases e1; exact r.rt
    | io d' => cases h; obtain ⟨w, e1, r⟩ := k.io i _ q; rw [e] at e1; cases e1; exact r.rt
theorem VRs.rt {vs : List V} {fs : List Fv} {ds : List D} (k : Ok G C H σ ε) (h : VRs G C H σ ε vs fs) (e : rds ε fs = some ds) : RtAll G H (C.F σ ε) vs ds := by
  induction h generalizing ds with
  | nil => cases e; exact .nil
  | @sh v d vs fs r _ ih =>
    unfold rds at e
    cases q : rds ε fs with
    | none => rw [q] at e; cases e
    | some es => rw [q] at e; cases e; exact .cons r.rt (ih q)
  | @«at» v i vs fs r _ ih =>
    unfold rds at e
    cases q : rds ε fs with
    | none => rw [q] at e; simp [rd] at e
    | some es =>
      rw [q] at e
      cases h : ε.at i with
      | none => simp only [rd, h] at e; cases e
      | some d => simp only [rd, h] at e; cases e; exact .cons (k.rtAt r h) (ih q)
/-! ### what an operation hands back -/
def PostV (G : Gx) (H : Hp) (F : Addr → Prop) (Q : VK) : Fv → Prop
  | .sh d => ∀ v H', (∀ b o, H b = some o → H' b = some o) → Rp G H' F v d → Q v H'
  | .fr d => ∀ p o, H p = none → Top G (upd H p o) (fun q => F q ∨ q = p) p d → Q (.ref p) (upd H p o)
  | .at _ => False
theorem PostV.sh0 {Q : VK} {d : D} {v : V} (h : PostV G H F Q (.sh d)) (r : Rp G H F v d) : Q v H := h v H (fun _ _ e => e) r
theorem mv_new {p : Addr} {o : HO} (h : H p = none) : Mv H (upd H p o) F (fun q => F q ∨ q = p) :=
  ⟨fun b u e _ _ => by rw [upd_ne (ne_of_none e h)]; exact e, fun b z => z.imp id (fun (e : b = p) => by rw [e]; exact h)⟩
theorem mv_old {p : Addr} {o : HO} (h : H p = none) : Mv H (upd H p o) F F :=
  ⟨fun b u e _ _ => by rw [upd_ne (ne_of_none e h)]; exact e, fun b z => .inl z⟩
theorem grow_new {p : Addr} {o : HO} (h : H p = none) : ∀ b u, H b = some u → upd H p o b = some u := fun b u e => by rw [upd_ne (ne_of_none e h)]; exact e
theorem PostV.lst {Q : VK} {ds : List D} (h : PostV G H F Q (.fr (.lst ds))) {vs : List V} (r : RpAll G H F vs ds) {p : Addr} (hp : H p = none) : Q (.ref p) (upd H p (.lst vs)) :=
  h p _ hp ⟨vs, upd_same, r.mv (mv_new hp)⟩
theorem PostV.dct {Q : VK} {es : List (Key × D)} (h : PostV G H F Q (.fr (.dct es))) {kvs : List (Key × V)} (k : kvs.map (·.1) = es.map (·.1)) (r : RpAll G H F (kvs.map (·.2)) (es.map (·.2))) {p : Addr} (hp : H p = none) : Q (.ref p) (upd H p (.dK kvs)) :=
  h p _ hp ⟨kvs, upd_same, k, r.mv (mv_new hp)⟩
theorem PostV.tup {Q : VK} {ds : List D} (h : PostV G H F Q (.sh (.tup ds))) {vs : List V} (r : RpAll G H F vs ds) {p : Addr} (hp : H p = none) (np : ¬F p) : Q (.ref p) (upd H p (.tup vs)) :=
  h _ _ (grow_new hp) (.tup (.inl ⟨.inl upd_same, np⟩) (r.mv (mv_old hp)))
/-- F holds old objects alone -/
def FOld (H : Hp) (F : Addr → Prop) : Prop := ∀ p, F p → H p ≠ none
theorem Ok.fold (k : Ok G C H σ ε) : FOld H (C.F σ ε) := fun p z e => (k.fresh e).2 z
theorem FOld.n (f : FOld H F) {p : Addr} (h : H p = none) : ¬F p := fun z => f p z h
theorem PostE.v {Q : VK} {fv : Fv} (k : Ok G C H σ ε) (h : PostE G W C σ ε H Q (.ok fv ε)) (hf : ∀ i, fv ≠ .at i) : PostV G H (C.F σ ε) Q fv := by
  cases fv with
  | «at» i => exact absurd rfl (hf i)
  | sh d => exact fun v H' g r => h v H' (Stp.grow g) (k.grow g) r
  | fr d =>
    intro p o hp t
    refine h _ _ (Stp.grow (grow_new hp)) (k.grow (grow_new hp)) ⟨p, rfl, hp, (k.fresh hp).2, k.add hp, t.mv (Mv.less ?_) rfl⟩
    intro b z
    rcases z with (z | z) | z
    · exact .inl (.inl z)
    · exact .inr z
    · exact .inl (.inr z)
/-! ### operations of two values -/
def OpS (G : Gx) (r : R2) (f : D → D → Option Fv) : Prop := ∀ (H : Hp) (F : Addr → Prop) (x y : V) (d e : D) (fv : Fv) (Q : VK),
  FOld H F → Rt G H F x d → Rt G H F y e → f d e = some fv → PostV G H F Q fv → r x y H Q
def o2 (ε : Ev) (f : D → D → Option Fv) (x y : Fv) : Re Fv :=
  match rd ε x, rd ε y with
  | some d, some e => match f d e with
    | some (.sh d) => .ok (.sh d) ε
    | some (.fr d) => .ok (.fr d) ε
    | _ => .no
  | _, _ => .no
def d2 (f : D → D → Option Fv) (da db : Dn Fv) : Dn Fv := fun ε => (da ε).bind fun x ε1 => (db ε1).bind fun y ε2 => o2 ε2 f x.old y.old
theorem o2_sound {r : R2} {f : D → D → Option Fv} {x y : V} {fx fy : Fv} {Q : VK} (hs : OpS G r f) (k : Ok G C H σ ε) (vs : VRs G C H σ ε [x, y] [fx, fy]) (p : PostE G W C σ ε H Q (o2 ε f fx fy)) : r x y H Q := by
  unfold o2 at p
  cases e1 : rd ε fx with
  | none => rw [e1] at p; exact p.elim
  | some d =>
    cases e2 : rd ε fy with
    | none => rw [e1, e2] at p; exact p.elim
    | some e =>
      rw [e1, e2] at p
      dsimp only at p
      have rt := vs.rt k (ds := [d, e]) (by simp [rds, e1, e2])
      cases rt with
      | cons r1 rt =>
        cases rt with
        | cons r2 rt =>
          cases e3 : f d e with
          | none => rw [e3] at p; exact p.elim
          | some fv =>
            rw [e3] at p
            cases fv with
            | sh d' => exact hs H _ x y d e _ Q k.fold r1 r2 e3 (PostE.v k p (fun i z => by cases z))
            | fr d' => exact hs H _ x y d e _ Q k.fold r1 r2 e3 (PostE.v k p (fun i z => by cases z))
            | «at» i => exact p.elim
theorem e2_read {r : R2} {f : D → D → Option Fv} {da db : Dn Fv} (hs : OpS G r f) {σ : L2.St} {H : Hp} {Q : VK} (h : wE G W (d2 f da db) σ H Q) : tOp r (wE G W da) (wE G W db) σ H Q := by
  obtain ⟨C, ε, ok, post⟩ := h
  refine wE_bind (P := PostE G W C σ ε H Q) ok post (fun _ _ h => h) id fun fx ε1 x H1 st1 ok1 vr1 p1 => ?_
  refine wE_bind (P := PostE G W C σ ε1 H1 Q) ok1 (p1.from st1) (fun _ _ h => h) id fun fy ε2 y H2 st2 ok2 vr2 p2 => ?_
  have v1 := (vr1.old .nil).stp st2
  have vs : VRs G C H2 σ ε2 [x, y] [fx.old, fy.old] := by
    have v2 := vr2.old .nil
    generalize fx.old = a at v1
    cases v1 with
    | sh r _ => exact .sh r v2
    | «at» r _ => exact .at r v2
  exact o2_sound hs ok2 vs (p2.from st2)
theorem e2 {e : Expr} {r : R2} {f : D → D → Option Fv} {da db : Dn Fv} (h : PE X e (tOp r (wE G W da) (wE G W db))) (hs : OpS G r f) : PEp G X W e (d2 f da db) :=
  PE.imp h fun _ _ _ h => e2_read hs h
/-- two ways, chosen by the kind of the data -/
def OpAt (G : Gx) (r : R2) (f : D → D → Option Fv) (d e : D) : Prop := ∀ (H : Hp) (F : Addr → Prop) (x y : V) (fv : Fv) (Q : VK), FOld H F → Rt G H F x d → Rt G H F y e → f d e = some fv → PostV G H F Q fv → r x y H Q
theorem e2or {e : Expr} {r r' : R2} {f : D → D → Option Fv} {da db : Dn Fv} (h : PE X e (tOp r (wE G W da) (wE G W db))) (h' : PE X e (tOp r' (wE G W da) (wE G W db))) (hs : ∀ d e, OpAt G r f d e ∨ OpAt G r' f d e) : PEp G X W e (d2 f da db) := by
  refine ⟨fun pins s σ H Q I hw => ?_⟩
  obtain ⟨C, ε, ok, post⟩ := hw
  -- the operation at the very data
  have only : ∀ (d0 e0 : D), (∀ ε2 fx fy, rd ε2 fx = some d0 → rd ε2 fy = some e0 → o2 ε2 f fx fy = o2 ε2 f fx fy) → True := fun _ _ _ => trivial
  cases e1 : da ε with
  | no => simp only [d2, e1, Re.bind] at post; exact post.elim
  | exc x ε' => exact h.run pins s σ H Q I ⟨C, ε, ok, by rw [e1]; simp only [d2, e1, Re.bind] at post; exact post⟩
  | ok fx ε1 =>
    cases e2 : db ε1 with
    | no => simp only [d2, e1, e2, Re.bind] at post; exact post.elim
    | exc x ε' =>
      simp only [d2, e1, e2, Re.bind] at post
      exact h.run pins s σ H Q I ⟨C, ε, ok, by rw [e1]; exact fun x H1 st1 ok1 vr1 => ⟨C, ε1, ok1, by rw [e2]; exact PX.from st1 post⟩⟩
    | ok fy ε2 =>
      simp only [d2, e1, e2, Re.bind] at post
      have go : ∀ {r : R2}, (∀ {H2 x y}, Ok G C H2 σ ε2 → VRs G C H2 σ ε2 [x, y] [fx.old, fy.old] → PostE G W C σ ε2 H2 Q (o2 ε2 f fx.old fy.old) → r x y H2 Q) → tOp r (wE G W da) (wE G W db) σ H Q := fun {r} hr => by
        refine ⟨C, ε, ok, ?_⟩
        rw [e1]
        intro x H1 st1 ok1 vr1
        refine ⟨C, ε1, ok1, ?_⟩
        rw [e2]
        intro y H2 st2 ok2 vr2
        have v1 := (vr1.old .nil).stp st2
        have vs : VRs G C H2 σ ε2 [x, y] [fx.old, fy.old] := by
          have v2 := vr2.old .nil
          generalize fx.old = a at v1
          cases v1 with
          | sh r _ => exact .sh r v2
          | «at» r _ => exact .at r v2
        exact hr ok2 vs (PostE.from (st1.trans st2) post)
      cases q1 : rd ε2 fx.old with
      | none => simp only [o2, q1] at post; exact post.elim
      | some d =>
        cases q2 : rd ε2 fy.old with
        | none => simp only [o2, q1, q2] at post; exact post.elim
        | some e0 =>
          have fin : ∀ {r : R2}, OpAt G r f d e0 → ∀ {H2 x y}, Ok G C H2 σ ε2 → VRs G C H2 σ ε2 [x, y] [fx.old, fy.old] → PostE G W C σ ε2 H2 Q (o2 ε2 f fx.old fy.old) → r x y H2 Q := fun {r} hs {H2 x y} k vs p => by
            unfold o2 at p
            rw [q1, q2] at p
            dsimp only at p
            have rt := vs.rt k (ds := [d, e0]) (by simp [rds, q1, q2])
            cases rt with
            | cons r1 rt =>
              cases rt with
              | cons r2 rt =>
                cases e3 : f d e0 with
                | none => rw [e3] at p; exact p.elim
                | some fv =>
                  rw [e3] at p
                  cases fv with
                  | sh d' => exact hs H2 _ x y _ Q k.fold r1 r2 e3 (PostE.v k p (fun i z => by cases z))
                  | fr d' => exact hs H2 _ x y _ Q k.fold r1 r2 e3 (PostE.v k p (fun i z => by cases z))
                  | «at» i => exact p.elim
          rcases hs d e0 with hs | hs
          · exact h.run pins s σ H Q I (go (fin hs))
          · exact h'.run pins s σ H Q I (go (fin hs))
/-! ### operations of one value -/
def Op1 (G : Gx) (r : V → Hp → VK → Prop) (f : D → Option Fv) : Prop := ∀ (H : Hp) (F : Addr → Prop) (x : V) (d : D) (fv : Fv) (Q : VK),
  FOld H F → Rt G H F x d → f d = some fv → PostV G H F Q fv → r x H Q
def o1 (ε : Ev) (f : D → Option Fv) (x : Fv) : Re Fv :=
  match rd ε x with
  | some d => match f d with
    | some (.sh d) => .ok (.sh d) ε
    | some (.fr d) => .ok (.fr d) ε
    | _ => .no
  | _ => .no
def d1 (f : D → Option Fv) (da : Dn Fv) : Dn Fv := fun ε => (da ε).bind fun x ε1 => o1 ε1 f x.old
theorem o1_sound {r : V → Hp → VK → Prop} {f : D → Option Fv} {x : V} {fx : Fv} {Q : VK} (hs : Op1 G r f) (k : Ok G C H σ ε) (vs : VRs G C H σ ε [x] [fx]) (p : PostE G W C σ ε H Q (o1 ε f fx)) : r x H Q := by
  unfold o1 at p
  cases e1 : rd ε fx with
  | none => rw [e1] at p; exact p.elim
  | some d =>
    rw [e1] at p
    dsimp only at p
    have rt := vs.rt k (ds := [d]) (by simp [rds, e1])
    cases rt with
    | cons r1 rt =>
      cases e3 : f d with
      | none => rw [e3] at p; exact p.elim
      | some fv =>
        rw [e3] at p
        cases fv with
        | sh d' => exact hs H _ x d _ Q k.fold r1 e3 (PostE.v k p (fun i z => by cases z))
        | fr d' => exact hs H _ x d _ Q k.fold r1 e3 (PostE.v k p (fun i z => by cases z))
        | «at» i => exact p.elim
theorem e1 {e : Expr} {r : V → Hp → VK → Prop} {f : D → Option Fv} {da : Dn Fv} (h : PE X e (tUn r (wE G W da))) (hs : Op1 G r f) : PEp G X W e (d1 f da) := by
  refine PE.imp h ?_
  rintro σ H Q ⟨C, ε, ok, post⟩
  refine wE_bind (P := PostE G W C σ ε H Q) ok post (fun _ _ h => h) id fun fx ε1 x H1 st1 ok1 vr1 p1 => ?_
  exact o1_sound hs ok1 (vr1.old .nil) (p1.from st1)
/-! ### operations of an argument list -/
def OpN (G : Gx) (r : List V → Hp → VK → Prop) (f : List D → Option Fv) : Prop := ∀ (H : Hp) (F : Addr → Prop) (xs : List V) (ds : List D) (fv : Fv) (Q : VK),
  FOld H F → RtAll G H F xs ds → f ds = some fv → PostV G H F Q fv → r xs H Q
def oN (ε : Ev) (f : List D → Option Fv) (fs : List Fv) : Re Fv :=
  match rds ε fs with
  | some ds => match f ds with
    | some (.sh d) => .ok (.sh d) ε
    | some (.fr d) => .ok (.fr d) ε
    | _ => .no
  | _ => .no
def dN (f : List D → Option Fv) (da : Dn (List Fv)) : Dn Fv := fun ε => (da ε).bind fun fs ε1 => oN ε1 f fs
theorem oN_sound {r : List V → Hp → VK → Prop} {f : List D → Option Fv} {xs : List V} {fs : List Fv} {Q : VK} (hs : OpN G r f) (k : Ok G C H σ ε) (vs : VRs G C H σ ε xs fs) (p : PostE G W C σ ε H Q (oN ε f fs)) : r xs H Q := by
  unfold oN at p
  cases e1 : rds ε fs with
  | none => rw [e1] at p; exact p.elim
  | some ds =>
    rw [e1] at p
    dsimp only at p
    have rt := vs.rt k e1
    cases e3 : f ds with
    | none => rw [e3] at p; exact p.elim
    | some fv =>
      rw [e3] at p
      cases fv with
      | sh d' => exact hs H _ xs ds _ Q k.fold rt e3 (PostE.v k p (fun i z => by cases z))
      | fr d' => exact hs H _ xs ds _ Q k.fold rt e3 (PostE.v k p (fun i z => by cases z))
      | «at» i => exact p.elim
theorem eN {e : Expr} {r : List V → Hp → VK → Prop} {f : List D → Option Fv} {da : Dn (List Fv)} (h : PE X e (tCB r (wA G W da))) (hs : OpN G r f) : PEp G X W e (dN f da) := by
  refine PE.imp h ?_
  rintro σ H Q ⟨C, ε, ok, post⟩
  refine wA_bind (P := PostE G W C σ ε H Q) ok post (fun _ _ h => h) id fun fs ε1 xs H1 st1 ok1 vr1 p1 => ?_
  exact oN_sound hs ok1 vr1 (p1.from st1)
/-! ### names, written values, argument lists -/
def dV (i : Nat) : Dn Fv := fun ε => match ε.at i with
  | some _ => .ok (.at i) ε
  | none => .no
theorem eV {i : Nat} {x : Str} {pos : Pos} (hN : X.N[i]? = some x) (hv : Vis X.env.scope x) (hd : (x == ("__debug__" : Str)) = false := by decide) (hcd : (x == ("__classdict__" : Str)) = false := by decide) : PEp G X W (.Name x pos) (dV i) := by
  refine PE.imp (pe_var hN hv hd hcd) ?_
  rintro σ H Q ⟨C, ε, ok, post⟩
  unfold dV at post
  cases e : ε.at i with
  | none => rw [e] at post; exact post.elim
  | some d =>
    rw [e] at post
    have : ∃ v, σ[i]? = some (some v) := by
      unfold Ev.at at e
      cases q : ε[i]? with
      | none => rw [q] at e; cases e
      | some s =>
        cases s with
        | no => rw [q] at e; cases e
        | sh d => obtain ⟨v, e1, _⟩ := ok.sh i d q; exact ⟨v, e1⟩
        | ow d => obtain ⟨v, e1, _⟩ := ok.ow i d q; exact ⟨_, e1⟩
        | io d => obtain ⟨v, e1, _⟩ := ok.io i d q; exact ⟨_, e1⟩
    obtain ⟨v, ev⟩ := this
    exact ⟨v, ev, post v H Stp.refl ok ev⟩
def dC (d : D) : Dn Fv := fun ε => .ok (.sh d) ε
theorem eC {e : Expr} {v : V} {d : D} (h : PE X e (tC v)) (r : ∀ H F, Rp G H F v d) : PEp G X W e (dC d) := by
  refine PE.imp h ?_
  rintro σ H Q ⟨C, ε, ok, post⟩
  exact post v H Stp.refl ok (r H _)
theorem eInt {i j pos} : PEp G X W (.Constant (.int i) j pos) (dC (.int i)) := eC pe_int fun _ _ => .int i
theorem eBl {b j pos} : PEp G X W (.Constant (.bool b) j pos) (dC (.bl b)) := eC pe_bl fun _ _ => .bl b
theorem eNon {j pos} : PEp G X W (.Constant .none j pos) (dC .non) := eC pe_non fun _ _ => .non
theorem sl_tl (z : Str) : sl (tl z) = z := sl_toList z
theorem Rp.str' {z : Str} (h : sOk (tl z) = true) : Rp G H F (.str z) (.str (tl z)) := by
  have := Rp.str (G := G) (H := H) (F := F) h
  rwa [sl_tl] at this
theorem eStr {x : Str} {j pos} (h : sOk (tl x) = true := by decide +kernel) : PEp G X W (.Constant (.str x) j pos) (dC (.str (tl x))) := eC pe_str fun _ _ => Rp.str' h
def aNil : Dn (List Fv) := fun ε => .ok [] ε
def aCons (da : Dn Fv) (db : Dn (List Fv)) : Dn (List Fv) := fun ε => (da ε).bind fun x ε1 => (db ε1).bind fun xs ε2 => .ok (x.old :: xs) ε2
theorem pNil : PAp G X W [] aNil := PA.imp pa_nil fun σ H Q ⟨C, ε, ok, post⟩ => post [] H Stp.refl ok .nil
theorem pCons {a : Expr} {as : List Expr} {da : Dn Fv} {db : Dn (List Fv)} (ha : PEp G X W a da) (hb : PAp G X W as db) (hs : starEach (a :: as) X.env = (false, eval a X.env) :: starEach as X.env := by rfl) : PAp G X W (a :: as) (aCons da db) := by
  refine PA.imp (pa_cons ha hb hs) ?_
  rintro σ H Q ⟨C, ε, ok, post⟩
  refine wE_bind (P := PostA G W C σ ε H Q) ok post (fun _ _ h => h) id fun fx ε1 x H1 st1 ok1 vr1 p1 => ?_
  refine wA_bind (P := PostA G W C σ ε1 H1 Q) ok1 (p1.from st1) (fun _ _ h => h) id fun fs ε2 xs H2 st2 ok2 vr2 p2 => ?_
  refine p2 _ H2 st2 ok2 ?_
  have v1 := (vr1.old .nil).stp st2
  generalize fx.old = a at v1
  cases v1 with
  | sh r _ => exact .sh r vr2
  | «at» r _ => exact .at r vr2
end
end PL
namespace PL
open PySem PySem.Spec PyProof.Rows L2 AB
open TL (tl)
/-! ### slots are set -/
section
variable {G : Gx} {X : Cx} {W : WX} {C : Fr} {σ : L2.St} {ε : Ev} {H : Hp} {F : Addr → Prop}
theorem own_set {i : Nat} {v : Option V} {s : Sl} {p : Addr} (h : own (σ.set i v) (ε.set i s) p) : (s.mut = true ∧ v = some (.ref p)) ∨ ∃ (j : Nat) (t : Sl), j ≠ i ∧ ε[j]? = some t ∧ t.mut = true ∧ σ[j]? = some (some (.ref p)) := by
  obtain ⟨j, t, e1, m, e2⟩ := h
  by_cases c : i = j
  · subst c
    rw [List.getElem?_set] at e1 e2
    simp only [if_true] at e1 e2
    split at e1
    · cases e1
      split at e2
      · exact .inl ⟨m, by cases e2; rfl⟩
      · cases e2
    · cases e1
  · rw [List.getElem?_set_ne c] at e1 e2
    exact .inr ⟨j, t, fun z => c z.symm, e1, m, e2⟩
theorem own_set' {i : Nat} {v : Option V} {s : Sl} {p : Addr} (hs : s.mut = false) (h : own (σ.set i v) (ε.set i s) p) : own σ ε p := by
  rcases own_set h with ⟨m, _⟩ | ⟨j, t, _, a, b, c⟩
  · rw [hs] at m; cases m
  · exact ⟨j, t, a, b, c⟩
theorem get_set {α : Type} {l : List α} {i j : Nat} {a b : α} (h : (l.set i a)[j]? = some b) : (i = j ∧ i < l.length ∧ b = a) ∨ (i ≠ j ∧ l[j]? = some b) := by
  by_cases c : i = j
  · subst c
    rw [List.getElem?_set] at h
    simp only [if_true] at h
    split at h
    · cases h; exact .inl ⟨rfl, by assumption, rfl⟩
    · cases h
  · rw [List.getElem?_set_ne c] at h
    exact .inr ⟨c, h⟩
/-- a slot gets a value that is not owned -/
theorem Ok.put (k : Ok G C H σ ε) {i : Nat} {v : Option V} {s : Sl} (hs : s.mut = false) (hio : ∀ d, ε[i]? ≠ some (.io d)) (hv : ∀ d, s = .sh d → ∃ u, v = some u ∧ Rp G H (C.F σ ε) u d) :
    Ok G C H (σ.set i v) (ε.set i s) := by
  have m : Mv H H (C.F σ ε) (C.F (σ.set i v) (ε.set i s)) := Mv.less fun b z => z.imp id (own_set' hs)
  refine ⟨by simp [k.len], k.kept, ?_, ?_, fun p z => k.nf p (own_set' hs z), k.f0, ?_, ?_, ?_, ?_, ?_, k.tb, k.h0⟩
  · intro a b s1 t1 p e1 m1 e2 m2 q1 q2
    rcases get_set e1 with ⟨rfl, _, rfl⟩ | ⟨n1, e1⟩
    · rw [hs] at m1; cases m1
    rcases get_set e2 with ⟨rfl, _, rfl⟩ | ⟨n2, e2⟩
    · rw [hs] at m2; cases m2
    rw [List.getElem?_set_ne n1] at q1
    rw [List.getElem?_set_ne n2] at q2
    exact k.inj a b s1 t1 p e1 m1 e2 m2 q1 q2
  · intro a d p e q
    rcases get_set e with ⟨rfl, _, rfl⟩ | ⟨n1, e1⟩
    · cases hs
    rw [List.getElem?_set_ne n1] at q
    exact k.new a d p e1 q
  · intro a d e
    rcases get_set e with ⟨rfl, hl, rfl⟩ | ⟨n1, e1⟩
    · obtain ⟨u, rfl, r⟩ := hv d rfl
      exact ⟨u, by rw [List.getElem?_set_self (by rw [k.len]; exact hl)], r.mv m⟩
    · rw [List.getElem?_set_ne n1]
      obtain ⟨u, e2, r⟩ := k.sh a d e1
      exact ⟨u, e2, r.mv m⟩
  · intro a d e
    rcases get_set e with ⟨rfl, hl, rfl⟩ | ⟨n1, e1⟩
    · cases hs
    · rw [List.getElem?_set_ne n1]
      obtain ⟨u, e2, r⟩ := k.ow a d e1
      exact ⟨u, e2, r.mv m rfl⟩
  · intro a d e
    rcases get_set e with ⟨rfl, hl, rfl⟩ | ⟨n1, e1⟩
    · cases hs
    · rw [List.getElem?_set_ne n1]
      obtain ⟨u, e2, r⟩ := k.io a d e1
      exact ⟨u, e2, r.mv m rfl⟩
  · intro a p h
    obtain ⟨e1, d, e2⟩ := k.ioA a p h
    have n : i ≠ a := fun z => by subst z; exact hio d e2
    rw [List.getElem?_set_ne n, List.getElem?_set_ne n]
    exact ⟨e1, d, e2⟩
  · intro a d e
    rcases get_set e with ⟨rfl, hl, rfl⟩ | ⟨n1, e1⟩
    · cases hs
    · exact k.ioB a d e1
/-- a slot gets a fresh object -/
theorem Ok.putOw {i : Nat} {p : Addr} {d : D} (k : Ok G (C.add p) H σ ε) (hn : C.H0 p = none) (np : ¬C.F σ ε p) (t : Top G H ((C.add p).F σ ε) p d) (hi : i < ε.length) (hio : ∀ d, ε[i]? ≠ some (.io d)) :
    Ok G C H (σ.set i (some (.ref p))) (ε.set i (.ow d)) ∧ ∀ b, own (σ.set i (some (.ref p))) (ε.set i (.ow d)) b → own σ ε b ∨ b = p := by
  have o : ∀ b, own (σ.set i (some (.ref p))) (ε.set i (.ow d)) b → own σ ε b ∨ b = p := fun b z => by
    rcases own_set z with ⟨_, e⟩ | ⟨j, t, _, a, b, c⟩
    · cases e; exact .inr rfl
    · exact .inl ⟨j, t, a, b, c⟩
  have m : Mv H H ((C.add p).F σ ε) (C.F (σ.set i (some (.ref p))) (ε.set i (.ow d))) := Mv.less fun b z => z.elim (fun z => .inl (.inl z)) fun z => (o b z).elim .inr fun e => .inl (.inr e)
  refine ⟨⟨by simp [k.len], k.kept, ?_, ?_, ?_, fun q z => k.f0 q (.inl z), ?_, ?_, ?_, ?_, ?_, k.tb, k.h0⟩, o⟩
  · intro a b s1 t1 q e1 m1 e2 m2 q1 q2
    rcases get_set e1 with ⟨rfl, _, rfl⟩ | ⟨n1, e1⟩
    · rcases get_set e2 with ⟨rfl, _, rfl⟩ | ⟨n2, e2⟩
      · rfl
      · rw [List.getElem?_set_self (by rw [k.len]; exact hi)] at q1
        rw [List.getElem?_set_ne n2] at q2
        cases q1
        exact absurd (.inr ⟨b, t1, e2, m2, q2⟩) np
    · rw [List.getElem?_set_ne n1] at q1
      rcases get_set e2 with ⟨rfl, _, rfl⟩ | ⟨n2, e2⟩
      · rw [List.getElem?_set_self (by rw [k.len]; exact hi)] at q2
        cases q2
        exact absurd (.inr ⟨a, s1, e1, m1, q1⟩) np
      · rw [List.getElem?_set_ne n2] at q2
        exact k.inj a b s1 t1 q e1 m1 e2 m2 q1 q2
  · intro a d' q e q1
    rcases get_set e with ⟨rfl, hl, e'⟩ | ⟨n1, e1⟩
    · rw [List.getElem?_set_self (by rw [k.len]; exact hi)] at q1
      cases q1; exact hn
    · rw [List.getElem?_set_ne n1] at q1
      exact k.new a d' q e1 q1
  · intro q z w
    rcases o q z with z | rfl
    · exact k.nf q z (.inl w)
    · exact np (.inl w)
  · intro a d' e
    rcases get_set e with ⟨rfl, hl, e'⟩ | ⟨n1, e1⟩
    · cases e'
    · rw [List.getElem?_set_ne n1]
      obtain ⟨u, e2, r⟩ := k.sh a d' e1
      exact ⟨u, e2, r.mv m⟩
  · intro a d' e
    rcases get_set e with ⟨rfl, hl, e'⟩ | ⟨n1, e1⟩
    · cases e'
      exact ⟨p, by rw [List.getElem?_set_self (by rw [k.len]; exact hi)], t.mv m rfl⟩
    · rw [List.getElem?_set_ne n1]
      obtain ⟨u, e2, r⟩ := k.ow a d' e1
      exact ⟨u, e2, r.mv m rfl⟩
  · intro a d' e
    rcases get_set e with ⟨rfl, hl, e'⟩ | ⟨n1, e1⟩
    · cases e'
    · rw [List.getElem?_set_ne n1]
      obtain ⟨u, e2, r⟩ := k.io a d' e1
      exact ⟨u, e2, r.mv m rfl⟩
  · intro a q h
    obtain ⟨e1, d', e2⟩ := k.ioA a q h
    have n : i ≠ a := fun z => by subst z; exact hio d' e2
    rw [List.getElem?_set_ne n, List.getElem?_set_ne n]
    exact ⟨e1, d', e2⟩
  · intro a d' e
    rcases get_set e with ⟨rfl, hl, e'⟩ | ⟨n1, e1⟩
    · cases e'
    · exact k.ioB a d' e1
theorem set_self {α : Type} {l : List α} {i : Nat} {a : α} (h : l[i]? = some a) : l.set i a = l := by
  apply List.ext_getElem?
  intro j
  by_cases c : i = j
  · subst c
    rw [List.getElem?_set_self (List.getElem?_eq_some_iff.mp h).1, h]
  · rw [List.getElem?_set_ne c]
/-- an owned object is given away -/
theorem Ok.share (k : Ok G C H σ ε) {j : Nat} {d : D} {v : V} (e : ε[j]? = some (.ow d)) (ev : σ[j]? = some (some v)) :
    Ok G C H σ (ε.set j (.sh d)) ∧ Rp G H (C.F σ (ε.set j (.sh d))) v d ∧ ∀ b, own σ (ε.set j (.sh d)) b → own σ ε b := by
  obtain ⟨p, e1, t⟩ := k.ow j d e
  rw [ev] at e1; cases e1
  have hl : j < ε.length := (List.getElem?_eq_some_iff.mp e).1
  have o : ∀ b, own σ (ε.set j (.sh d)) b → own σ ε b := fun b z => own_set' (i := j) (v := some (.ref p)) (s := .sh d) rfl (by rw [set_self ev]; exact z)
  have np : ¬C.F σ (ε.set j (.sh d)) p := by
    rintro (z | ⟨a, s, e2, m2, e3⟩)
    · exact k.nf p ⟨j, _, e, rfl, ev⟩ z
    · rcases get_set e2 with ⟨rfl, _, rfl⟩ | ⟨n, e2⟩
      · cases m2
      · exact n (k.inj j a _ _ p e rfl e2 m2 ev e3)
  have r : Rp G H (C.F σ (ε.set j (.sh d))) (.ref p) d := t.rp (fun b z => z.imp id (o b)) np
  have m : Mv H H (C.F σ ε) (C.F σ (ε.set j (.sh d))) := Mv.less fun b z => z.imp id (o b)
  refine ⟨⟨by simp [k.len], k.kept, ?_, ?_, fun q z => k.nf q (o q z), k.f0, ?_, ?_, ?_, ?_, ?_, k.tb, k.h0⟩, r, o⟩
  · intro a b s1 t1 q e1 m1 e2 m2 q1 q2
    rcases get_set e1 with ⟨rfl, _, rfl⟩ | ⟨n1, e1⟩
    · cases m1
    rcases get_set e2 with ⟨rfl, _, rfl⟩ | ⟨n2, e2⟩
    · cases m2
    exact k.inj a b s1 t1 q e1 m1 e2 m2 q1 q2
  · intro a d' q e1 q1
    rcases get_set e1 with ⟨rfl, _, e'⟩ | ⟨n1, e1⟩
    · cases e'
    exact k.new a d' q e1 q1
  · intro a d' e1
    rcases get_set e1 with ⟨rfl, _, e'⟩ | ⟨n1, e1⟩
    · cases e'; exact ⟨_, ev, r⟩
    · obtain ⟨u, e2, r⟩ := k.sh a d' e1
      exact ⟨u, e2, r.mv m⟩
  · intro a d' e1
    rcases get_set e1 with ⟨rfl, _, e'⟩ | ⟨n1, e1⟩
    · cases e'
    · obtain ⟨u, e2, r⟩ := k.ow a d' e1
      exact ⟨u, e2, r.mv m rfl⟩
  · intro a d' e1
    rcases get_set e1 with ⟨rfl, _, e'⟩ | ⟨n1, e1⟩
    · cases e'
    · obtain ⟨u, e2, r⟩ := k.io a d' e1
      exact ⟨u, e2, r.mv m rfl⟩
  · intro a q h
    obtain ⟨e1, d', e2⟩ := k.ioA a q h
    have n : j ≠ a := fun z => by subst z; rw [e] at e2; cases e2
    rw [List.getElem?_set_ne n]
    exact ⟨e1, d', e2⟩
  · intro a d' e1
    rcases get_set e1 with ⟨rfl, _, e'⟩ | ⟨n1, e1⟩
    · cases e'
    · exact k.ioB a d' e1
def setV (ε : Ev) (i : Nat) (fv : Fv) : Option Ev :=
  match fv with
  | .sh d => some (ε.set i (.sh d))
  | .fr d => some (ε.set i (.ow d))
  | .at j => match ε[j]? with
    | some (.sh d) => some (ε.set i (.sh d))
    | some (.ow d) => some ((ε.set j (.sh d)).set i (.sh d))
    | _ => none
def setS (ε : Ev) (i : Nat) (fv : Fv) : Option Ev :=
  match ε[i]? with
  | none => none
  | some (.io _) => none
  | some _ => setV ε i fv
theorem setS_ok {i : Nat} {fv : Fv} {ε' : Ev} (h : setS ε i fv = some ε') : i < ε.length ∧ ∀ d, ε[i]? ≠ some (.io d) := by
  unfold setS at h
  cases q : ε[i]? with
  | none => rw [q] at h; cases h
  | some s =>
    refine ⟨(List.getElem?_eq_some_iff.mp q).1, fun d z => ?_⟩
    cases z
    rw [q] at h; cases h
theorem setS_eq {i : Nat} {fv : Fv} {ε' : Ev} (h : setS ε i fv = some ε') : setV ε i fv = some ε' := by
  unfold setS at h
  cases q : ε[i]? with
  | none => rw [q] at h; cases h
  | some s =>
    rw [q] at h
    cases s with
    | io d => cases h
    | no => exact h
    | sh d => exact h
    | ow d => exact h
theorem setS_sound {Hs : Hp} {i : Nat} {fv : Fv} {v : V} {ε' : Ev} (k : Ok G C H σ ε) (vr : VR G C Hs H σ ε v fv) (h : setS ε i fv = some ε') (hh : ∀ p, Hs p = none → C.H0 p = none) :
    Ok G C H (σ.set i (some v)) ε' ∧ ∀ b, own (σ.set i (some v)) ε' b → own σ ε b ∨ Hs b = none := by
  obtain ⟨hi, hio⟩ := setS_ok h
  have h := setS_eq h
  cases fv with
  | sh d =>
    cases h
    exact ⟨k.put rfl hio (fun d' e => by cases e; exact ⟨v, rfl, vr⟩), fun b z => .inl (own_set' rfl z)⟩
  | fr d =>
    cases h
    obtain ⟨p, rfl, n, np, kp, t⟩ := vr
    obtain ⟨k2, o⟩ := Ok.putOw kp (hh p n) np t hi hio
    exact ⟨k2, fun b z => (o b z).imp id (fun (e : b = p) => by rw [e]; exact n)⟩
  | «at» j =>
    have ev : σ[j]? = some (some v) := vr
    unfold setV at h
    dsimp only at h
    cases q : ε[j]? with
    | none => rw [q] at h; cases h
    | some s =>
      rw [q] at h
      cases s with
      | no => cases h
      | io d => cases h
      | sh d =>
        cases h
        obtain ⟨u, e1, r⟩ := k.sh j d q
        rw [ev] at e1; cases e1
        exact ⟨k.put rfl hio (fun d' e => by cases e; exact ⟨v, rfl, r⟩), fun b z => .inl (own_set' rfl z)⟩
      | ow d =>
        cases h
        obtain ⟨k1, r, o⟩ := k.share q ev
        refine ⟨k1.put rfl (fun d' e => ?_) (fun d' e => by cases e; exact ⟨v, rfl, r⟩), fun b z => .inl (o b (own_set' rfl z))⟩
        rcases get_set e with ⟨_, _, e'⟩ | ⟨_, e'⟩
        · cases e'
        · exact hio d' e'
/-! ### small statements -/
def sDSet (i : Nat) (de : Dn Fv) : Dn Fl := fun ε => (de ε).bind fun fv ε1 => match setS ε1 i fv with
  | some ε2 => .ok .nx ε2
  | none => .no
theorem sSet {i : Nat} {x : Str} {e : Expr} {de : Dn Fv} {pos pos' : Pos} (hN : X.N.Nodup) (hi : X.N[i]? = some x) (hx : Loc X.env.scope x) (he : PEp G X W e de) (hs : swapsWith e (some (.Name x pos')) pos.line X.env = pure false := by rfl)
    (hf : X.fn x = true ∨ X.env.scope.names.lookup x = some .local := by first | exact .inl rfl | exact .inr rfl | assumption) : PSp G X W (.Assign [.Name x pos'] e pos) (sDSet i de) := by
  refine PS.imp (ps_set hN hi hx he hs hf) ?_
  rintro E σ H ⟨C, ε, ok, post⟩
  refine wE_bind (P := PostS G W C σ ε H E) ok post (fun _ _ h => PostS.px h) id fun fv ε1 v H1 st1 ok1 vr p => ?_
  cases q : setS ε1 i fv with
  | none => rw [q] at p; exact p.elim
  | some ε2 =>
    rw [q] at p
    obtain ⟨k, o⟩ := setS_sound ok1 vr q ok.h0
    exact p _ H1 ⟨st1.keep, fun b z => (o b z).elim (st1.own b) .inr, st1.al⟩ k
def sDX (de : Dn Fv) : Dn Fl := fun ε => (de ε).bind fun _ ε1 => .ok .nx ε1
theorem sX {e : Expr} {de : Dn Fv} {pos : Pos} (he : PEp G X W e de) (hs : swapsWith e none pos.line X.env = pure false := by rfl) : PSp G X W (.Expr e pos) (sDX de) := by
  refine PS.imp (ps_expr he hs) ?_
  rintro E σ H ⟨C, ε, ok, post⟩
  exact wE_bind (P := PostS G W C σ ε H E) ok post (fun _ _ h => PostS.px h) id fun fv ε1 v H1 st1 ok1 vr p => p σ H1 st1 ok1
def retF (ε : Ev) (fv : Fv) : Re Fl := match fv with
  | .at j => match ε[j]? with
    | some (.sh d) => .ok (.rt (.sh d)) ε
    | some (.ow d) => .ok (.rt (.fr d)) (ε.set j .no)
    | _ => .no
  | x => .ok (.rt x) ε
def sDR (de : Dn Fv) : Dn Fl := fun ε => (de ε).bind fun fv ε1 => retF ε1 fv
/-- an owned object leaves its slot -/
theorem Ok.leave (k : Ok G C H σ ε) {j : Nat} {d : D} {v : V} (e : ε[j]? = some (.ow d)) (ev : σ[j]? = some (some v)) : VR G C C.H0 H σ (ε.set j .no) v (.fr d) := by
  obtain ⟨p, e1, t⟩ := k.ow j d e
  rw [ev] at e1; cases e1
  have o : ∀ b, own σ (ε.set j .no) b → own σ ε b := fun b z => own_set' (i := j) (v := some (.ref p)) (s := .no) rfl (by rw [set_self ev]; exact z)
  have np : ¬C.F σ (ε.set j .no) p := by
    rintro (z | ⟨a, s, e2, m2, e3⟩)
    · exact k.nf p ⟨j, _, e, rfl, ev⟩ z
    · rcases get_set e2 with ⟨rfl, _, rfl⟩ | ⟨n, e2⟩
      · cases m2
      · exact n (k.inj j a _ _ p e rfl e2 m2 ev e3)
  have inc : ∀ b, (C.add p).F σ (ε.set j .no) b → C.F σ ε b := fun b z => z.elim (fun z => z.elim .inl fun e' => .inr (by rw [show b = p from e']; exact ⟨j, _, e, rfl, ev⟩)) fun z => .inr (o b z)
  have m : Mv H H (C.F σ ε) ((C.add p).F σ (ε.set j .no)) := Mv.less inc
  have k0 : Ok G C H σ (ε.set j .no) := by
    have := k.put (i := j) (v := some (.ref p)) (s := .no) rfl (fun d' z => by rw [e] at z; cases z) (fun d' z => by cases z)
    rwa [set_self ev] at this
  refine ⟨p, rfl, k.new j d p e ev, np, ⟨k0.len, k0.kept, k0.inj, k0.new, fun q z w => ?_, fun q z => ?_, ?_, ?_, ?_, k0.ioA, k0.ioB, k0.tb, k0.h0⟩, t.mv m rfl⟩
  · rcases w with w | w
    · exact k0.nf q z w
    · exact np (.inr ((show q = p from w) ▸ z))
  · rcases z with z | z
    · exact k.f0 q z
    · intro w
      obtain ⟨o', eo⟩ := t.some
      rw [show q = p from z, eo] at w
      cases w
  · intro a d' e1
    rcases get_set e1 with ⟨rfl, _, e'⟩ | ⟨n1, e1⟩
    · cases e'
    · obtain ⟨u, e2, r⟩ := k.sh a d' e1
      exact ⟨u, e2, r.mv m⟩
  · intro a d' e1
    rcases get_set e1 with ⟨rfl, _, e'⟩ | ⟨n1, e1⟩
    · cases e'
    · obtain ⟨u, e2, r⟩ := k.ow a d' e1
      exact ⟨u, e2, r.mv m rfl⟩
  · intro a d' e1
    rcases get_set e1 with ⟨rfl, _, e'⟩ | ⟨n1, e1⟩
    · cases e'
    · obtain ⟨u, e2, r⟩ := k.io a d' e1
      exact ⟨u, e2, r.mv m rfl⟩
theorem sR {e : Expr} {de : Dn Fv} {pos : Pos} (he : PEp G X W e de) : PSp G X W (.Return (some e) pos) (sDR de) := by
  refine PS.imp (ps_ret he) ?_
  rintro E σ H ⟨C, ε, ok, post⟩
  refine wE_bind (P := PostS G W C σ ε H E) ok post (fun _ _ h => PostS.px h) id fun fv ε1 v H1 st1 ok1 vr p => ?_
  cases fv with
  | sh d => exact p σ v H1 st1 ok1 vr
  | fr d =>
    obtain ⟨q, e1, n, r⟩ := vr
    exact p σ v H1 st1 ok1 ⟨q, e1, ok.h0 q n, r⟩
  | «at» j =>
    have ev : σ[j]? = some (some v) := vr
    unfold retF at p
    dsimp only at p
    cases q : ε1[j]? with
    | none => rw [q] at p; exact p.elim
    | some s =>
      rw [q] at p
      cases s with
      | no => exact p.elim
      | io d => exact p.elim
      | sh d =>
        obtain ⟨u, e1, r⟩ := ok1.sh j d q
        rw [ev] at e1; cases e1
        exact p σ v H1 st1 ok1 r
      | ow d =>
        have l := ok1.leave q ev
        refine p σ v H1 ⟨st1.keep, fun b z => st1.own b ?_, st1.al⟩ ?_ l
        · exact own_set' (i := j) (v := some v) (s := .no) rfl (by rw [set_self ev]; exact z)
        · obtain ⟨_, _, _, _, k, _⟩ := l
          exact k.unadd
def sDRN : Dn Fl := fun ε => .ok (.rt (.sh .non)) ε
def bDN : Dn Fl := fun ε => .ok .nx ε
theorem bNil : PBp G X W [] bDN := PSs.imp pss_nil fun E σ H ⟨C, ε, ok, post⟩ => post σ H Stp.refl ok
theorem bOne {s : Stmt} {d : Dn Fl} (h : PSp G X W s d) : PBp G X W [s] d := pss_one h
def thenF (k : Dn Fl) (fl : Fl) (ε : Ev) : Re Fl := match fl with
  | .nx => k ε
  | x => .ok x ε
def bDC (a b : Dn Fl) : Dn Fl := fun ε => (a ε).bind (thenF b)
theorem bCons {s : Stmt} {ss : List Stmt} {a b : Dn Fl} (h1 : PSp G X W s a) (h2 : PBp G X W ss b) : PBp G X W (s :: ss) (bDC a b) := by
  refine PSs.imp (pss_cons h1 h2) ?_
  rintro E σ H ⟨C, ε, ok, post⟩
  refine ⟨C, ε, ok, ?_⟩
  unfold bDC at post
  cases e : a ε with
  | no => rw [e] at post; exact post.elim
  | exc x ε' => rw [e] at post; exact post
  | ok fl ε1 =>
    rw [e] at post
    cases fl with
    | nx => exact fun σ' H' st k => ⟨C, ε1, k, PostS.from st post⟩
    | bk => exact post
    | ct => exact post
    | rt v => exact post
def sDIf (c : Dn Bool) (a b : Dn Fl) : Dn Fl := fun ε => (c ε).bind fun t ε1 => if t = true then a ε1 else b ε1
theorem sIf {c : Expr} {a b : List Stmt} {dc : Dn Bool} {da db : Dn Fl} {pos : Pos} (hc : PTp G X W c dc) (ha : PBp G X W a da) (hb : PBp G X W b db) : PSp G X W (.If c a b pos) (sDIf dc da db) := by
  refine PS.imp (ps_if hc ha hb) ?_
  rintro E σ H ⟨C, ε, ok, post⟩
  refine wT_bind (P := PostS G W C σ ε H E) ok post (fun _ _ h => PostS.px h) id fun t ε1 H1 st1 ok1 p => ?_
  cases t with
  | true => exact ⟨C, ε1, ok1, PostS.from st1 p⟩
  | false => exact ⟨C, ε1, ok1, PostS.from st1 p⟩
/-! ### while -/
def loopF (k : Dn Fl) (fl : Fl) (ε : Ev) : Re Fl := match fl with
  | .nx => k ε
  | .ct => k ε
  | .bk => .ok .nx ε
  | .rt v => .ok (.rt v) ε
/-! ### targets -/
abbrev Tg := D → Ev → Option Ev
def Off (vs : List Nat) (σ σ' : L2.St) : Prop := σ'.length = σ.length ∧ ∀ j, j ∉ vs → σ'[j]? = σ[j]?
def wG (G : Gx) (vs : List Nat) (g : Tg) : TG := fun v σ H Q => ∃ C ε d ε', Ok G C H σ ε ∧ Rp G H (C.F σ ε) v d ∧ g d ε = some ε' ∧ ∀ σ' H', Off vs σ σ' → Stp σ ε σ' ε' H H' → Ok G C H' σ' ε' → Q σ' H'
abbrev PGp (G : Gx) (X : Cx) (t : Expr) (vs : List Nat) (g : Tg) : Prop := PG X t (wG G vs g)
theorem PG.imp {e : Expr} {t t' : TG} (h : PG X e t) (k : ∀ v σ H Q, t' v σ H Q → t v σ H Q) : PG X e t' := ⟨fun pins s σ H v u Q I r z => h.run pins s σ H v u Q I r (k v σ H Q z)⟩
theorem PGs.imp {es : List Expr} {t t' : TGs} (h : PGs X es t) (k : ∀ v σ H Q, t' v σ H Q → t v σ H Q) : PGs X es t' := ⟨fun pins s σ H v u Q I r z => h.run pins s σ H v u Q I r (k v σ H Q z)⟩
def tgN (i : Nat) : Tg := fun d ε => setS ε i (.sh d)
theorem gN {i : Nat} {x : Str} {pos : Pos} (hN : X.N.Nodup) (hi : X.N[i]? = some x) (hx : Loc X.env.scope x) (hf : X.fn x = true ∨ X.env.scope.names.lookup x = some .local := by first | exact .inl rfl | exact .inr rfl | assumption) : PGp G X (.Name x pos) [i] (tgN i) := by
  refine PG.imp (pg_name hN hi hx hf) ?_
  rintro v σ H Q ⟨C, ε, d, ε', ok, r, e, q⟩
  obtain ⟨k, o⟩ := setS_sound (Hs := H) (fv := .sh d) ok r e ok.h0
  exact q _ H ⟨by simp, fun j hj => by rw [List.getElem?_set_ne (fun z => hj (by simp [z]))]⟩ ⟨fun _ _ e _ _ => e, o, fun _ e => e⟩ k
def wGs (G : Gx) (is : List Nat) (g : List D → Ev → Option Ev) : TGs := fun vs σ H Q => ∃ C ε ds ε', Ok G C H σ ε ∧ RpAll G H (C.F σ ε) vs ds ∧ g ds ε = some ε' ∧ ∀ σ' H', Off is σ σ' → Stp σ ε σ' ε' H H' → Ok G C H' σ' ε' → Q σ' H'
abbrev PGsp (G : Gx) (X : Cx) (t : List Expr) (is : List Nat) (g : List D → Ev → Option Ev) : Prop := PGs X t (wGs G is g)
def tgsN : List D → Ev → Option Ev := fun ds ε => match ds with
  | [] => some ε
  | _ => none
def tgsC (g : Tg) (gs : List D → Ev → Option Ev) : List D → Ev → Option Ev := fun ds ε => match ds with
  | d :: ds => (g d ε).bind (gs ds)
  | [] => none
theorem gNil : PGsp G X [] [] tgsN := by
  refine PGs.imp pgs_nil ?_
  rintro v σ H Q ⟨C, ε, ds, ε', ok, r, e, q⟩
  cases r with
  | nil => cases e; exact ⟨rfl, q σ H ⟨rfl, fun _ _ => rfl⟩ Stp.refl ok⟩
  | cons a b => cases e
theorem gCons {e : Expr} {es : List Expr} {g : Tg} {gs : List D → Ev → Option Ev} {is js : List Nat} (h1 : PGp G X e is g) (h2 : PGsp G X es js gs)
    (hs : (assignEach (e :: es) X.env).map (·.2) = assign e X.env :: (assignEach es X.env).map (·.2) := by rfl) : PGsp G X (e :: es) (is ++ js) (tgsC g gs) := by
  refine PGs.imp (pgs_cons h1 h2 hs) ?_
  rintro v σ H Q ⟨C, ε, ds, ε', ok, r, e, q⟩
  cases r with
  | nil => cases e
  | @cons v vs d ds a b =>
    cases e1 : g d ε with
    | none => rw [tgsC, e1] at e; cases e
    | some ε1 =>
      rw [tgsC, e1] at e
      refine ⟨v, vs, rfl, C, ε, d, ε1, ok, a, e1, fun σ1 H1 o1 st1 k1 => ⟨C, ε1, ds, ε', k1, b.mv st1.mv, e, fun σ' H' o2 st k => q σ' H' ⟨o2.1.trans o1.1, fun j hj => (o2.2 j fun z => hj (List.mem_append_right _ z)).trans (o1.2 j fun z => hj (List.mem_append_left _ z))⟩ (st1.trans st) k⟩⟩
def tgT (n : Nat) (gs : List D → Ev → Option Ev) : Tg := fun d ε => match d with
  | .tup ds => if ds.length = n then gs ds ε else none
  | _ => none
theorem gT {es : List Expr} {k n : Nat} {gs : List D → Ev → Option Ev} {is : List Nat} {pos : Pos} (hK : X.K = G.K) (hc : X.calm = true) (h : PGsp G X es is gs)
    (hn : (assignEach es X.env).length = n := by rfl) (hst : (assignEach es X.env).findIdx? (·.1) = none := by rfl) : PGp G X (.Tuple es k pos) is (tgT n gs) := by
  refine PG.imp (pgK_tup hK hc h hn hst) ?_
  rintro v σ H Q ⟨C, ε, d, ε', ok, r, e, q⟩
  cases r with
  | @tup a vs ds s r =>
    simp only [tgT] at e
    split at e
    · rename_i hl
      exact ⟨a, vs, rfl, s.sq, by rw [r.length, hl], C, ε, ds, ε', ok, r, e, q⟩
    · cases e
  | _ => cases e
def sDAsg (de : Dn Fv) (g : Tg) : Dn Fl := fun ε => (de ε).bind fun fv ε1 => match fv with
  | .sh d => match g d ε1 with
    | some ε2 => .ok .nx ε2
    | none => .no
  | .fr d => match g d ε1 with
    | some ε2 => .ok .nx ε2
    | none => .no
  | .at j => match ε1[j]? with
    | some (.sh d) => match g d ε1 with
      | some ε2 => .ok .nx ε2
      | none => .no
    | _ => .no
/-! ### for -/
def Ylds (G : Gx) (H : Hp) (F : Addr → Prop) (J : It) (ds : List D) : Prop := ∀ (i : Nat) (H1 : Hp) (F1 : Addr → Prop), Mv H H1 F F1 → FOld H1 F1 →
  (∀ d, ds[i]? = some d → J.go i H1 ∧ ∀ x H2, J.yld i H1 x H2 → (∀ b o, H1 b = some o → H2 b = some o) ∧ Rp G H2 F1 x d) ∧ (i = ds.length → J.stop i H1)
def PostI (G : Gx) (W : WX) (C : Fr) (σ : L2.St) (ε : Ev) (H : Hp) (R : It → Hp → Prop) : Re (List D) → Prop
  | .ok ds ε' => ∀ J H', Stp σ ε σ ε' H H' → Ok G C H' σ ε' → Ylds G H' (C.F σ ε') J ds → R J H'
  | .exc x ε' => PX G W C σ ε H x ε'
  | .no => False
def wI (G : Gx) (W : WX) (den : Dn (List D)) : TI := fun σ H R => ∃ C ε, Ok G C H σ ε ∧ PostI G W C σ ε H R (den ε)
abbrev PIp (G : Gx) (X : Cx) (W : WX) (tg iter : Expr) (den : Dn (List D)) : Prop := PI X tg iter (wI G W den)
theorem PI.imp {tg e : Expr} {t t' : TI} (h : PI X tg e t) (k : ∀ σ H Q, t' σ H Q → t σ H Q) : PI X tg e t' := ⟨fun pins s σ H Q I z => h.run pins s σ H Q I (k σ H Q z)⟩
theorem wI_bind {γ : Type} {P : Re γ → Prop} {da : Dn (List D)} {k : List D → Ev → Re γ} {R : It → Hp → Prop} (ok : Ok G C H σ ε) (hP : P ((da ε).bind k)) (hx : ∀ x ε', P (.exc x ε') → PX G W C σ ε H x ε') (hn : ¬P .no)
    (hk : ∀ ds ε1 J H1, Stp σ ε σ ε1 H H1 → Ok G C H1 σ ε1 → Ylds G H1 (C.F σ ε1) J ds → P (k ds ε1) → R J H1) : wI G W da σ H R := by
  refine ⟨C, ε, ok, ?_⟩
  cases e : da ε with
  | ok fv ε1 => rw [e] at hP; exact fun v H1 st ok1 vr => hk fv ε1 v H1 st ok1 vr hP
  | exc x ε' => rw [e] at hP; exact hx x ε' hP
  | no => rw [e] at hP; exact hn hP
def forD (g : Tg) (b : Dn Fl) : List D → Dn Fl
  | [] => fun ε => .ok .nx ε
  | d :: ds => fun ε => match g d ε with
    | some ε1 => (b ε1).bind (loopF (forD g b ds))
    | none => .no
def sDF (di : Dn (List D)) (g : Tg) (b : Dn Fl) : Dn Fl := fun ε => (di ε).bind fun ds ε1 => forD g b ds ε1
theorem sFor {tg iter : Expr} {body : List Stmt} {di : Dn (List D)} {g : Tg} {is : List Nat} {db : Dn Fl} {pos : Pos} (hp : PassesOwn (model X.prog X.w) X.A X.env X.xe) (hc : X.calm = true) (hi : PIp G X W tg iter di) (hg : PGp G X tg is g) (hb : PBp G X W body db)
    (hs : ∀ x, foldedSetIterable iter X.env x = pure x := by intro _; rfl) : PSp G X W (.For tg iter body [] pos) (sDF di g db) := by
  refine PS.imp (ps_for hp hc hi hg hb hs) ?_
  rintro E σ H ⟨C, ε, ok, post⟩
  refine wI_bind (P := PostS G W C σ ε H E) ok post (fun _ _ h => PostS.px h) id fun ds ε1 J H1 st1 ok1 yl p1 => ?_
  have p1 := PostS.from st1 p1
  refine ⟨fun i m σ' H' => ∃ ε', Ok G C H' σ' ε' ∧ (Mv H1 H' (C.F σ ε1) (C.F σ' ε') ∧ ∀ b, H' b = none → H1 b = none) ∧ i ≤ ds.length ∧ m = ds.length - i ∧ PostS G W C σ' ε' H' E (forD g db (ds.drop i) ε'), ⟨ds.length, ε1, ok1, ⟨Mv.refl, fun _ e => e⟩, Nat.zero_le _, rfl, p1⟩, ?_⟩
  rintro i m σ2 H2 ⟨ε2, ok2, ⟨mv2, al2⟩, hi2, rfl, p2⟩
  obtain ⟨y1, y2⟩ := yl i H2 _ mv2 ok2.fold
  by_cases c : i = ds.length
  · subst c
    rw [List.drop_length] at p2
    exact .inl ⟨y2 rfl, p2 σ2 H2 Stp.refl ok2⟩
  · have hlt : i < ds.length := by omega
    obtain ⟨go, yld⟩ := y1 ds[i] (List.getElem?_eq_getElem hlt)
    rw [List.drop_eq_getElem_cons hlt] at p2
    unfold forD at p2
    cases e1 : g ds[i] ε2 with
    | none => rw [e1] at p2; exact p2.elim
    | some ε3 =>
      rw [e1] at p2
      dsimp only at p2
      refine .inr ⟨go, fun σ' H' => ∃ ε', Ok G C H' σ' ε' ∧ (Mv H1 H' (C.F σ ε1) (C.F σ' ε') ∧ ∀ b, H' b = none → H1 b = none) ∧ PostS G W C σ' ε' H' E (forD g db (ds.drop (i + 1)) ε'), fun σ' H' ⟨ε', a, b, c⟩ => ⟨ds.length - (i + 1), by omega, ε', a, b, by omega, rfl, c⟩, fun x H3 hy => ?_⟩
      obtain ⟨gr, rx⟩ := yld x H3 hy
      have st3 : Stp σ2 ε2 σ2 ε2 H2 H3 := Stp.grow gr
      have mv3 : Mv H1 H3 (C.F σ ε1) (C.F σ2 ε2) := ⟨fun b o e n t => gr b o (mv2.keep b o e n t), mv2.frb⟩
      have p3 := PostS.from st3 p2
      have al3 : ∀ b, H3 b = none → H1 b = none := fun b e => al2 b (none_of_grow gr e)
      have tr : ∀ {σ' ε' H'}, Stp σ2 ε2 σ' ε' H3 H' → (Mv H1 H' (C.F σ ε1) (C.F σ' ε') ∧ ∀ b, H' b = none → H1 b = none) := fun {σ' ε' H'} st => by
        have m := st.mv (C := C)
        refine ⟨⟨fun b o e n t => m.keep b o (mv3.keep b o e n t) (mv3.nf e n) t, fun b z => ?_⟩, fun b e => al3 b (st.al b e)⟩
        rcases m.frb b z with z | z
        · exact mv3.frb b z
        · exact .inr (al3 b z)
      refine ⟨C, ε2, ds[i], ε3, ok2.grow gr, rx, e1, fun σ4 H4 _ st4 ok4 => ⟨C, ε3, ok4, ?_⟩⟩
      have p4 := PostS.from st4 p3
      cases e2 : db ε3 with
      | no => rw [e2] at p4; exact p4.elim
      | exc x ε' => rw [e2] at p4; exact p4
      | ok fl ε5 =>
        rw [e2] at p4
        cases fl with
        | nx => exact fun σ' H' st k => ⟨ε5, k, tr (st4.trans st), PostS.from st p4⟩
        | ct => exact fun σ' H' st k => ⟨ε5, k, tr (st4.trans st), PostS.from st p4⟩
        | bk => exact p4
        | rt v => exact p4
end
end PL
namespace PL
open PySem PySem.Spec PyProof.Rows L2 AB
open TL (tl)
theorem sz_le {n : Nat} (h : n ≤ 16000000) : n ≤ sizeLine := Nat.le_trans h sizeLine_big
section
variable {G : Gx} {X : Cx} {W : WX} {C : Fr} {σ : L2.St} {ε : Ev} {H : Hp} {F : Addr → Prop}
/-! ### truth -/
def tru : D → Option Bool
  | .non => some false
  | .bl b => some b
  | .int i => some (i != 0)
  | .str l => if l.length ≤ 16000000 then some (!l.isEmpty) else none
  | .lst ds => some (!ds.isEmpty)
  | .tup ds => some (!ds.isEmpty)
  | .dct es => some (!es.isEmpty)
  | _ => none
theorem RpAll.emp {vs : List V} {ds : List D} (h : RpAll G H F vs ds) : vs.isEmpty = ds.isEmpty := by cases h <;> rfl
theorem tru_sound {v : V} {d : D} {b : Bool} (r : Rt G H F v d) (h : tru d = some b) : TruV G.K v H b := by
  cases d with
  | non => cases r; cases h; rfl
  | bl c => cases r; cases h; rfl
  | int i => cases r; cases h; rfl
  | str l =>
    cases r
    simp only [tru] at h
    split at h
    · cases h
      refine ⟨by rw [sl_len]; exact sz_le (by assumption), ?_⟩
      rw [sl_len]
      cases l with
      | nil => rfl
      | cons c l => simp; omega
    · cases h
  | lst ds => obtain ⟨a, vs, rfl, s, r⟩ := r; cases h; exact .inl ⟨vs, SqL.of s, by rw [r.emp]⟩
  | tup ds =>
    cases r with
    | tup s r => cases h; exact .inr (.inl ⟨_, s.sq, by rw [r.emp]⟩)
  | dct es =>
    obtain ⟨a, kvs, rfl, e, k, r⟩ := r; cases h
    refine .inr (.inr ⟨kvs, e, ?_⟩)
    cases kvs <;> cases es <;> first | rfl | (simp at k)
  | _ => cases h
def trF (fv : Fv) (ε : Ev) : Re Bool := match rd ε fv with
  | some d => match tru d with
    | some b => .ok b ε
    | none => .no
  | none => .no
def tDV (de : Dn Fv) : Dn Bool := fun ε => (de ε).bind fun fv ε1 => trF fv.old ε1
theorem trF_sound {v : V} {fv : Fv} (k : Ok G C H σ ε) {Hs : Hp} (vr : VR G C Hs H σ ε v fv) {b : Bool} {ε' : Ev} (h : trF fv.old ε = .ok b ε') : ε' = ε ∧ TruV G.K v H b := by
  unfold trF at h
  cases e1 : rd ε fv.old with
  | none => rw [e1] at h; cases h
  | some d =>
    rw [e1] at h
    dsimp only at h
    cases e2 : tru d with
    | none => rw [e2] at h; cases h
    | some c =>
      rw [e2] at h
      cases h
      have rt := (vr.old .nil).rt k (ds := [d]) (by simp [rds, e1])
      cases rt with
      | cons r _ => exact ⟨rfl, tru_sound r e2⟩
theorem tV {e : Expr} {de : Dn Fv} (hK : X.K = G.K) (he : PEp G X W e de) (hi : ∀ whole, isTrue e X.env whole = (do let v ← whole; standAt e.pos; holding [v] (truthy v)) := by intro _; rfl) : PTp G X W e (tDV de) := by
  refine PT.imp (pt_truth he hi) ?_
  rintro σ H Q ⟨C, ε, ok, post⟩
  refine wE_bind (P := PostT G W C σ ε H Q) ok post (fun _ _ h => h) id fun fv ε1 v H1 st1 ok1 vr p => ?_
  cases q : trF fv.old ε1 with
  | no => rw [q] at p; exact p.elim
  | exc x ε' =>
    unfold trF at q
    split at q
    · split at q <;> cases q
    · cases q
  | ok b ε' =>
    rw [q] at p
    obtain ⟨rfl, t⟩ := trF_sound ok1 vr q
    rw [hK]
    exact ⟨b, t, p H1 st1 ok1⟩
def bT (d : Dn Fv) : Dn Bool := fun ε => (d ε).bind fun fv ε1 => match fv with
  | .sh (.bl b) => .ok b ε1
  | _ => .no
theorem tB_of {e : Expr} {te : TE} {de : Dn Fv} (h : PT X e (tTest te)) (hw : ∀ σ H Q, wE G W de σ H Q → te σ H Q) : PTp G X W e (bT de) := by
  refine PT.imp h ?_
  rintro σ H Q ⟨C, ε, ok, post⟩
  refine hw σ H _ (wE_bind (P := PostT G W C σ ε H Q) ok post (fun _ _ h => h) id fun fv ε1 v H1 st1 ok1 vr p => ?_)
  cases fv with
  | sh d =>
    cases d with
    | bl b =>
      have r : Rp G H1 (C.F σ ε1) v (.bl b) := vr
      cases r
      exact ⟨b, rfl, p H1 st1 ok1⟩
    | _ => exact p.elim
  | _ => exact p.elim
def tDN (d : Dn Bool) : Dn Bool := fun ε => (d ε).bind fun b ε1 => .ok (!b) ε1
def tDA (a b : Dn Bool) : Dn Bool := fun ε => (a ε).bind fun c ε1 => if c = true then b ε1 else .ok false ε1
def tDO (a b : Dn Bool) : Dn Bool := fun ε => (a ε).bind fun c ε1 => if c = true then .ok true ε1 else b ε1
section
variable {a b : Expr} {rest : List Expr} {pos : Pos} {da db : Dn Bool}
theorem wA1 (ha : PTp G X W a da) : PWp G X W (.BoolOp .And [a] pos) da := pw_and1 ha
theorem wO1 (ha : PTp G X W a da) : PWp G X W (.BoolOp .Or [a] pos) da := pw_or1 ha
theorem wAn (ha : PTp G X W a da) (hb : PWp G X W (.BoolOp .And (b :: rest) pos) db) : PWp G X W (.BoolOp .And (a :: b :: rest) pos) (tDA da db) := by
  refine PW.imp (pw_and ha hb) ?_
  rintro σ H Q ⟨C, ε, ok, post⟩
  refine wT_bind (P := PostT G W C σ ε H Q) ok post (fun _ _ h => h) id fun c ε1 H1 st1 ok1 p => ?_
  cases c with
  | true => exact ⟨C, ε1, ok1, PostT.from st1 p⟩
  | false => exact p H1 st1 ok1
theorem wOn (ha : PTp G X W a da) (hb : PWp G X W (.BoolOp .Or (b :: rest) pos) db) : PWp G X W (.BoolOp .Or (a :: b :: rest) pos) (tDO da db) := by
  refine PW.imp (pw_or ha hb) ?_
  rintro σ H Q ⟨C, ε, ok, post⟩
  refine wT_bind (P := PostT G W C σ ε H Q) ok post (fun _ _ h => h) id fun c ε1 H1 st1 ok1 p => ?_
  cases c with
  | true => exact p H1 st1 ok1
  | false => exact ⟨C, ε1, ok1, PostT.from st1 p⟩
theorem tW {e : Expr} {d : Dn Bool} (h : PWp G X W e d) : PTp G X W e d := PW.pt h
end
/-! values: and, or, not, if -/
def eDA (a b : Dn Fv) : Dn Fv := fun ε => (a ε).bind fun x ε1 => (trF x.old ε1).bind fun c ε2 => if c = true then b ε2 else .ok x ε2
def eDO (a b : Dn Fv) : Dn Fv := fun ε => (a ε).bind fun x ε1 => (trF x.old ε1).bind fun c ε2 => if c = true then .ok x ε2 else b ε2
theorem trF_bind {γ : Type} {P : Re γ → Prop} {k : Bool → Ev → Re γ} {v : V} {fv : Fv} (ok : Ok G C H σ ε) {Hs : Hp} (vr : VR G C Hs H σ ε v fv) (h : P ((trF fv.old ε).bind k)) (hn : ¬P .no) : ∃ b, TruV G.K v H b ∧ P (k b ε) := by
  cases q : trF fv.old ε with
  | no => rw [q] at h; exact (hn h).elim
  | exc x ε' =>
    unfold trF at q
    split at q
    · split at q <;> cases q
    · cases q
  | ok b ε' =>
    rw [q] at h
    obtain ⟨rfl, t⟩ := trF_sound ok vr q
    exact ⟨b, t, h⟩
section
variable {a b c : Expr} {rest : List Expr} {pos : Pos} {da db : Dn Fv} {dc : Dn Bool}
theorem eOne {op} (h : PEp G X W a da) : PEp G X W (.BoolOp op [a] pos) da := pe_one h
theorem eAnd (hK : X.K = G.K) (ha : PEp G X W a da) (hb : PEp G X W (.BoolOp .And (b :: rest) pos) db) : PEp G X W (.BoolOp .And (a :: b :: rest) pos) (eDA da db) := by
  refine PE.imp (pe_andT ha hb) ?_
  rintro σ H Q ⟨C, ε, ok, post⟩
  refine wE_bind (P := PostE G W C σ ε H Q) ok post (fun _ _ h => h) id fun fx ε1 x H1 st1 ok1 vr1 p => ?_
  obtain ⟨c, t, p⟩ := trF_bind (P := PostE G W C σ ε H Q) ok1 vr1 p id
  rw [hK]
  refine ⟨c, t, ?_⟩
  cases c with
  | true => exact ⟨C, ε1, ok1, PostE.from st1 p⟩
  | false => exact p x H1 st1 ok1 vr1
def eDNt (a : Dn Fv) : Dn Fv := fun ε => (a ε).bind fun x ε1 => (trF x.old ε1).bind fun c ε2 => .ok (.sh (.bl (!c))) ε2
def eDIf (c : Dn Bool) (a b : Dn Fv) : Dn Fv := fun ε => (c ε).bind fun t ε1 => if t = true then a ε1 else b ε1
end
/-! ### giving values away -/
def shr : List Fv → Ev → Option (List D × Ev)
  | [], ε => some ([], ε)
  | .sh d :: fs, ε => (shr fs ε).map fun r => (d :: r.1, r.2)
  | .at j :: fs, ε => match ε[j]? with
    | some (.sh d) => (shr fs ε).map fun r => (d :: r.1, r.2)
    | some (.ow d) => (shr fs (ε.set j (.sh d))).map fun r => (d :: r.1, r.2)
    | _ => none
  | .fr _ :: _, _ => none
theorem Stp.less {ε1 : Ev} (h : ∀ b, PL.own σ ε1 b → PL.own σ ε b) : Stp σ ε σ ε1 H H := ⟨fun _ _ e _ _ => e, fun b z => .inl (h b z), fun _ e => e⟩
theorem shr_sound : ∀ {fs : List Fv} {vs : List V} {ε : Ev} {ds : List D} {ε' : Ev}, Ok G C H σ ε → VRs G C H σ ε vs fs → shr fs ε = some (ds, ε') →
    Ok G C H σ ε' ∧ RpAll G H (C.F σ ε') vs ds ∧ ∀ b, own σ ε' b → own σ ε b
  | [], vs, ε, ds, ε', k, r, h => by
    cases r; cases h
    exact ⟨k, .nil, fun _ z => z⟩
  | .sh d :: fs, _, ε, ds, ε', k, r, h => by
    cases r with
    | sh r rs =>
      simp only [shr] at h
      cases q : shr fs ε with
      | none => rw [q] at h; cases h
      | some p =>
        rw [q] at h; cases h
        obtain ⟨k1, a, o⟩ := shr_sound k rs q
        exact ⟨k1, .cons (r.mv (Mv.less fun b z => z.imp id (o b))) a, o⟩
  | .at j :: fs, _, ε, ds, ε', k, r, h => by
    cases r with
    | @«at» v _ vs _ r rs =>
      simp only [shr] at h
      cases q0 : ε[j]? with
      | none => rw [q0] at h; cases h
      | some s =>
        rw [q0] at h
        cases s with
        | no => cases h
        | io d => cases h
        | sh d =>
          dsimp only at h
          cases q : shr fs ε with
          | none => rw [q] at h; cases h
          | some p =>
            rw [q] at h; cases h
            obtain ⟨k1, a, o⟩ := shr_sound k rs q
            obtain ⟨u, e1, ru⟩ := k.sh j d q0
            rw [r] at e1; cases e1
            exact ⟨k1, .cons (ru.mv (Mv.less fun b z => z.imp id (o b))) a, o⟩
        | ow d =>
          dsimp only at h
          cases q : shr fs (ε.set j (.sh d)) with
          | none => rw [q] at h; cases h
          | some p =>
            rw [q] at h; cases h
            obtain ⟨k0, ru, o0⟩ := k.share q0 r
            obtain ⟨k1, a, o⟩ := shr_sound k0 (rs.stp (Stp.less o0)) q
            exact ⟨k1, .cons (ru.mv (Mv.less fun b z => z.imp id (o b))) a, fun b z => o0 b (o b z)⟩
  | .fr d :: fs, _, ε, ds, ε', k, r, h => by cases h
/-! ### lists and tuples, written -/
def mkL (f : List D → Fv) (fs : List Fv) (ε : Ev) : Re Fv := match shr fs ε with
  | some (ds, ε') => if ds.length ≤ 16000000 then .ok (f ds) ε' else .no
  | none => .no
def dLst (da : Dn (List Fv)) : Dn Fv := fun ε => (da ε).bind (mkL fun ds => .fr (.lst ds))
def dTup (da : Dn (List Fv)) : Dn Fv := fun ε => (da ε).bind (mkL fun ds => .sh (.tup ds))
theorem mkL_sound {f : List D → Fv} {fs : List Fv} {vs : List V} (hf : ∀ ds i, f ds ≠ .at i) {Q : VK} (ok : Ok G C H σ ε) (vr : VRs G C H σ ε vs fs) (p : PostE G W C σ ε H Q (mkL f fs ε)) :
    ∃ ds ε', vs.length ≤ sizeLine ∧ Ok G C H σ ε' ∧ RpAll G H (C.F σ ε') vs ds ∧ PostV G H (C.F σ ε') Q (f ds) := by
  unfold mkL at p
  cases q : shr fs ε with
  | none => rw [q] at p; exact p.elim
  | some r =>
    obtain ⟨ds, ε'⟩ := r
    rw [q] at p
    obtain ⟨k1, a, o⟩ := shr_sound ok vr q
    dsimp only at p
    split at p
    · exact ⟨ds, ε', by rw [a.length]; exact sz_le (by assumption), k1, a, PostE.v k1 (PostE.from (Stp.less o) p) (hf ds)⟩
    · exact p.elim
theorem eLst {es : List Expr} {da : Dn (List Fv)} {pos : Pos} (h : PAp G X W es da) : PEp G X W (.List es pos) (dLst da) := by
  refine PE.imp (pe_lst h) ?_
  rintro σ H Q ⟨C, ε, ok, post⟩
  refine wA_bind (P := PostE G W C σ ε H Q) ok post (fun _ _ h => h) id fun fs ε1 vs H1 st1 ok1 vr p => ?_
  obtain ⟨ds, ε', hl, k, a, pv⟩ := mkL_sound (fun ds i z => by cases z) ok1 vr (PostE.from st1 p)
  exact ⟨hl, fun q hq => pv.lst a hq⟩
theorem eTup {es : List Expr} {da : Dn (List Fv)} {pos : Pos} {x1} (h : PAp G X W es da) : PEp G X W (.Tuple es x1 pos) (dTup da) := by
  refine PE.imp (pe_tup h) ?_
  rintro σ H Q ⟨C, ε, ok, post⟩
  refine wA_bind (P := PostE G W C σ ε H Q) ok post (fun _ _ h => h) id fun fs ε1 vs H1 st1 ok1 vr p => ?_
  obtain ⟨ds, ε', hl, k, a, pv⟩ := mkL_sound (fun ds i z => by cases z) ok1 vr (PostE.from st1 p)
  exact ⟨hl, fun q hq => pv.tup a hq (k.fresh hq).2⟩
/-! ### what a loop walks -/
theorem ylds_list {a : Addr} {vs : List V} {ds : List D} (s : SL G H F a vs) (r : RpAll G H F vs ds) : Ylds G H F (Itl G.K a) ds := by
  intro i H1 F1 m fo
  have s1 := s.mv m
  have r1 := r.mv m
  refine ⟨fun d e => ?_, fun e => ⟨vs, s1.sq, by rw [r.length, e]; exact Nat.le_refl _⟩⟩
  obtain ⟨v, ev, rv⟩ := r1.get' e
  refine ⟨⟨vs, v, s1.sq, ev⟩, fun x H2 hy => ?_⟩
  obtain ⟨rfl, hy⟩ := hy
  have := hy vs s1.sq
  rw [ev] at this; cases this
  exact ⟨fun _ _ e => e, rv⟩
theorem ylds_tup {a : Addr} {vs : List V} {ds : List D} (s : ST G H F a vs) (r : RpAll G H F vs ds) : Ylds G H F (Itt G.K a) ds := by
  intro i H1 F1 m fo
  have s1 := s.mv m
  have r1 := r.mv m
  refine ⟨fun d e => ?_, fun e => ⟨vs, s1.sq, by rw [r.length, e]; exact Nat.le_refl _⟩⟩
  obtain ⟨v, ev, rv⟩ := r1.get' e
  refine ⟨⟨vs, v, s1.sq, ev⟩, fun x H2 hy => ?_⟩
  obtain ⟨rfl, hy⟩ := hy
  have := hy vs s1.sq
  rw [ev] at this; cases this
  exact ⟨fun _ _ e => e, rv⟩
def rngD (lo : Int) (n : Nat) : List D := (List.range n).map fun (k : Nat) => .int (lo + (k : Int))
theorem ylds_rng (lo : Int) (n : Nat) : Ylds G H F (Itr lo n) (rngD lo n) := by
  intro i H1 F1 m fo
  unfold rngD
  refine ⟨fun d e => ?_, fun e => by simp at e; exact Nat.le_of_eq e.symm⟩
  have hi : i < n := by have := (List.getElem?_eq_some_iff.mp e).1; simpa using this
  refine ⟨hi, fun x H2 hy => ?_⟩
  obtain ⟨rfl, rfl⟩ := hy
  rw [List.getElem?_map, List.getElem?_range hi] at e
  cases e
  exact ⟨fun _ _ e => e, .int _⟩
def chrsD (l : List Nat) : List D := l.map fun c => .str [c]
theorem sOk_mem {l : List Nat} {c : Nat} (h : sOk l = true) (m : c ∈ l) : sOk [c] = true := by
  unfold sOk at h ⊢
  rw [List.all_eq_true] at h
  simpa using h c m
theorem sl_size (l : List Nat) : (sl l).cps.size = l.length := by simp [sl]
theorem ylds_str {l : List Nat} (h : sOk l = true) : Ylds G H F (Its (sl l)) (chrsD l) := by
  intro i H1 F1 m fo
  unfold chrsD
  refine ⟨fun d e => ?_, fun e => by
    rw [List.length_map] at e
    show (sl l).cps.size ≤ i
    rw [sl_size, e]; exact Nat.le_refl _⟩
  have hi : i < l.length := by have := (List.getElem?_eq_some_iff.mp e).1; simpa using this
  refine ⟨by show i < (sl l).cps.size; rw [sl_size]; exact hi, fun x H2 hy => ?_⟩
  obtain ⟨rfl, c, hc, rfl⟩ := hy
  have hc' : l[i]? = some c := by simpa [sl] using hc
  rw [List.getElem?_map, hc'] at e
  cases e
  exact ⟨fun _ _ e => e, .str (sOk_mem h (List.mem_of_getElem? hc'))⟩
/-- the items of what a loop walks -/
def itemsF (fv : Fv) (ε : Ev) : Re (List D) := match shr [fv] ε with
  | some ([.lst ds], ε') => .ok ds ε'
  | some ([.tup ds], ε') => .ok ds ε'
  | some ([.str l], ε') => .ok (chrsD l) ε'
  | _ => .no
def dI (de : Dn Fv) : Dn (List D) := fun ε => (de ε).bind fun fv ε1 => itemsF fv.old ε1
theorem PI.or {tg e : Expr} {t t' : TI} (h : PI X tg e t) (h' : PI X tg e t') : PI X tg e (fun σ H R => t σ H R ∨ t' σ H R) := ⟨fun pins s σ H R I z => z.elim (h.run pins s σ H R I) (h'.run pins s σ H R I)⟩
theorem iV {tg e : Expr} {de : Dn Fv} (hK : X.K = G.K) (he : PEp G X W e de) : PIp G X W tg e (dI de) := by
  refine PI.imp (PI.or (piK_list (K := G.K) hK he) (PI.or (piK_tup (K := G.K) hK he) (pi_str he))) ?_
  rintro σ H R ⟨C, ε, ok, post⟩
  have key : ∀ (d : D), (∀ ds, d ≠ .lst ds → True) → True := fun _ _ => trivial
  cases q0 : de ε with
  | no => simp only [dI, q0] at post; exact post.elim
  | exc x ε' =>
    simp only [dI, q0] at post
    exact .inl ⟨C, ε, ok, by rw [q0]; exact post⟩
  | ok fv ε1 =>
    simp only [dI, q0, Re.bind] at post
    have go : ∀ {te : V → Hp → Prop}, (∀ v H1, Stp σ ε σ ε1 H H1 → Ok G C H1 σ ε1 → VRs G C H1 σ ε1 [v] [fv.old] → te v H1) → wE G W de σ H te := fun {te} h => ⟨C, ε, ok, by
      rw [q0]
      exact fun v H1 st k vr => h v H1 st k (vr.old .nil)⟩
    unfold itemsF at post
    cases q1 : shr [fv.old] ε1 with
    | none => rw [q1] at post; exact post.elim
    | some r =>
      obtain ⟨ds, ε2⟩ := r
      rw [q1] at post
      have sound : ∀ v H1, Ok G C H1 σ ε1 → VRs G C H1 σ ε1 [v] [fv.old] → Ok G C H1 σ ε2 ∧ RpAll G H1 (C.F σ ε2) [v] ds ∧ ∀ b, own σ ε2 b → own σ ε1 b := fun v H1 k vs => shr_sound k vs q1
      cases ds with
      | nil => exact post.elim
      | cons d ds =>
        cases ds with
        | cons d' ds => cases d <;> exact post.elim
        | nil =>
          cases d with
          | lst xs =>
            refine .inl (go fun v H1 st k vs => ?_)
            obtain ⟨k2, r2, o⟩ := sound v H1 k vs
            cases r2 with
            | cons r2 _ =>
              cases r2 with
              | lst e n r => exact ⟨_, rfl, ⟨_, SqL.of e⟩, post _ H1 (st.trans (Stp.less o)) k2 (ylds_list (.inl ⟨.inl e, n⟩) r)⟩
          | tup xs =>
            refine .inr (.inl (go fun v H1 st k vs => ?_))
            obtain ⟨k2, r2, o⟩ := sound v H1 k vs
            cases r2 with
            | cons r2 _ =>
              cases r2 with
              | tup s r => exact ⟨_, rfl, ⟨_, s.sq⟩, post _ H1 (st.trans (Stp.less o)) k2 (ylds_tup s r)⟩
          | str l =>
            refine .inr (.inr (go fun v H1 st k vs => ?_))
            obtain ⟨k2, r2, o⟩ := sound v H1 k vs
            cases r2 with
            | cons r2 _ =>
              cases r2 with
              | str hs => exact ⟨_, rfl, post _ H1 (st.trans (Stp.less o)) k2 (ylds_str hs)⟩
          | _ => exact post.elim
def rng1 (fs : List Fv) (ε : Ev) : Re (List D) := match rds ε fs with
  | some [.int j] => if -(2 ^ 62) ≤ j ∧ j < 2 ^ 62 then .ok (rngD 0 j.toNat) ε else .no
  | _ => .no
def rng2 (fs : List Fv) (ε : Ev) : Re (List D) := match rds ε fs with
  | some [.int i, .int j] => if -(2 ^ 62) ≤ i ∧ i < 2 ^ 62 ∧ -(2 ^ 62) ≤ j ∧ j < 2 ^ 62 then .ok (rngD i (j - i).toNat) ε else .no
  | _ => .no
theorem RtAll.ints1 {vs : List V} {j : Int} (h : RtAll G H F vs [.int j]) : vs = [.int j] := by
  cases h with
  | cons a b => cases b; cases a; rfl
theorem iR1 {tg a : Expr} {da : Dn (List Fv)} {p pos : Pos} (hg : Gl X "range") (hm : X.mg "range" = none) (ha : PAp G X W [a] da) (hs : starEach [a] X.env = [(false, eval a X.env)] := by rfl) :
    PIp G X W tg (.Call (.Name "range" p) [a] [] pos) (fun ε => (da ε).bind rng1) := by
  refine PI.imp (pi_range1 hg hm ha hs) ?_
  rintro σ H R ⟨C, ε, ok, post⟩
  refine wA_bind (P := PostI G W C σ ε H R) ok post (fun _ _ h => h) id fun fs ε1 vs H1 st1 ok1 vr p => ?_
  unfold rng1 at p
  split at p
  · rename_i j q
    split at p
    · rename_i c
      exact ⟨j, (vr.rt ok1 q).ints1, c.1, c.2, p _ H1 st1 ok1 (ylds_rng 0 _)⟩
    · exact p.elim
  · exact p.elim
/-- enumerate -/
def enumD (ds : List D) : List D := (List.range ds.length).zipWith (fun (k : Nat) d => D.tup [.int (k : Int), d]) ds
def enumF (fs : List Fv) (ε : Ev) : Re (List D) := match shr fs ε with
  | some ([.lst ds], ε') => .ok (enumD ds) ε'
  | some ([.str l], ε') => .ok (enumD (chrsD l)) ε'
  | _ => .no
end
end PL
namespace PL
open PySem PySem.Spec PyProof.Rows L2 AB
open TL (tl)
/-! ### owned objects are written -/
def Sl.with : Sl → D → Sl
  | .io _, d => .io d
  | _, d => .ow d
def putIo : Ev → List Nat → List D → Ev
  | ε, j :: js, d :: ds => putIo (match ε[j]? with
    | some s => ε.set j (s.with d)
    | none => ε) js ds
  | ε, _, _ => ε
theorem with_mut (s : Sl) (d : D) : (s.with d).mut = true := by cases s <;> rfl
theorem putIo_len : ∀ (js : List Nat) (outs : List D) (ε : Ev), (putIo ε js outs).length = ε.length
  | [], outs, ε => by cases outs <;> rfl
  | j :: js, [], ε => rfl
  | j :: js, d :: ds, ε => by
    unfold putIo
    rw [putIo_len js ds]
    split <;> simp
theorem putIo_out : ∀ (js : List Nat) (outs : List D) (ε : Ev) (i : Nat), i ∉ js → (putIo ε js outs)[i]? = ε[i]?
  | [], outs, ε, i, _ => by cases outs <;> rfl
  | j :: js, [], ε, i, _ => rfl
  | j :: js, d :: ds, ε, i, h => by
    unfold putIo
    rw [putIo_out js ds _ i fun z => h (List.mem_cons_of_mem _ z)]
    split
    · rw [List.getElem?_set_ne (fun (z : j = i) => h (by rw [← z]; exact List.mem_cons_self))]
    · rfl
theorem putIo_in : ∀ (js : List Nat) (outs : List D) (ε : Ev) (n i : Nat) (d : D) (s : Sl), js.Nodup → js[n]? = some i → outs[n]? = some d → ε[i]? = some s → (putIo ε js outs)[i]? = some (s.with d)
  | [], outs, ε, n, i, d, s, _, e, _, _ => by simp at e
  | j :: js, [], ε, n, i, d, s, _, _, e, _ => by simp at e
  | j :: js, d' :: ds, ε, n, i, d, s, nd, e1, e2, e3 => by
    rw [List.nodup_cons] at nd
    unfold putIo
    cases n with
    | zero =>
      simp at e1 e2
      subst e1 e2
      rw [putIo_out js ds _ j nd.1, e3]
      exact List.getElem?_set_self (List.getElem?_eq_some_iff.mp e3).1
    | succ n =>
      have e1 : js[n]? = some i := by simpa using e1
      have ne : j ≠ i := fun z => nd.1 (z ▸ List.mem_of_getElem? e1)
      refine putIo_in js ds _ n i d s nd.2 e1 (by simpa using e2) ?_
      split
      · rw [List.getElem?_set_ne ne]; exact e3
      · exact e3
section
variable {G : Gx} {X : Cx} {W : WX} {C : Fr} {σ : L2.St} {ε : Ev} {H H' : Hp} {F : Addr → Prop}
theorem putIo_cases {js : List Nat} {outs : List D} (nd : js.Nodup) (hl : outs.length = js.length) {i : Nat} {s : Sl} (h : (putIo ε js outs)[i]? = some s) :
    (i ∉ js ∧ ε[i]? = some s) ∨ ∃ (n : Nat) (s0 : Sl) (d : D), js[n]? = some i ∧ outs[n]? = some d ∧ ε[i]? = some s0 ∧ s = s0.with d := by
  by_cases c : i ∈ js
  · obtain ⟨n, hn, e⟩ := List.getElem_of_mem c
    have e1 : js[n]? = some i := by rw [List.getElem?_eq_getElem hn, e]
    have e2 : outs[n]? = some outs[n] := List.getElem?_eq_getElem (by omega)
    have hi : i < ε.length := by
      have := (List.getElem?_eq_some_iff.mp h).1
      rwa [putIo_len] at this
    have e3 := List.getElem?_eq_getElem hi
    have := putIo_in js outs ε n i _ _ nd e1 e2 e3
    rw [this] at h
    cases h
    exact .inr ⟨n, _, _, e1, e2, e3, rfl⟩
  · rw [putIo_out js outs ε i c] at h
    exact .inl ⟨c, h⟩
/-- the objects at as (slots js) are written -/
theorem Ok.after {js : List Nat} {as : List Addr} {outs : List D} {F0' : Addr → Prop} (k : Ok G C H σ ε) (hj : js.length = as.length) (ho : outs.length = js.length)
    (hs : ∀ (n j : Nat) (a : Addr), js[n]? = some j → as[n]? = some a → σ[j]? = some (some (.ref a)) ∧ ∃ s, ε[j]? = some s ∧ s.mut = true) (nd : js.Nodup)
    (kp : ∀ b o, H b = some o → b ∉ as → NT o → H' b = some o) (al : ∀ b, H' b = none → H b = none) (tb : ∀ p ∈ G.T, LamX.TabS H' p.1 p.2) (h0 : ∀ q, C.F0 q → F0' q) (h1 : ∀ q, F0' q → C.F0 q ∨ (H q = none ∧ H' q ≠ none))
    (tops : ∀ (n : Nat) (a : Addr) (d : D), as[n]? = some a → outs[n]? = some d → Top G H' (fun q => F0' q ∨ own σ ε q) a d) :
    Ok G { C with F0 := F0' } H' σ (putIo ε js outs) ∧ ∀ b, own σ (putIo ε js outs) b → own σ ε b := by
  have hs2 : ∀ (n j : Nat), js[n]? = some j → ∃ a, as[n]? = some a ∧ σ[j]? = some (some (.ref a)) ∧ ∃ s, ε[j]? = some s ∧ s.mut = true := fun n j e => by
    have hn : n < as.length := by rw [← hj]; exact (List.getElem?_eq_some_iff.mp e).1
    have e2 := List.getElem?_eq_getElem hn
    exact ⟨_, e2, hs n j _ e e2⟩
  have wm : ∀ {i : Nat} {s : Sl}, (putIo ε js outs)[i]? = some s → s.mut = true → ∃ s0, ε[i]? = some s0 ∧ s0.mut = true := fun {i s} e m => by
    rcases putIo_cases nd ho e with ⟨_, e⟩ | ⟨n, s0, d, e1, e2, e3, _⟩
    · exact ⟨s, e, m⟩
    · obtain ⟨a, _, _, s', e4, m4⟩ := hs2 n i e1
      exact ⟨s', e4, m4⟩
  have o1 : ∀ b, own σ (putIo ε js outs) b → own σ ε b := fun b ⟨i, s, e, m, q⟩ => by
    obtain ⟨s0, e0, m0⟩ := wm e m
    exact ⟨i, s0, e0, m0, q⟩
  -- where an owned address stands among as
  have asj : ∀ {i : Nat} {s : Sl} {p : Addr}, ε[i]? = some s → s.mut = true → σ[i]? = some (some (.ref p)) → i ∉ js → p ∉ as := fun {i s p} e m q hi hp => by
    obtain ⟨n, hn, e1⟩ := List.getElem_of_mem hp
    have hn2 : n < js.length := by omega
    obtain ⟨a, ea, q2, s2, e2, m2⟩ := hs2 n _ (List.getElem?_eq_getElem hn2)
    rw [List.getElem?_eq_getElem hn, e1] at ea
    cases ea
    have := k.inj i _ s s2 p e m e2 m2 q q2
    exact hi (this ▸ List.getElem_mem hn2)
  have ownAs : ∀ a ∈ as, own σ ε a := fun a ha => by
    obtain ⟨n, hn, e1⟩ := List.getElem_of_mem ha
    have hn2 : n < js.length := by omega
    obtain ⟨a', ea, q2, s2, e2, m2⟩ := hs2 n _ (List.getElem?_eq_getElem hn2)
    rw [List.getElem?_eq_getElem hn, e1] at ea
    cases ea
    exact ⟨_, s2, e2, m2, q2⟩
  have mv : Mv H H' (C.F σ ε) (Fr.F { C with F0 := F0' } σ (putIo ε js outs)) :=
    ⟨fun b o e n t => kp b o e (fun z => n (.inr (ownAs b z))) t, fun b z => z.elim (fun q => (h1 b q).imp .inl And.left) fun q => .inl (.inr (o1 b q))⟩
  have mv2 : Mv H' H' (fun q => F0' q ∨ own σ ε q) (Fr.F { C with F0 := F0' } σ (putIo ε js outs)) := Mv.less fun b z => z.imp id (o1 b)
  refine ⟨⟨by rw [putIo_len]; exact k.len, ?_, ?_, ?_, ?_, ?_, ?_, ?_, ?_, ?_, ?_, tb, fun b e => k.h0 b (al b e)⟩, o1⟩
  · intro b o e n t
    refine kp b o (k.kept b o e n t) (fun z => ?_) t
    obtain ⟨i, s, e1, m, q⟩ := ownAs b z
    cases s with
    | no => cases m
    | sh d => cases m
    | ow d => have := k.new i d b e1 q; rw [e] at this; cases this
    | io d =>
      obtain ⟨a, ha⟩ := k.ioB i d e1
      obtain ⟨q2, _⟩ := k.ioA i a ha
      rw [q] at q2; cases q2
      exact n i ha
  · intro i j s t p e1 m1 e2 m2 q1 q2
    obtain ⟨s1, e1, m1⟩ := wm e1 m1
    obtain ⟨s2, e2, m2⟩ := wm e2 m2
    exact k.inj i j s1 s2 p e1 m1 e2 m2 q1 q2
  · intro i d p e q
    rcases putIo_cases nd ho e with ⟨_, e⟩ | ⟨n, s0, d', e1, e2, e3, e4⟩
    · exact k.new i d p e q
    · cases s0 with
      | ow d0 => exact k.new i d0 p e3 q
      | io d0 => cases e4
      | no =>
        obtain ⟨a, _, _, s', e5, m5⟩ := hs2 n i e1
        rw [e3] at e5; cases e5; cases m5
      | sh d0 =>
        obtain ⟨a, _, _, s', e5, m5⟩ := hs2 n i e1
        rw [e3] at e5; cases e5; cases m5
  · intro p z w
    have z := o1 p z
    rcases h1 p w with w | ⟨w, _⟩
    · exact k.nf p z w
    · obtain ⟨o, eo⟩ := k.own_some z
      rw [w] at eo; cases eo
  · intro p z
    rcases h1 p z with w | ⟨_, w⟩
    · intro e
      have nas : p ∉ as := fun ha => k.nf p (ownAs p ha) w
      exact k.f0 p w (al p e)
    · exact w
  · intro i d e
    rcases putIo_cases nd ho e with ⟨_, e⟩ | ⟨n, s0, d', e1, e2, e3, e4⟩
    · obtain ⟨v, q, r⟩ := k.sh i d e
      exact ⟨v, q, r.mv mv⟩
    · have := with_mut s0 d'
      rw [← e4] at this; cases this
  · intro i d e
    rcases putIo_cases nd ho e with ⟨hi, e⟩ | ⟨n, s0, d', e1, e2, e3, e4⟩
    · obtain ⟨p, q, r⟩ := k.ow i d e
      obtain ⟨o, eo⟩ := r.some
      exact ⟨p, q, r.mv mv (by rw [eo, kp p o eo (asj e rfl q hi) (r.nt eo)])⟩
    · obtain ⟨a, ea, q, _⟩ := hs2 n i e1
      have t := tops n a d' ea e2
      have : d = d' := by cases s0 <;> cases e4 <;> rfl
      subst this
      exact ⟨a, q, t.mv mv2 rfl⟩
  · intro i d e
    rcases putIo_cases nd ho e with ⟨hi, e⟩ | ⟨n, s0, d', e1, e2, e3, e4⟩
    · obtain ⟨p, q, r⟩ := k.io i d e
      obtain ⟨o, eo⟩ := r.some
      exact ⟨p, q, r.mv mv (by rw [eo, kp p o eo (asj e rfl q hi) (r.nt eo)])⟩
    · obtain ⟨a, ea, q, _⟩ := hs2 n i e1
      have t := tops n a d' ea e2
      have : d = d' := by cases s0 <;> cases e4 <;> rfl
      subst this
      exact ⟨a, q, t.mv mv2 rfl⟩
  · intro i a h
    obtain ⟨q, d, e⟩ := k.ioA i a h
    refine ⟨q, ?_⟩
    by_cases c : i ∈ js
    · obtain ⟨n, hn, e1⟩ := List.getElem_of_mem c
      have e2 : outs[n]? = some outs[n] := List.getElem?_eq_getElem (by omega)
      exact ⟨_, putIo_in js outs ε n i _ _ nd (by rw [List.getElem?_eq_getElem hn, e1]) e2 e⟩
    · exact ⟨d, by rw [putIo_out js outs ε i c]; exact e⟩
  · intro i d e
    rcases putIo_cases nd ho e with ⟨hi, e⟩ | ⟨n, s0, d', e1, e2, e3, e4⟩
    · exact k.ioB i d e
    · cases s0 with
      | io d0 => exact k.ioB i d0 e3
      | _ => cases e4
/-! ### a def's promise -/
inductive Rf where
  | ok (r : Fv) (outs : List D) | exc (x : Xc) (outs : List D) | no
def ioAs : List Bool → List V → List Addr
  | true :: m, .ref a :: vs => a :: ioAs m vs
  | _ :: m, _ :: vs => ioAs m vs
  | _, _ => []
inductive ArgR (G : Gx) (H : Hp) (F : Addr → Prop) : List Bool → List V → List D → Prop
  | nil : ArgR G H F [] [] []
  | val {m : List Bool} {v : V} {vs : List V} {d : D} {ds : List D} : Rp G H F v d → ArgR G H F m vs ds → ArgR G H F (false :: m) (v :: vs) (d :: ds)
  | io {m : List Bool} {a : Addr} {vs : List V} {d : D} {ds : List D} : Top G H F a d → F a → ArgR G H F m vs ds → ArgR G H F (true :: m) (.ref a :: vs) (d :: ds)
def Kpt (G : Gx) (as : List Addr) (H H' : Hp) : Prop := (∀ b o, H b = some o → b ∉ as → NT o → H' b = some o) ∧ (∀ b, H' b = none → H b = none) ∧ ∀ p ∈ G.T, LamX.TabS H' p.1 p.2
def Outs (G : Gx) (H : Hp) (F : Addr → Prop) (as : List Addr) (outs : List D) : Prop := outs.length = as.length ∧ ∀ (n : Nat) (a : Addr) (d : D), as[n]? = some a → outs[n]? = some d → Top G H F a d
def ResR (G : Gx) (H : Hp) (F : Addr → Prop) (H' : Hp) (as : List Addr) (outs : List D) (v : V) : Fv → Prop
  | .sh d => Outs G H' F as outs ∧ Rp G H' F v d
  | .fr d => ∃ p, v = .ref p ∧ H p = none ∧ Outs G H' (fun q => F q ∨ q = p) as outs ∧ Top G H' (fun q => F q ∨ q = p) p d
  | .at _ => False
def PostF (G : Gx) (H : Hp) (F : Addr → Prop) (as : List Addr) (Q : VK) (E : XK) : Rf → Prop
  | .ok r outs => ∀ v H', Kpt G as H H' → ResR G H F H' as outs v r → Q v H'
  | .exc x outs => ∀ c d H', Kpt G as H H' → Outs G H' F as outs → XR G H' F c d x → E c d H'
  | .no => False
def spP (G : Gx) (mask : List Bool) (f : List D → Rf) : Sp := fun vs H Q E => ∃ F ds, FOld H F ∧ (∀ p ∈ G.T, LamX.TabS H p.1 p.2) ∧ ArgR G H F mask vs ds ∧ (ioAs mask vs).Nodup ∧ PostF G H F (ioAs mask vs) Q E (f ds)
theorem ArgR.len {m : List Bool} {vs : List V} {ds : List D} (h : ArgR G H F m vs ds) : vs.length = m.length ∧ ds.length = m.length := by
  induction h with
  | nil => exact ⟨rfl, rfl⟩
  | val _ _ ih => simp [ih.1, ih.2]
  | io _ _ _ ih => simp [ih.1, ih.2]
/-! ### arguments are passed -/
def passA : List Bool → List Fv → Ev → Option (List D × List Nat × Ev)
  | [], [], ε => some ([], [], ε)
  | false :: m, .sh d :: fs, ε => (passA m fs ε).map fun r => (d :: r.1, r.2.1, r.2.2)
  | false :: m, .at j :: fs, ε => match ε[j]? with
    | some (.sh d) => (passA m fs ε).map fun r => (d :: r.1, r.2.1, r.2.2)
    | some (.ow d) => (passA m fs (ε.set j (.sh d))).map fun r => (d :: r.1, r.2.1, r.2.2)
    | _ => none
  | true :: m, .at j :: fs, ε => (passA m fs ε).bind fun r => match r.2.2[j]? with
    | some (.ow d) => if j ∈ r.2.1 then none else some (d :: r.1, j :: r.2.1, r.2.2)
    | some (.io d) => if j ∈ r.2.1 then none else some (d :: r.1, j :: r.2.1, r.2.2)
    | _ => none
  | _, _, _ => none
theorem passA_sound : ∀ {m : List Bool} {fs : List Fv} {vs : List V} {ε : Ev} {ds : List D} {js : List Nat} {ε' : Ev}, Ok G C H σ ε → VRs G C H σ ε vs fs → passA m fs ε = some (ds, js, ε') →
    Ok G C H σ ε' ∧ (∀ b, own σ ε' b → own σ ε b) ∧ ArgR G H (C.F σ ε') m vs ds ∧ js.Nodup ∧ js.length = (ioAs m vs).length ∧
      ∀ (n j : Nat) (a : Addr), js[n]? = some j → (ioAs m vs)[n]? = some a → σ[j]? = some (some (.ref a)) ∧ ∃ s, ε'[j]? = some s ∧ s.mut = true
  | [], [], vs, ε, ds, js, ε', k, r, h => by
    cases r; cases h
    exact ⟨k, fun _ z => z, .nil, .nil, rfl, fun n j a e => by simp at e⟩
  | false :: m, .sh d :: fs, _, ε, ds, js, ε', k, r, h => by
    cases r with
    | sh r rs =>
      simp only [passA] at h
      cases q : passA m fs ε with
      | none => rw [q] at h; cases h
      | some p =>
        rw [q] at h; cases h
        obtain ⟨k1, o, a, nd, hl, hj⟩ := passA_sound k rs q
        refine ⟨k1, o, .val (r.mv (Mv.less fun b z => z.imp id (o b))) a, nd, ?_, ?_⟩ <;> (unfold ioAs; assumption)
  | false :: m, .at j :: fs, _, ε, ds, js, ε', k, r, h => by
    cases r with
    | @«at» v _ vs _ r rs =>
      simp only [passA] at h
      cases q0 : ε[j]? with
      | none => rw [q0] at h; cases h
      | some s =>
        rw [q0] at h
        cases s with
        | no => cases h
        | io d => cases h
        | sh d =>
          dsimp only at h
          cases q : passA m fs ε with
          | none => rw [q] at h; cases h
          | some p =>
            rw [q] at h; cases h
            obtain ⟨k1, o, a, nd, hl, hj⟩ := passA_sound k rs q
            obtain ⟨u, e1, ru⟩ := k.sh j d q0
            rw [r] at e1; cases e1
            refine ⟨k1, o, .val (ru.mv (Mv.less fun b z => z.imp id (o b))) a, nd, ?_, ?_⟩ <;> (unfold ioAs; assumption)
        | ow d =>
          dsimp only at h
          cases q : passA m fs (ε.set j (.sh d)) with
          | none => rw [q] at h; cases h
          | some p =>
            rw [q] at h; cases h
            obtain ⟨k0, ru, o0⟩ := k.share q0 r
            obtain ⟨k1, o, a, nd, hl, hj⟩ := passA_sound k0 (rs.stp (Stp.less o0)) q
            refine ⟨k1, fun b z => o0 b (o b z), .val (ru.mv (Mv.less fun b z => z.imp id (o b))) a, nd, ?_, ?_⟩ <;> (unfold ioAs; assumption)
  | true :: m, .at j :: fs, _, ε, ds, js, ε', k, r, h => by
    cases r with
    | @«at» v _ vs _ r rs =>
      simp only [passA] at h
      cases q : passA m fs ε with
      | none => rw [q] at h; cases h
      | some p =>
        obtain ⟨ds1, js1, ε1⟩ := p
        rw [q] at h
        obtain ⟨k1, o, a, nd, hl, hj⟩ := passA_sound k rs q
        simp only [Option.bind_some] at h
        have fin : ∀ (s : Sl) (d : D), ε1[j]? = some s → s.mut = true → (∃ p, v = .ref p ∧ Top G H (C.F σ ε1) p d) → (if j ∈ js1 then none else some (d :: ds1, j :: js1, ε1)) = some (ds, js, ε') →
            Ok G C H σ ε' ∧ (∀ b, own σ ε' b → own σ ε b) ∧ ArgR G H (C.F σ ε') (true :: m) (v :: vs) ds ∧ js.Nodup ∧ js.length = (ioAs (true :: m) (v :: vs)).length ∧
              ∀ (n j : Nat) (a : Addr), js[n]? = some j → (ioAs (true :: m) (v :: vs))[n]? = some a → σ[j]? = some (some (.ref a)) ∧ ∃ s, ε'[j]? = some s ∧ s.mut = true := by
          rintro s d es ms ⟨p, rfl, t⟩ hh
          split at hh
          · cases hh
          · rename_i hn
            cases hh
            refine ⟨k1, o, .io t (.inr ⟨j, s, es, ms, r⟩) a, List.nodup_cons.mpr ⟨hn, nd⟩, by simp [ioAs, hl], ?_⟩
            intro n i b e1 e2
            cases n with
            | zero =>
              simp [ioAs] at e1 e2
              subst e1 e2
              exact ⟨r, s, es, ms⟩
            | succ n => exact hj n i b (by simpa using e1) (by simpa [ioAs] using e2)
        cases q1 : ε1[j]? with
        | none => rw [q1] at h; cases h
        | some s =>
          rw [q1] at h
          cases s with
          | no => cases h
          | sh d => cases h
          | ow d =>
            obtain ⟨p, e1, t⟩ := k1.ow j d q1
            rw [r] at e1; cases e1
            exact fin _ d q1 rfl ⟨p, rfl, t⟩ h
          | io d =>
            obtain ⟨p, e1, t⟩ := k1.io j d q1
            rw [r] at e1; cases e1
            exact fin _ d q1 rfl ⟨p, rfl, t⟩ h
  | [], .sh _ :: _, _, _, _, _, _, _, _, h => by cases h
  | [], .at _ :: _, _, _, _, _, _, _, _, h => by cases h
  | [], .fr _ :: _, _, _, _, _, _, _, _, h => by cases h
  | _ :: _, [], _, _, _, _, _, _, _, h => by rename_i b _ _ _ _ _ _ _ _; cases b <;> cases h
  | true :: _, .sh _ :: _, _, _, _, _, _, _, _, h => by cases h
  | b :: _, .fr _ :: _, _, _, _, _, _, _, _, h => by cases b <;> cases h
def callF (mask : List Bool) (f : List D → Rf) (fs : List Fv) (ε : Ev) : Re Fv := match passA mask fs ε with
  | some (ds, js, ε1) => match f ds with
    | .ok r outs => .ok r (putIo ε1 js outs)
    | .exc x outs => .exc x (putIo ε1 js outs)
    | .no => .no
  | none => .no
theorem ioAs_nodup {js : List Nat} {as : List Addr} {ε : Ev} (k : Ok G C H σ ε) (nd : js.Nodup) (hl : js.length = as.length)
    (hj : ∀ (n j : Nat) (a : Addr), js[n]? = some j → as[n]? = some a → σ[j]? = some (some (.ref a)) ∧ ∃ s, ε[j]? = some s ∧ s.mut = true) : as.Nodup := by
  refine List.pairwise_iff_getElem.mpr fun i j hi hlt hij e => ?_
  obtain ⟨q1, s1, e1, m1⟩ := hj i _ _ (List.getElem?_eq_getElem (by omega)) (List.getElem?_eq_getElem hi)
  obtain ⟨q2, s2, e2, m2⟩ := hj j _ _ (List.getElem?_eq_getElem (by omega)) (List.getElem?_eq_getElem hlt)
  rw [e] at q1
  have z := k.inj _ _ s1 s2 _ e1 m1 e2 m2 q1 q2
  have := (List.getElem_inj nd).mp z
  omega
/-- a call by its promise -/
theorem callF_sound {mask : List Bool} {f : List D → Rf} {fs : List Fv} {vs : List V} {Q : VK} (ok : Ok G C H σ ε) (vr : VRs G C H σ ε vs fs) (p : PostE G W C σ ε H Q (callF mask f fs ε)) : spP G mask f vs H Q (WE W σ) := by
  unfold callF at p
  cases q : passA mask fs ε with
  | none => rw [q] at p; exact p.elim
  | some r =>
    obtain ⟨ds, js, ε1⟩ := r
    rw [q] at p
    obtain ⟨k, o, a, nd, hl, hj⟩ := passA_sound ok vr q
    refine ⟨C.F σ ε1, ds, k.fold, k.tb, a, ioAs_nodup k nd hl hj, ?_⟩
    dsimp only at p
    have st0 : Stp σ ε σ ε1 H H := Stp.less o
    have ownAs : ∀ a ∈ ioAs mask vs, own σ ε1 a := fun a ha => by
      obtain ⟨n, hn, e1⟩ := List.getElem_of_mem ha
      obtain ⟨q2, s2, e2, m2⟩ := hj n _ _ (List.getElem?_eq_getElem (by omega)) (List.getElem?_eq_getElem hn)
      rw [e1] at q2
      exact ⟨_, s2, e2, m2, q2⟩
    have stp : ∀ {H' : Hp} {outs : List D}, Kpt G (ioAs mask vs) H H' → (∀ b, own σ (putIo ε1 js outs) b → own σ ε1 b) → Stp σ ε σ (putIo ε1 js outs) H H' := fun {H' outs} kp o2 =>
      st0.trans ⟨fun b u e n t => kp.1 b u e (fun z => n (ownAs b z)) t, fun b z => .inl (o2 b z), kp.2.1⟩
    cases e : f ds with
    | no => rw [e] at p; exact p.elim
    | exc x outs =>
      rw [e] at p
      intro c d H' kp ho xr
      have ⟨k2, o2⟩ := Ok.after (F0' := C.F0) k hl (by rw [ho.1, hl]) hj nd kp.1 kp.2.1 kp.2.2 (fun _ z => z) (fun _ z => .inl z) ho.2
      refine p c d H' (stp kp o2) k2 ?_
      obtain ⟨g, xr⟩ := xr
      refine ⟨g, xr.imp id ?_⟩
      rintro ⟨a, ws, e1, e2, e3, r⟩
      exact ⟨a, ws, e1, e2, e3, r.mv (Mv.less fun b z => z.imp id (o2 b))⟩
    | ok r outs =>
      rw [e] at p
      intro v H' kp rr
      cases r with
      | «at» i => exact rr.elim
      | sh d =>
        obtain ⟨ho, r⟩ := rr
        have ⟨k2, o2⟩ := Ok.after (F0' := C.F0) k hl (by rw [ho.1, hl]) hj nd kp.1 kp.2.1 kp.2.2 (fun _ z => z) (fun _ z => .inl z) ho.2
        exact p v H' (stp kp o2) k2 (r.mv (Mv.less fun b z => z.imp id (o2 b)))
      | fr d =>
        obtain ⟨a, rfl, na, ho, t⟩ := rr
        have na' : H' a ≠ none := by obtain ⟨u, eu⟩ := t.some; rw [eu]; intro z; cases z
        have inc : ∀ q, ((C.F0 q ∨ q = a) ∨ own σ ε1 q) → (C.F σ ε1 q ∨ q = a) := fun q z => by
          rcases z with (z | z) | z
          · exact .inl (.inl z)
          · exact .inr z
          · exact .inl (.inr z)
        have ⟨k2, o2⟩ := Ok.after (F0' := fun q => C.F0 q ∨ q = a) k hl (by rw [ho.1, hl]) hj nd kp.1 kp.2.1 kp.2.2 (fun _ z => .inl z)
          (fun q z => z.imp id (fun (e : q = a) => by rw [e]; exact ⟨na, na'⟩))
          (fun n b d' e1 e2 => (ho.2 n b d' e1 e2).mv (Mv.less inc) rfl)
        have k3 : Ok G (C.add a) H' σ (putIo ε1 js outs) := k2
        refine p _ H' (stp kp o2) k3.unadd ⟨a, rfl, na, ?_, k3, t.mv (Mv.less fun q z => inc q (z.imp id (o2 q))) rfl⟩
        intro z
        exact (k.fresh na).2 (z.imp id (o2 a))
end
end PL
namespace PL
open PySem PySem.Spec PyProof.Rows L2 AB
open TL (tl)
/-- what is known of a context -/
structure Cok (G : Gx) (X : Cx) (W : WX) (k : Nat) : Prop where
  hK : X.K = G.K
  hm : X.mg = G.mg
  hP : X.prog = G.prog
  hw : X.w = G.w
  hb : X.base = G.base
  calm : X.calm = true
  hr : Room k X.A
  gd : G.q → X.A.guards = some []
  tk : Takes X W
  po : PassesOwn (model X.prog X.w) X.A X.env X.xe
abbrev W0 : WX := fun _ _ _ _ => False
abbrev FnP (G : Gx) (k : Nat) (f : Addr) (fd : FuncData) (ps : List Str) (mask : List Bool) (den : List D → Rf) : Prop :=
  FnG G.q G.prog G.w G.K G.mg G.base (L2.CX G.prog G.w) k f fd ps (spP G mask den)
section
variable {G : Gx} {X : Cx} {W : WX} {C : Fr} {σ : L2.St} {ε : Ev} {H H' : Hp} {F : Addr → Prop} {k : Nat}
theorem Cok.blk (c : Cok G X W k) {s : Shared} {H : Hp} {scope : Scope} {cenv : Env} {fp : List Addr} : Cok G (X.blk s H scope cenv fp) W0 k :=
  ⟨c.hK, c.hm, c.hP, c.hw, c.hb, c.calm, c.hr, c.gd, takes0, PassesOwn.never⟩
theorem Cok.u (c : Cok G X W k) : X.A.units + 64 < cLine := c.hr.units
/-! ### calls -/
theorem run_fnG {q : Prop} {CX : CXT} {j : Nat} {f : Addr} {fd : FuncData} {ps : List Str} {sp : Sp} {E : L2.St → XK} {pins : List (Addr × Obj)} {s : Shared} {Q : VK} {us : List Value} {vs : List V} (F : FnG q X.prog X.w X.K X.mg X.base CX j f fd ps sp)
    (hr : Room j X.A) (hg : q → X.A.guards = some []) (hb : Binds X.K fd ps []) (hx : PassesAt CX X σ (E σ)) (I : L2.Inv X pins σ H s) (r : Vals vs us) (h : sp vs H Q (E σ)) :
    wpAny (model X.prog X.w) X.A (call (.ref f) us) (EP X pins σ Q) X.xe s := by
  have hl : us.length = ps.length := by rw [← r.length]; exact F.gl _ _ _ _ h
  have b := hb s us I.kIn (by rw [List.append_nil]; exact hl)
  rw [List.append_nil] at b
  refine wpAny_call (codeAny_mono (F.go X.A X.stack s H ⟨us, []⟩ us vs Q (E σ) hr hg I.env0 b r h) fun r s' hq => ?_)
  cases r with
  | error e => exact hx pins H s e s' I hq
  | ok fl =>
    cases fl with
    | ret u => exact I.after hq
    | next => exact False.elim hq
    | brk => exact False.elim hq
    | cont => exact False.elim hq
section
variable {j : Nat} {f : Addr} {fd : FuncData} {ps : List Str} {mask : List Bool} {den : List D → Rf} {x : Str} {p pos : Pos} {e : Expr} {es : List Expr} {da : Dn (List Fv)}
theorem pe_callG {sp : Sp} {t : TA} (c : Cok G X W k) (F : FnG G.q G.prog G.w G.K G.mg G.base (L2.CX G.prog G.w) j f fd ps sp) (hj : j ≤ k) (hg : Gl X x) (hm : G.mg x = some (.ref f)) (hk : PySem.W.keepIn G.K (.ref f) = true) (hb : Binds G.K fd ps [])
    (ha : PA X (e :: es) t) (hdb : (x == ("__debug__" : Str)) = false := by decide) (he : starEach (e :: es) X.env = (false, eval e X.env) :: starEach es X.env := by rfl) (hpl : (backTo pos (starEach es X.env)).any (·.1) = false := by rfl) :
    PE X (.Call (.Name x p) (e :: es) [] pos) (tCallS sp (WE W) t) := by
  have F' : FnG G.q X.prog X.w X.K X.mg X.base (L2.CX X.prog X.w) j f fd ps sp := by rw [c.hP, c.hw, c.hK, c.hm, c.hb]; exact F
  rw [← c.hm] at hm
  rw [← c.hK] at hk hb
  refine ⟨fun pins s σ H Q I h => ?_⟩
  refine wpAny_Call_Name_kw (ld_glob I hg hm ?_ hdb)
  refine PySem.W.callWith_K (h₀ := X.base) I.ok.mod.kin hk (thn (ha.run pos pins s σ H _ I h) fun us s1 ⟨vs, H1, I1, r, q⟩ => ⟨I1.kIn, ?_⟩) he hpl
  exact run_fnG F' (c.hr.mono hj) c.gd hb (passAt c.tk σ) I1 r q
def dCall (mask : List Bool) (den : List D → Rf) (da : Dn (List Fv)) : Dn Fv := fun ε => (da ε).bind (callF mask den)
theorem eCall (c : Cok G X W k) (F : FnP G j f fd ps mask den) (hj : j ≤ k) (hg : Gl X x) (hm : G.mg x = some (.ref f)) (hk : PySem.W.keepIn G.K (.ref f) = true) (hb : Binds G.K fd ps [])
    (ha : PAp G X W (e :: es) da) (hdb : (x == ("__debug__" : Str)) = false := by decide) (he : starEach (e :: es) X.env = (false, eval e X.env) :: starEach es X.env := by rfl) (hpl : (backTo pos (starEach es X.env)).any (·.1) = false := by rfl) :
    PEp G X W (.Call (.Name x p) (e :: es) [] pos) (dCall mask den da) := by
  refine PE.imp (pe_callG c F hj hg hm hk hb ha hdb he hpl) ?_
  rintro σ H Q ⟨C, ε, ok, post⟩
  refine wA_bind (P := PostE G W C σ ε H Q) ok post (fun _ _ h => h) id fun fs ε1 vs H1 st1 ok1 vr p => ?_
  exact callF_sound ok1 vr (PostE.from st1 p)
end
/-! ### a def's body -/
def startE : List Bool → List D → Ev
  | true :: m, d :: ds => .io d :: startE m ds
  | false :: m, d :: ds => .sh d :: startE m ds
  | _, _ => []
def outsE : List Bool → Ev → Option (List D)
  | true :: m, .io d :: ε => (outsE m ε).map (d :: ·)
  | false :: m, _ :: ε => outsE m ε
  | [], _ => some []
  | _, _ => none
def endF (mask : List Bool) (fl : Fl) (ε : Ev) : Rf := match outsE mask ε with
  | some outs => match fl with
    | .nx => .ok (.sh .non) outs
    | .rt (.sh d) => .ok (.sh d) outs
    | .rt (.fr d) => .ok (.fr d) outs
    | _ => .no
  | none => .no
def bodyF (mask : List Bool) (n : Nat) (den : Dn Fl) (ds : List D) : Rf := match den (startE mask ds ++ List.replicate (n - mask.length) .no) with
  | .ok fl ε => endF mask fl ε
  | .exc x ε => match outsE mask ε with
    | some outs => .exc x outs
    | none => .no
  | .no => .no
theorem startE_len {m : List Bool} {vs : List V} {ds : List D} (h : ArgR G H F m vs ds) : (startE m ds).length = m.length := by
  induction h with
  | nil => rfl
  | val _ _ ih => simp [startE, ih]
  | io _ _ _ ih => simp [startE, ih]
theorem startE_get {m : List Bool} {vs : List V} {ds : List D} (h : ArgR G H F m vs ds) : ∀ {i : Nat} {s : Sl}, (startE m ds)[i]? = some s → ∃ v, vs[i]? = some v ∧
    ((∃ d, s = .sh d ∧ Rp G H F v d) ∨ ∃ a d, s = .io d ∧ v = .ref a ∧ Top G H F a d ∧ F a ∧ m[i]? = some true) := by
  induction h with
  | nil => intro i s e; simp [startE] at e
  | val r _ ih =>
    intro i s e
    cases i with
    | zero => simp [startE] at e; subst e; exact ⟨_, rfl, .inl ⟨_, rfl, r⟩⟩
    | succ i => simpa using ih (by simpa [startE] using e)
  | io t f _ ih =>
    intro i s e
    cases i with
    | zero => simp [startE] at e; subst e; exact ⟨_, rfl, .inr ⟨_, _, rfl, rfl, t, f, rfl⟩⟩
    | succ i => simpa using ih (by simpa [startE] using e)
theorem startE_io {m : List Bool} {vs : List V} {ds : List D} (h : ArgR G H F m vs ds) : ∀ {i : Nat} {a : Addr}, m[i]? = some true → vs[i]? = some (.ref a) → ∃ d, (startE m ds)[i]? = some (.io d) := by
  induction h with
  | nil => intro i a e; simp at e
  | val r _ ih =>
    intro i a e e2
    cases i with
    | zero => simp at e
    | succ i => simpa [startE] using ih (by simpa using e) (by simpa using e2)
  | io t f _ ih =>
    intro i a e e2
    cases i with
    | zero => exact ⟨_, rfl⟩
    | succ i => simpa [startE] using ih (by simpa using e) (by simpa using e2)
theorem ioAs_mem {m : List Bool} {vs : List V} {ds : List D} (h : ArgR G H F m vs ds) {a : Addr} : a ∈ ioAs m vs ↔ ∃ i : Nat, m[i]? = some true ∧ vs[i]? = some (.ref a) := by
  induction h with
  | nil => simp [ioAs]
  | @val m v vs d ds r _ ih =>
    unfold ioAs
    rw [ih]
    constructor
    · rintro ⟨i, e1, e2⟩; exact ⟨i + 1, by simpa using e1, by simpa using e2⟩
    · rintro ⟨i, e1, e2⟩
      cases i with
      | zero => simp at e1
      | succ i => exact ⟨i, by simpa using e1, by simpa using e2⟩
  | @io m b vs d ds t f _ ih =>
    unfold ioAs
    rw [List.mem_cons, ih]
    constructor
    · rintro (rfl | ⟨i, e1, e2⟩)
      · exact ⟨0, rfl, rfl⟩
      · exact ⟨i + 1, by simpa using e1, by simpa using e2⟩
    · rintro ⟨i, e1, e2⟩
      cases i with
      | zero => simp at e2; exact .inl e2.symm
      | succ i => exact .inr ⟨i, by simpa using e1, by simpa using e2⟩
theorem ioAs_inj {m : List Bool} {vs : List V} {ds : List D} (h : ArgR G H F m vs ds) : (ioAs m vs).Nodup → ∀ {i j : Nat} {a : Addr}, m[i]? = some true → vs[i]? = some (.ref a) → m[j]? = some true → vs[j]? = some (.ref a) → i = j := by
  induction h with
  | nil => intro _ i j a e; simp at e
  | @val m v vs d ds r _ ih =>
    intro nd i j a e1 e2 e3 e4
    unfold ioAs at nd
    cases i with
    | zero => simp at e1
    | succ i =>
      cases j with
      | zero => simp at e3
      | succ j => exact congrArg (· + 1) (ih nd (by simpa using e1) (by simpa using e2) (by simpa using e3) (by simpa using e4))
  | @io m b vs d ds t f ar ih =>
    intro nd i j a e1 e2 e3 e4
    unfold ioAs at nd
    rw [List.nodup_cons] at nd
    cases i with
    | zero =>
      cases j with
      | zero => rfl
      | succ j =>
        simp at e2
        subst e2
        exact absurd ((ioAs_mem ar).mpr ⟨j, by simpa using e3, by simpa using e4⟩) nd.1
    | succ i =>
      cases j with
      | zero =>
        simp at e4
        subst e4
        exact absurd ((ioAs_mem ar).mpr ⟨i, by simpa using e1, by simpa using e2⟩) nd.1
      | succ j => exact congrArg (· + 1) (ih nd.2 (by simpa using e1) (by simpa using e2) (by simpa using e3) (by simpa using e4))
theorem outs_ok {T : Addr → D → Prop} {m : List Bool} {vs : List V} {ds : List D} (h : ArgR G H F m vs ds) : ∀ {ε : Ev} {outs : List D}, outsE m ε = some outs →
    (∀ (i : Nat) (a : Addr) (d : D), m[i]? = some true → vs[i]? = some (.ref a) → ε[i]? = some (.io d) → T a d) → outs.length = (ioAs m vs).length ∧ ∀ (n : Nat) (a : Addr) (d : D), (ioAs m vs)[n]? = some a → outs[n]? = some d → T a d := by
  induction h with
  | nil =>
    intro ε outs e _
    simp [outsE] at e
    subst e
    exact ⟨rfl, fun n a d e => by simp [ioAs] at e⟩
  | @val m v vs d ds r _ ih =>
    intro ε outs e hT
    unfold ioAs
    cases ε with
    | nil => cases e
    | cons s ε =>
      simp only [outsE] at e
      exact ih e fun i a d e1 e2 e3 => hT (i + 1) a d (by simpa using e1) (by simpa using e2) (by simpa using e3)
  | @io m b vs d ds t f ar ih =>
    intro ε outs e hT
    unfold ioAs
    cases ε with
    | nil => cases e
    | cons s ε =>
      cases s with
      | io d' =>
        simp only [outsE] at e
        cases q : outsE m ε with
        | none => rw [q] at e; cases e
        | some os =>
          rw [q] at e
          cases e
          obtain ⟨h1, h2⟩ := ih q fun i a d e1 e2 e3 => hT (i + 1) a d (by simpa using e1) (by simpa using e2) (by simpa using e3)
          refine ⟨by simp [h1], fun n a d e1 e2 => ?_⟩
          cases n with
          | zero =>
            simp at e1 e2
            subst e1 e2
            exact hT 0 _ _ rfl rfl rfl
          | succ n => exact h2 n a d (by simpa using e1) (by simpa using e2)
      | _ => cases e
theorem start_get {N : List Str} {vs : List V} {i : Nat} {v : V} (h : vs[i]? = some v) : (L2.start N vs)[i]? = some (some v) := by
  unfold L2.start
  have hi : i < (vs.map some).length := by simpa using (List.getElem?_eq_some_iff.mp h).1
  rw [List.getElem?_append_left hi, List.getElem?_map, h]
  rfl
theorem start_inv {N : List Str} {vs : List V} {i : Nat} {v : V} (h : (L2.start N vs)[i]? = some (some v)) : vs[i]? = some v := by
  unfold L2.start at h
  by_cases hi : i < (vs.map some).length
  · rw [List.getElem?_append_left hi, List.getElem?_map] at h
    cases q : vs[i]? with
    | none => rw [q] at h; cases h
    | some u => rw [q] at h; cases h; rfl
  · rw [List.getElem?_append_right (by omega)] at h
    rw [List.getElem?_replicate] at h
    split at h <;> cases h
theorem noE_get {m : List Bool} {ds : List D} {n i : Nat} {s : Sl} (h : (startE m ds ++ List.replicate n Sl.no)[i]? = some s) : (startE m ds)[i]? = some s ∨ s = .no := by
  by_cases hi : i < (startE m ds).length
  · rw [List.getElem?_append_left hi] at h
    exact .inl h
  · rw [List.getElem?_append_right (by omega), List.getElem?_replicate] at h
    split at h <;> cases h
    exact .inr rfl
theorem Ok.st0 {N : List Str} {m : List Bool} {vs : List V} {ds : List D} (hN : m.length ≤ N.length) (fo : FOld H F) (ar : ArgR G H F m vs ds) (tb : ∀ p ∈ G.T, LamX.TabS H p.1 p.2) (nd : (ioAs m vs).Nodup) :
    Ok G ⟨H, fun i a => m[i]? = some true ∧ vs[i]? = some (.ref a), fun q => F q ∧ q ∉ ioAs m vs⟩ H (L2.start N vs) (startE m ds ++ List.replicate (N.length - m.length) .no) := by
  obtain ⟨l1, l2⟩ := ar.len
  have ow1 : ∀ p, own (L2.start N vs) (startE m ds ++ List.replicate (N.length - m.length) .no) p → p ∈ ioAs m vs := fun p ⟨i, s, e, mu, q⟩ => by
    rcases noE_get e with e | rfl
    · obtain ⟨v, ev, h⟩ := startE_get ar e
      have q := start_inv q
      rw [ev] at q; cases q
      rcases h with ⟨d, rfl, _⟩ | ⟨a, d, rfl, e1, t, f, hm⟩
      · cases mu
      · cases e1
        exact (ioAs_mem ar).mpr ⟨i, hm, ev⟩
    · cases mu
  have hF : ∀ q, Fr.F ⟨H, fun i a => m[i]? = some true ∧ vs[i]? = some (.ref a), fun q => F q ∧ q ∉ ioAs m vs⟩ (L2.start N vs) (startE m ds ++ List.replicate (N.length - m.length) .no) q → F q := fun q z => by
    rcases z with z | z
    · exact z.1
    · obtain ⟨i, hm, ev⟩ := (ioAs_mem ar).mp (ow1 q z)
      obtain ⟨d, e⟩ := startE_io ar hm ev
      obtain ⟨v, ev', h⟩ := startE_get ar e
      rw [ev] at ev'; cases ev'
      rcases h with ⟨d, e2, _⟩ | ⟨a, d, _, e1, t, f, _⟩
      · cases e2
      · cases e1; exact f
  have mv : Mv H H F _ := Mv.less hF
  refine ⟨?_, fun b o e _ _ => e, ?_, ?_, ?_, ?_, ?_, ?_, ?_, ?_, ?_, tb, fun _ e => e⟩
  · unfold L2.start
    simp [startE_len ar]
    omega
  · intro i j s t p e1 m1 e2 m2 q1 q2
    rcases noE_get e1 with e1 | rfl
    · rcases noE_get e2 with e2 | rfl
      · obtain ⟨v, ev, h⟩ := startE_get ar e1
        obtain ⟨u, eu, h'⟩ := startE_get ar e2
        have q1 := start_inv q1
        have q2 := start_inv q2
        rw [ev] at q1; cases q1
        rw [eu] at q2; cases q2
        rcases h with ⟨d, rfl, _⟩ | ⟨a, d, rfl, e1, t, f, hm⟩
        · cases m1
        · rcases h' with ⟨d, rfl, _⟩ | ⟨a', d', rfl, e1', t', f', hm'⟩
          · cases m2
          · exact ioAs_inj ar nd hm ev hm' eu
      · cases m2
    · cases m1
  · intro i d p e q
    rcases noE_get e with e | e
    · obtain ⟨v, ev, h⟩ := startE_get ar e
      rcases h with ⟨d, e2, _⟩ | ⟨a, d, e2, _⟩ <;> cases e2
    · cases e
  · intro p z w
    exact w.2 (ow1 p z)
  · intro p z
    exact fo p z.1
  · intro i d e
    rcases noE_get e with e | e
    · obtain ⟨v, ev, h⟩ := startE_get ar e
      rcases h with ⟨d, e2, r⟩ | ⟨a, d, e2, _⟩
      · cases e2
        exact ⟨v, start_get ev, r.mv mv⟩
      · cases e2
    · cases e
  · intro i d e
    rcases noE_get e with e | e
    · obtain ⟨v, ev, h⟩ := startE_get ar e
      rcases h with ⟨d, e2, _⟩ | ⟨a, d, e2, _⟩ <;> cases e2
    · cases e
  · intro i d e
    rcases noE_get e with e | e
    · obtain ⟨v, ev, h⟩ := startE_get ar e
      rcases h with ⟨d, e2, _⟩ | ⟨a, d, e2, rfl, t, f, _⟩
      · cases e2
      · cases e2
        exact ⟨a, start_get ev, t.mv mv rfl⟩
    · cases e
  · rintro i a ⟨hm, ev⟩
    obtain ⟨d, e⟩ := startE_io ar hm ev
    refine ⟨start_get ev, d, ?_⟩
    rw [List.getElem?_append_left (List.getElem?_eq_some_iff.mp e).1]
    exact e
  · intro i d e
    rcases noE_get e with e | e
    · obtain ⟨v, ev, h⟩ := startE_get ar e
      rcases h with ⟨d, e2, _⟩ | ⟨a, d, e2, rfl, t, f, hm⟩
      · cases e2
      · exact ⟨a, hm, ev⟩
    · cases e
/-- a def is what its body computes -/
theorem fn_plainC {x : Str} {st : Stmt} {f : Addr} {fd : FuncData} {N ps : List Str} {mask : List Bool} {den : Dn Fl} (Fu : Fun G.K x x st f fd) (S : FnScope N ps (defScope st)) (hl : mask.length = ps.length) (hN : mask.length ≤ N.length)
    (body : ∀ (cdv : Value), cdv = fd.code → ∀ (A : Around) (outer : List Env) (s : Shared) (H : Hp) (E : XK), Cok G (cxOf (L2.CX G.prog G.w) G.prog G.w G.K G.mg G.base N x (defScope st) f cdv A outer s H E) (fun c d _ H' => E c d H') k →
      PBp G (cxOf (L2.CX G.prog G.w) G.prog G.w G.K G.mg G.base N x (defScope st) f cdv A outer s H E) (fun c d _ H' => E c d H') (defBody st) den) :
    FnP G (k + 1) f fd ps mask (bodyF mask N.length den) := by
  refine gun_okC Fu S (fun vs H Q E h => ?_) (fun cdv hcode A outer s H vs Q E hr hg h => ?_)
  · obtain ⟨F, ds, _, _, ar, _⟩ := h
    rw [ar.len.1, hl]
  · obtain ⟨F, ds, fo, tb, ar, nd, pf⟩ := h
    refine ⟨_, body cdv hcode A outer s H E ⟨rfl, rfl, rfl, rfl, rfl, rfl, hr, hg, takes_of rfl rfl rfl rfl, passes_of rfl⟩, ?_⟩
    refine ⟨_, _, Ok.st0 hN fo ar tb nd, ?_⟩
    unfold bodyF at pf
    generalize hε : startE mask ds ++ List.replicate (N.length - mask.length) Sl.no = ε0 at pf
    -- the end's frame
    have fin : ∀ {C' : Fr} {σ' : L2.St} {ε' : Ev} {H' : Hp} {F' : Addr → Prop}, Ok G C' H' σ' ε' → C'.io = (fun i a => mask[i]? = some true ∧ vs[i]? = some (.ref a)) →
        (∀ b, F' b → C'.F σ' ε' b) → ∀ outs, outsE mask ε' = some outs → Outs G H' F' (ioAs mask vs) outs := fun {C' σ' ε' H' F'} ok hio inc outs eo => by
      obtain ⟨a1, a2⟩ := outs_ok (T := Top G H' F') ar eo fun i a d hm ev e => by
        obtain ⟨p, q, t⟩ := ok.io i d e
        have := (ok.ioA i a (by rw [hio]; exact ⟨hm, ev⟩)).1
        rw [q] at this; cases this
        exact t.mv (Mv.less inc) rfl
      exact ⟨a1, a2⟩
    have inc : ∀ {σ' : L2.St} {ε' : Ev} {H' : Hp}, Ok G ⟨H, fun i a => mask[i]? = some true ∧ vs[i]? = some (.ref a), fun q => F q ∧ q ∉ ioAs mask vs⟩ H' σ' ε' →
        ∀ b, F b → Fr.F ⟨H, fun i a => mask[i]? = some true ∧ vs[i]? = some (.ref a), fun q => F q ∧ q ∉ ioAs mask vs⟩ σ' ε' b := fun {σ' ε' H'} ok b hb => by
      by_cases c : b ∈ ioAs mask vs
      · obtain ⟨i, hm, ev⟩ := (ioAs_mem ar).mp c
        obtain ⟨q, d, e⟩ := ok.ioA i b ⟨hm, ev⟩
        exact .inr ⟨i, _, e, rfl, q⟩
      · exact .inl ⟨hb, c⟩
    have kpt : ∀ {σ' : L2.St} {ε' : Ev} {H' : Hp}, Ok G ⟨H, fun i a => mask[i]? = some true ∧ vs[i]? = some (.ref a), fun q => F q ∧ q ∉ ioAs mask vs⟩ H' σ' ε' → (∀ b, H' b = none → H b = none) → Kpt G (ioAs mask vs) H H' :=
      fun {σ' ε' H'} ok al => ⟨fun b o e n t => ok.kept b o e (fun i hi => n ((ioAs_mem ar).mpr ⟨i, hi⟩)) t, al, ok.tb⟩
    have endOk : ∀ {σ' : L2.St} {ε' : Ev} {H' : Hp} {v : V} {fv : Fv} {outs : List D}, Ok G ⟨H, fun i a => mask[i]? = some true ∧ vs[i]? = some (.ref a), fun q => F q ∧ q ∉ ioAs mask vs⟩ H' σ' ε' → (∀ b, H' b = none → H b = none) →
        VR G ⟨H, fun i a => mask[i]? = some true ∧ vs[i]? = some (.ref a), fun q => F q ∧ q ∉ ioAs mask vs⟩ H H' σ' ε' v fv → (∀ i, fv ≠ .at i) → outsE mask ε' = some outs → PostF G H F (ioAs mask vs) Q E (.ok fv outs) → Q v H' := by
      intro σ' ε' H' v fv outs ok al vr hat eo pf
      refine pf v H' (kpt ok al) ?_
      cases fv with
      | «at» i => exact absurd rfl (hat i)
      | sh d => exact ⟨fin ok rfl (inc ok) outs eo, vr.mv (Mv.less (inc ok))⟩
      | fr d =>
        obtain ⟨p, rfl, hn, np, kp, t⟩ := vr
        have inc2 : ∀ b, (F b ∨ b = p) → Fr.F (Fr.add ⟨H, fun i a => mask[i]? = some true ∧ vs[i]? = some (.ref a), fun q => F q ∧ q ∉ ioAs mask vs⟩ p) σ' ε' b := fun b z => by
          rcases z with z | z
          · exact (inc ok b z).imp .inl id
          · exact .inl (.inr z)
        exact ⟨p, rfl, hn, fin kp rfl inc2 outs eo, t.mv (Mv.less inc2) rfl⟩
    cases e : den ε0 with
    | no => rw [e] at pf; exact pf.elim
    | exc y ε' =>
      rw [e] at pf
      dsimp only at pf
      cases eo : outsE mask ε' with
      | none => rw [eo] at pf; exact pf.elim
      | some outs =>
        rw [eo] at pf
        intro c d σ' H' st ok xr
        refine pf c d H' (kpt ok st.al) (fin ok rfl (inc ok) outs eo) ?_
        obtain ⟨g, xr⟩ := xr
        refine ⟨g, xr.imp id ?_⟩
        rintro ⟨a, ws, e1, e2, e3, r⟩
        exact ⟨a, ws, e1, e2, e3, r.mv (Mv.less (inc ok))⟩
    | ok fl ε' =>
      rw [e] at pf
      dsimp only at pf
      unfold endF at pf
      cases eo : outsE mask ε' with
      | none => rw [eo] at pf; exact pf.elim
      | some outs =>
        rw [eo] at pf
        cases fl with
        | bk => exact pf.elim
        | ct => exact pf.elim
        | nx => exact fun σ' H' st ok => endOk (fv := .sh .non) ok st.al .non (fun i z => by cases z) eo pf
        | rt fv =>
          cases fv with
          | «at» i => exact pf.elim
          | sh d => exact fun σ' v H' st ok vr => endOk ok st.al vr (fun i z => by cases z) eo pf
          | fr d => exact fun σ' v H' st ok vr => endOk ok st.al vr (fun i z => by cases z) eo pf
theorem fn_plain {x : Str} {st : Stmt} {f : Addr} {fd : FuncData} {N ps : List Str} {mask : List Bool} {den : Dn Fl} (Fu : Fun G.K x x st f fd) (S : FnScope N ps (defScope st)) (hl : mask.length = ps.length) (hN : mask.length ≤ N.length)
    (body : ∀ (cdv : Value) (A : Around) (outer : List Env) (s : Shared) (H : Hp) (E : XK), Cok G (cxOf (L2.CX G.prog G.w) G.prog G.w G.K G.mg G.base N x (defScope st) f cdv A outer s H E) (fun c d _ H' => E c d H') k →
      PBp G (cxOf (L2.CX G.prog G.w) G.prog G.w G.K G.mg G.base N x (defScope st) f cdv A outer s H E) (fun c d _ H' => E c d H') (defBody st) den) :
    FnP G (k + 1) f fd ps mask (bodyF mask N.length den) := fn_plainC Fu S hl hN fun cdv _ => body cdv
end
end PL
namespace PL
open PySem PySem.Spec PyProof.Rows L2 AB
open TL (tl)
/-! ### list comprehensions -/
def wipeE (ε : Ev) : List Nat → Ev
  | [] => ε
  | v :: vs => (wipeE ε vs).set v .no
def resE (ε' ε1 : Ev) : List Nat → Ev
  | [] => ε'
  | v :: vs => resE (ε'.set v (match ε1[v]? with
    | some s => s
    | none => .no)) ε1 vs
def noMut (ε : Ev) (vs : List Nat) : Bool := vs.all fun v => match ε[v]? with
  | some s => !s.mut
  | none => false
def compD (vs : List Nat) (g : Tg) (c : Dn Bool) (e : Dn Fv) : List D → List D → Dn (List D)
  | [], acc => fun ε => .ok acc ε
  | x :: xs, acc => fun ε => match g x ε with
    | none => .no
    | some ε1 => match c ε1 with
      | .ok true ε2 => match e ε2 with
        | .ok fv ε3 => match shr [fv.old] ε3 with
          | some ([d], ε4) => if acc.length < 16000000 then compD vs g c e xs (acc ++ [d]) (wipeE ε4 vs) else .no
          | _ => .no
        | _ => .no
      | .ok false ε2 => compD vs g c e xs acc (wipeE ε2 vs)
      | _ => .no
def dLc (di : Dn (List D)) (vs : List Nat) (g : Tg) (c : Dn Bool) (e : Dn Fv) : Dn Fv := fun ε => (di ε).bind fun xs ε1 =>
  if noMut ε1 vs = true then (compD vs g c e xs [] (wipeE ε1 vs)).bind fun ds ε2 => .ok (.fr (.lst ds)) (resE ε2 ε1 vs) else .no
section
variable {G : Gx} {X : Cx} {W : WX} {C : Fr} {σ : L2.St} {ε : Ev} {H H' : Hp} {F : Addr → Prop} {k : Nat}
theorem Ok.wip (k : Ok G C H σ ε) : ∀ (vs : List Nat), (∀ v ∈ vs, ∀ a, ¬C.io v a) → Ok G C H (wipe σ vs) (wipeE ε vs) ∧ ∀ b, own (wipe σ vs) (wipeE ε vs) b → own σ ε b
  | [], _ => ⟨k, fun _ z => z⟩
  | v :: vs, h => by
    obtain ⟨k1, o⟩ := Ok.wip k vs fun i hi => h i (List.mem_cons_of_mem _ hi)
    refine ⟨k1.put rfl (fun d e => ?_) (fun d e => by cases e), fun b z => o b (own_set' rfl z)⟩
    obtain ⟨a, ha⟩ := k1.ioB v d e
    exact h v List.mem_cons_self a ha
theorem wipe_none {σ : L2.St} {v : Nat} {vs : List Nat} (h : v ∈ vs) {u : V} : (wipe σ vs)[v]? ≠ some (some u) := fun e => (wipe_some e).2 h
theorem Ok.restore {ε1 : Ev} {Fs : Addr → Prop} : ∀ (vs : List Nat) {ε' : Ev}, vs.Nodup → Ok G C H (wipe σ vs) ε' → (∀ b, C.F (wipe σ vs) ε' b → Fs b) → (∀ v ∈ vs, v < σ.length) → (∀ v ∈ vs, ∃ s, ε1[v]? = some s ∧ s.mut = false ∧ ∀ d, s = .sh d → ∃ u, σ[v]? = some (some u) ∧ Rp G H Fs u d) →
    Ok G C H σ (resE ε' ε1 vs) ∧ ∀ b, own σ (resE ε' ε1 vs) b → own (wipe σ vs) ε' b
  | [], ε', _, k, _, _, _ => ⟨k, fun _ z => z⟩
  | v :: vs, ε', nd, k, inc, hlen, h => by
    rw [List.nodup_cons] at nd
    obtain ⟨s, e1, ms, hs⟩ := h v List.mem_cons_self
    unfold resE
    rw [e1]
    dsimp only
    have hl : v < σ.length := hlen v List.mem_cons_self
    have eσ : σ[v]? = some σ[v] := List.getElem?_eq_getElem hl
    have back : (L2.wipe σ (v :: vs)).set v σ[v] = L2.wipe σ vs := by
      show ((L2.wipe σ vs).set v none).set v σ[v] = L2.wipe σ vs
      rw [List.set_set]
      exact set_self ((wipe_out nd.1).trans eσ)
    have k1 := k.put (i := v) (v := σ[v]) (s := s) ms (fun d e => by
      obtain ⟨p, q, _⟩ := k.io v d e
      exact wipe_none List.mem_cons_self q) (fun d e => by
      obtain ⟨u, eu, r⟩ := hs d e
      rw [eσ] at eu
      exact ⟨u, Option.some.inj eu, r.mv (Mv.less inc)⟩)
    have o1 : ∀ b, own (L2.wipe σ vs) (ε'.set v s) b → own (L2.wipe σ (v :: vs)) ε' b := fun b z => own_set' (i := v) (v := σ[v]) ms (by rw [back]; exact z)
    rw [back] at k1
    obtain ⟨k2, o2⟩ := Ok.restore vs nd.2 k1 (fun b z => inc b (z.imp id (o1 b))) (fun i hi => hlen i (List.mem_cons_of_mem _ hi)) fun i hi => h i (List.mem_cons_of_mem _ hi)
    exact ⟨k2, fun b z => o1 b (o2 b z)⟩
theorem Ok.wr {D : Addr} {o : HO} (ht : ∀ P q, LamX.TabS H P q → LamX.TabS (upd H D o) P q) (k : Ok G (C.add D) H σ ε) (h0 : C.H0 D = none) : Ok G (C.add D) (upd H D o) σ ε := by
  have m : Mv H (upd H D o) ((C.add D).F σ ε) ((C.add D).F σ ε) := ⟨fun b u e n _ => by rw [upd_ne fun z => n (.inl (.inr z))]; exact e, fun b z => .inl z⟩
  have ne : ∀ {p : Addr}, own σ ε p → p ≠ D := fun {p} z e => k.nf p z (.inr e)
  refine ⟨k.len, fun b u e n t => ?_, k.inj, k.new, k.nf, fun q z e => ?_, ?_, ?_, ?_, k.ioA, k.ioB, fun p hp => ht _ _ (k.tb p hp), fun b e => k.h0 b ?_⟩
  · rw [upd_ne fun z => by subst z; rw [show C.H0 b = some u from e] at h0; cases h0]
    exact k.kept b u e n t
  · unfold upd at e
    split at e
    · cases e
    · exact k.f0 q z e
  · intro i d e
    obtain ⟨v, q, r⟩ := k.sh i d e
    exact ⟨v, q, r.mv m⟩
  · intro i d e
    obtain ⟨p, q, r⟩ := k.ow i d e
    exact ⟨p, q, r.mv m (upd_ne (ne ⟨i, _, e, rfl, q⟩))⟩
  · intro i d e
    obtain ⟨p, q, r⟩ := k.io i d e
    exact ⟨p, q, r.mv m (upd_ne (ne ⟨i, _, e, rfl, q⟩))⟩
  · unfold upd at e
    split at e
    · cases e
    · exact e
theorem wipe_off {σ2 : L2.St} {vs is : List Nat} (hsub : ∀ i ∈ is, i ∈ vs) (h : Off is (L2.wipe σ vs) σ2) : L2.wipe σ2 vs = L2.wipe σ vs := by
  have hl : σ2.length = σ.length := by rw [h.1, wipe_length]
  apply List.ext_getElem?
  intro j
  by_cases c : j ∈ vs
  · by_cases hj : j < σ.length
    · have none_of : ∀ (τ : L2.St), τ.length = σ.length → (L2.wipe τ vs)[j]? = some none := fun τ ht => by
        have h1 : j < (L2.wipe τ vs).length := by rw [wipe_length, ht]; exact hj
        rw [List.getElem?_eq_getElem h1]
        cases q : (L2.wipe τ vs)[j] with
        | none => rfl
        | some u => exact absurd (by rw [List.getElem?_eq_getElem h1, q]) (wipe_none (σ := τ) c (u := u))
      rw [none_of σ2 hl, none_of σ rfl]
    · rw [List.getElem?_eq_none (by rw [wipe_length]; omega), List.getElem?_eq_none (by rw [wipe_length]; omega)]
  · rw [wipe_out c, h.2 j fun z => c (hsub j z)]
/-- the comprehension's reading -/
theorem lc_read {di : Dn (List D)} {vs is : List Nat} {g : Tg} {c : Dn Bool} {e : Dn Fv} (hnd : vs.Nodup) (hsub : ∀ i ∈ is, i ∈ vs) {σ : L2.St} {H : Hp} {Q : VK} (h : wE G W (dLc di vs g c e) σ H Q) :
    tLc (wI G W di) (wG G is g) (wT G W0 c) (wE G W0 e) vs σ H Q := by
  obtain ⟨C, ε, ok, post⟩ := h
  refine wI_bind (P := PostE G W C σ ε H Q) ok post (fun _ _ h => h) id fun xs ε1 J H1 st1 ok1 yl p1 => ?_
  have p1 := PostE.from st1 p1
  split at p1
  case isFalse => exact p1.elim
  case isTrue hnm =>
  intro D hD
  have slot : ∀ v ∈ vs, ∃ s, ε1[v]? = some s ∧ s.mut = false := fun v hv => by
    have := (List.all_eq_true.mp hnm) v hv
    cases q : ε1[v]? with
    | none => rw [q] at this; cases this
    | some s => rw [q] at this; exact ⟨s, rfl, by simpa using this⟩
  have noio : ∀ v ∈ vs, ∀ a, ¬C.io v a := fun v hv a ha => by
    obtain ⟨_, d, e1⟩ := ok1.ioA v a ha
    obtain ⟨s, e2, ms⟩ := slot v hv
    rw [e1] at e2; cases e2; cases ms
  have h0D : C.H0 D = none := (ok1.fresh hD).1
  obtain ⟨kw, ow⟩ := ok1.wip vs noio
  have lenσ : ∀ v ∈ vs, v < σ.length := fun v hv => by
    obtain ⟨s, e2, _⟩ := slot v hv
    rw [ok1.len]; exact (List.getElem?_eq_some_iff.mp e2).1
  refine ⟨fun i m H' => ∃ ε' acc vacc, Ok G (C.add D) H' (L2.wipe σ vs) ε' ∧ H' D = some (.lst vacc) ∧ RpAll G H' ((C.add D).F (L2.wipe σ vs) ε') vacc acc ∧ Stp σ ε1 (L2.wipe σ vs) ε' H1 H' ∧ i ≤ xs.length ∧ m = xs.length - i ∧
    PostE G W C σ ε1 H1 Q ((compD vs g c e (xs.drop i) acc ε').bind fun ds ε2 => .ok (.fr (.lst ds)) (resE ε2 ε1 vs)), ⟨xs.length, wipeE ε1 vs, [], [], kw.add hD, upd_same, .nil,
      ⟨fun b o e _ _ => grow_new hD b o e, fun b z => .inl (ow b z), fun b z => none_of_grow (grow_new hD) z⟩, Nat.zero_le _, rfl, p1⟩, ?_⟩
  rintro i m H2 ⟨ε2, acc, vacc, ok2, hD2, racc, st2, hi, rfl, p2⟩
  have mv2 : Mv H1 H2 (C.F σ ε1) ((C.add D).F (L2.wipe σ vs) ε2) := by
    have m := st2.mv (C := C)
    refine ⟨m.keep, fun b z => ?_⟩
    rcases z with (z | z) | z
    · exact .inl (.inl z)
    · exact .inr ((show b = D from z) ▸ hD)
    · exact (m.frb b (.inr z))
  obtain ⟨y1, y2⟩ := yl i H2 _ mv2 ok2.fold
  by_cases hc : i = xs.length
  · subst hc
    rw [List.drop_length] at p2
    refine .inl ⟨y2 rfl, ?_⟩
    have hres : ∀ v ∈ vs, ∃ s, ε1[v]? = some s ∧ s.mut = false ∧ ∀ d, s = .sh d → ∃ u, σ[v]? = some (some u) ∧ Rp G H2 ((C.add D).F (L2.wipe σ vs) ε2) u d := fun v hv => by
      obtain ⟨s, e2, ms⟩ := slot v hv
      refine ⟨s, e2, ms, fun d es => ?_⟩
      subst es
      obtain ⟨u, eu, r⟩ := ok1.sh v d e2
      exact ⟨u, eu, r.mv mv2⟩
    obtain ⟨k3, o3⟩ := Ok.restore vs hnd ok2 (fun _ z => z) lenσ hres
    refine p2 _ H2 ⟨st2.keep, fun b z => st2.own b (o3 b z), st2.al⟩ k3.unadd ⟨D, rfl, hD, ?_, k3, ⟨vacc, hD2, racc.mv (Mv.less fun b z => z.imp id (o3 b))⟩⟩
    rintro (z | z)
    · exact (ok1.fresh hD).2 (.inl z)
    · exact k3.nf D z (.inr rfl)
  · have hlt : i < xs.length := by omega
    obtain ⟨go, yld⟩ := y1 xs[i] (List.getElem?_eq_getElem hlt)
    rw [List.drop_eq_getElem_cons hlt] at p2
    refine .inr ⟨go, fun H' => ∃ ε' acc vacc, Ok G (C.add D) H' (L2.wipe σ vs) ε' ∧ H' D = some (.lst vacc) ∧ RpAll G H' ((C.add D).F (L2.wipe σ vs) ε') vacc acc ∧ Stp σ ε1 (L2.wipe σ vs) ε' H1 H' ∧
      PostE G W C σ ε1 H1 Q ((compD vs g c e (xs.drop (i + 1)) acc ε').bind fun ds ε2 => .ok (.fr (.lst ds)) (resE ε2 ε1 vs)),
      fun H' ⟨ε', acc, vacc, a1, a2, a3, a4, a5⟩ => ⟨xs.length - (i + 1), by omega, ε', acc, vacc, a1, a2, a3, a4, by omega, rfl, a5⟩, fun x H3 hy => ?_⟩
    obtain ⟨gr, rx⟩ := yld x H3 hy
    unfold compD at p2
    cases eg : g xs[i] ε2 with
    | none => rw [eg] at p2; exact p2.elim
    | some ε3 =>
      rw [eg] at p2
      dsimp only at p2
      have st3 : Stp σ ε1 (L2.wipe σ vs) ε2 H1 H3 := st2.trans (Stp.grow gr)
      have ok3 := ok2.grow gr
      have racc3 := racc.mv ((Stp.grow (σ := L2.wipe σ vs) (ε := ε2) gr).mv (C := C.add D))
      refine ⟨C.add D, ε2, xs[i], ε3, ok3, rx, eg, fun σ4 H4 off st4 ok4 => ⟨wipe_off hsub off, ?_⟩⟩
      have hw4 := wipe_off hsub off
      have wip : ∀ {ε' : Ev} {H' : Hp}, Ok G (C.add D) H' σ4 ε' → Ok G (C.add D) H' (L2.wipe σ vs) (wipeE ε' vs) ∧ ∀ b, own (L2.wipe σ vs) (wipeE ε' vs) b → own σ4 ε' b := fun {ε' H'} k => by
        have := k.wip vs noio
        rwa [hw4] at this
      have keepD : ∀ {ε' : Ev} {H' : Hp}, Stp (L2.wipe σ vs) ε2 σ4 ε' H3 H' → H' D = some (.lst vacc) := fun {ε' H'} st =>
        st.keep D _ (gr _ _ hD2) (fun z => ok3.nf D z (.inr rfl)) .lst
      refine ⟨C.add D, ε3, ok4, ?_⟩
      cases ec : c ε3 with
      | no => rw [ec] at p2; exact p2.elim
      | exc x ε' => rw [ec] at p2; exact p2.elim
      | ok b ε4 =>
        rw [ec] at p2
        intro H5 st5 ok5
        have st35 := st4.trans st5
        cases b with
        | false =>
          rw [if_neg Bool.false_ne_true]
          obtain ⟨k6, o6⟩ := wip ok5
          refine ⟨wipeE ε4 vs, acc, vacc, k6, keepD st35, ?_, ?_, p2⟩
          · exact (racc3.mv (st35.mv (C := C.add D))).mv (Mv.less fun b z => z.imp id (o6 b))
          · have := st3.trans st35
            exact ⟨this.keep, fun b z => this.own b (o6 b z), this.al⟩
        | true =>
          rw [if_pos rfl]
          dsimp only at p2
          refine ⟨C.add D, ε4, ok5, ?_⟩
          cases ee : e ε4 with
          | no => rw [ee] at p2; exact p2.elim
          | exc x ε' => rw [ee] at p2; exact p2.elim
          | ok fv ε5 =>
            rw [ee] at p2
            intro y H6 st6 ok6 vr6
            dsimp only at p2
            cases es : shr [fv.old] ε5 with
            | none => rw [es] at p2; exact p2.elim
            | some r =>
              obtain ⟨ds, ε6⟩ := r
              rw [es] at p2
              obtain ⟨k7, r7, o7⟩ := shr_sound ok6 (vr6.old .nil) es
              cases r7 with
              | cons ry rn =>
                cases rn
                dsimp only at p2
                split at p2
                case isFalse => exact p2.elim
                case isTrue hacc =>
                have st36 := (st35.trans st6).trans (Stp.less (H := H6) o7)
                have hD6 := keepD st36
                have racc6 := racc3.mv (st36.mv (C := C.add D))
                obtain ⟨k8, o8⟩ := wip k7
                have k9 : Ok G (C.add D) (upd H6 D (.lst (vacc ++ [y]))) (L2.wipe σ vs) (wipeE ε6 vs) := k8.wr (fun _ _ t => tab_lst hD6 t) h0D
                refine ⟨vacc, hD6, Nat.lt_of_lt_of_le (by rw [racc.length]; exact hacc) sizeLine_big, wipeE ε6 vs, _, vacc ++ [y], k9, upd_same, ?_, ?_, p2⟩
                · have mvD : Mv H6 (upd H6 D (.lst (vacc ++ [y]))) ((C.add D).F σ4 ε6) ((C.add D).F (L2.wipe σ vs) (wipeE ε6 vs)) :=
                    ⟨fun b u e n _ => by rw [upd_ne fun z => n (.inl (.inr z))]; exact e, fun b z => .inl (z.imp id (o8 b))⟩
                  exact (racc6.mv mvD).app (.cons (ry.mv mvD) .nil)
                · have := st3.trans st36
                  refine ⟨fun b u e n t => ?_, fun b z => this.own b (o8 b z), fun b z => this.al b ?_⟩
                  · rw [upd_ne fun z => by subst z; rw [e] at hD; cases hD]
                    exact this.keep b u e n t
                  · unfold upd at z
                    split at z
                    · cases z
                    · exact z
section
variable {elt tg iter : Expr} {ifs : List Expr} {scope : Scope} {own : List (Str × Nat)} {pos : Pos} {di : Dn (List D)} {is : List Nat} {g : Tg} {c : Dn Bool} {e : Dn Fv}
theorem cOne {t : Expr} {c : Dn Bool} (h : PTp G X W t c) : PTs X [t] (wT G W c) := pts_one h
theorem eLc (cx : Cok G X W k) (hN : X.N.Nodup) (hi : PIp G X W tg iter di) (ok : BlkOk X.N X.env.scope scope own) (hnd : (own.map (·.2)).Nodup) (hsub : ∀ i ∈ is, i ∈ own.map (·.2))
    (hg : ∀ (s : Shared) (H : Hp) (C : Addr) (cl : List (Str × Addr)) (fp : List Addr), Cok G (X.blk s H scope (compEnvC scope cl C X.env) fp) W0 k → PGp G (X.blk s H scope (compEnvC scope cl C X.env) fp) tg is g)
    (ht : ∀ (s : Shared) (H : Hp) (C : Addr) (cl : List (Str × Addr)) (fp : List Addr), Cok G (X.blk s H scope (compEnvC scope cl C X.env) fp) W0 k → PTs (X.blk s H scope (compEnvC scope cl C X.env) fp) ifs (wT G W0 c))
    (he : ∀ (s : Shared) (H : Hp) (C : Addr) (cl : List (Str × Addr)) (fp : List Addr), Cok G (X.blk s H scope (compEnvC scope cl C X.env) fp) W0 k → PEp G (X.blk s H scope (compEnvC scope cl C X.env) fp) W0 elt e)
    (hs : ∀ x, foldedSetIterable iter X.env x = pure x := by intro _; rfl) : PEp G X W (.ListComp elt [⟨tg, iter, ifs, 0⟩] scope pos) (dLc di (own.map (·.2)) g c e) :=
  PE.imp (pe_lc cx.calm hN hi ok (fun s H C cl fp => hg s H C cl fp cx.blk) (fun s H C cl fp => ht s H C cl fp cx.blk) (fun s H C cl fp => he s H C cl fp cx.blk) hs) fun σ H Q h => lc_read hnd hsub h
end
end
end PL
namespace PL
open PySem PySem.Spec PyProof.Rows L2 AB
open TL (tl)
/-! ### texts -/
theorem tl_sl (l : List Nat) : tl (sl l) = l := by simp [sl, tl]
theorem sl_app (a b : List Nat) : sl a ++ sl b = sl (a ++ b) := TL.ext_tl (by rw [TL.tl_append, tl_sl, tl_sl, tl_sl])
theorem sOk_app {a b : List Nat} (h : sOk a = true) (k : sOk b = true) : sOk (a ++ b) = true := by
  unfold sOk at *
  rw [List.all_append, h, k]; rfl
theorem sOk_sub {a b : List Nat} (h : sOk b = true) (k : ∀ c ∈ a, c ∈ b) : sOk a = true := by
  unfold sOk at *
  rw [List.all_eq_true] at *
  exact fun c hc => h c (k c hc)
/-! ### plain data -/
mutual
def toPy : D → PyData
  | .non => .none
  | .bl b => .bool b
  | .int i => .int i
  | .str l => .str (sl l)
  | .tup xs => .tuple (toPys xs)
  | .lst xs => .list (toPys xs)
  | _ => .none
def toPys : List D → List PyData
  | [] => []
  | x :: xs => toPy x :: toPys xs
end
mutual
/-- == of plain data -/
def eqD : D → D → Bool
  | .non, .non => true
  | .bl a, .bl b => a == b
  | .bl a, .int j => (if a then 1 else 0) == j
  | .int i, .bl b => i == (if b then 1 else 0)
  | .int i, .int j => i == j
  | .str x, .str y => x == y
  | .tup xs, .tup ys => eqDs xs ys
  | .lst xs, .lst ys => eqDs xs ys
  | _, _ => false
def eqDs : List D → List D → Bool
  | [], [] => true
  | x :: xs, y :: ys => eqD x y && eqDs xs ys
  | _, _ => false
end
/-- plain, of nesting at most n -/
def pl : Nat → D → Bool
  | _, .non => true
  | _, .bl _ => true
  | _, .int _ => true
  | _, .str _ => true
  | n + 1, .tup xs => xs.all (pl n)
  | n + 1, .lst xs => xs.all (pl n)
  | _, _ => false
section
variable {G : Gx} {H : Hp} {F : Addr → Prop}
theorem sl_inj {a b : List Nat} : (sl a == sl b) = (a == b) := by
  by_cases h : a = b
  · subst h; simp
  · have : sl a ≠ sl b := fun e => h (by rw [← tl_sl a, e, tl_sl])
    rw [beq_eq_false_iff_ne.mpr h, beq_eq_false_iff_ne.mpr this]
mutual
theorem eqv_py : ∀ (a b : D) {n m : Nat}, pl n a = true → pl m b = true → PyData.eqv (toPy a) (toPy b) = eqD a b
  | .tup xs, .tup ys, n, m, h, k => by
    cases n with
    | zero => simp [pl] at h
    | succ n =>
      cases m with
      | zero => simp [pl] at k
      | succ m =>
        simp only [toPy, eqD, PyData.eqv]
        simp only [pl, List.all_eq_true] at h k
        exact eqvs_py xs ys h k
  | .lst xs, .lst ys, n, m, h, k => by
    cases n with
    | zero => simp [pl] at h
    | succ n =>
      cases m with
      | zero => simp [pl] at k
      | succ m =>
        simp only [toPy, eqD, PyData.eqv]
        simp only [pl, List.all_eq_true] at h k
        exact eqvs_py xs ys h k
  | .str x, .str y, n, m, h, k => by simp only [toPy, eqD, PyData.eqv, sl_inj]
  | .non, b, n, m, h, k => by cases b <;> simp_all [pl, toPy, eqD, PyData.eqv]
  | .bl a, b, n, m, h, k => by cases b <;> simp_all [pl, toPy, eqD, PyData.eqv]
  | .int a, b, n, m, h, k => by cases b <;> simp_all [pl, toPy, eqD, PyData.eqv]
  | .dct a, b, n, m, h, k => by cases n <;> simp [pl] at h
  | .dcT a, b, n, m, h, k => by cases n <;> simp [pl] at h
  | .ins a _, b, n, m, h, k => by cases n <;> simp [pl] at h
  | .ty a, b, n, m, h, k => by cases n <;> simp [pl] at h
  | .ref a, b, n, m, h, k => by cases n <;> simp [pl] at h
  | .flz a, b, n, m, h, k => by cases n <;> simp [pl] at h
  | .str x, .non, n, m, h, k => by simp [toPy, eqD, PyData.eqv]
  | .str x, .bl _, n, m, h, k => by simp [toPy, eqD, PyData.eqv]
  | .str x, .int _, n, m, h, k => by simp [toPy, eqD, PyData.eqv]
  | .str x, .tup _, n, m, h, k => by simp [toPy, eqD, PyData.eqv]
  | .str x, .lst _, n, m, h, k => by simp [toPy, eqD, PyData.eqv]
  | .tup x, .non, n, m, h, k => by simp [toPy, eqD, PyData.eqv]
  | .tup x, .bl _, n, m, h, k => by simp [toPy, eqD, PyData.eqv]
  | .tup x, .int _, n, m, h, k => by simp [toPy, eqD, PyData.eqv]
  | .tup x, .str _, n, m, h, k => by simp [toPy, eqD, PyData.eqv]
  | .tup x, .lst _, n, m, h, k => by simp [toPy, eqD, PyData.eqv]
  | .lst x, .non, n, m, h, k => by simp [toPy, eqD, PyData.eqv]
  | .lst x, .bl _, n, m, h, k => by simp [toPy, eqD, PyData.eqv]
  | .lst x, .int _, n, m, h, k => by simp [toPy, eqD, PyData.eqv]
  | .lst x, .str _, n, m, h, k => by simp [toPy, eqD, PyData.eqv]
  | .lst x, .tup _, n, m, h, k => by simp [toPy, eqD, PyData.eqv]
  | .str x, .dct _, n, m, h, k => by cases m <;> simp [pl] at k
  | .str x, .dcT _, n, m, h, k => by cases m <;> simp [pl] at k
  | .str x, .ins _ _, n, m, h, k => by cases m <;> simp [pl] at k
  | .str x, .ty _, n, m, h, k => by cases m <;> simp [pl] at k
  | .str x, .ref _, n, m, h, k => by cases m <;> simp [pl] at k
  | .str x, .flz _, n, m, h, k => by cases m <;> simp [pl] at k
  | .tup x, .dct _, n, m, h, k => by cases m <;> simp [pl] at k
  | .tup x, .dcT _, n, m, h, k => by cases m <;> simp [pl] at k
  | .tup x, .ins _ _, n, m, h, k => by cases m <;> simp [pl] at k
  | .tup x, .ty _, n, m, h, k => by cases m <;> simp [pl] at k
  | .tup x, .ref _, n, m, h, k => by cases m <;> simp [pl] at k
  | .tup x, .flz _, n, m, h, k => by cases m <;> simp [pl] at k
  | .lst x, .dct _, n, m, h, k => by cases m <;> simp [pl] at k
  | .lst x, .dcT _, n, m, h, k => by cases m <;> simp [pl] at k
  | .lst x, .ins _ _, n, m, h, k => by cases m <;> simp [pl] at k
  | .lst x, .ty _, n, m, h, k => by cases m <;> simp [pl] at k
  | .lst x, .ref _, n, m, h, k => by cases m <;> simp [pl] at k
  | .lst x, .flz _, n, m, h, k => by cases m <;> simp [pl] at k
theorem eqvs_py : ∀ (xs ys : List D) {n m : Nat}, (∀ x ∈ xs, pl n x = true) → (∀ y ∈ ys, pl m y = true) → PyData.eqvAll (toPys xs) (toPys ys) = eqDs xs ys
  | [], [], n, m, _, _ => by simp [toPys, eqDs, PyData.eqvAll]
  | [], _ :: _, n, m, _, _ => by simp [toPys, eqDs, PyData.eqvAll]
  | _ :: _, [], n, m, _, _ => by simp [toPys, eqDs, PyData.eqvAll]
  | x :: xs, y :: ys, n, m, h, k => by
    simp only [toPys, eqDs, PyData.eqvAll]
    rw [eqv_py x y (h x List.mem_cons_self) (k y List.mem_cons_self), eqvs_py xs ys (fun z hz => h z (List.mem_cons_of_mem _ hz)) (fun z hz => k z (List.mem_cons_of_mem _ hz))]
end
mutual
theorem Rp.dp : ∀ {v : V} (d : D) {n : Nat}, Rp G H F v d → pl n d = true → Dp G.K H v (toPy d) ∧ (toPy d).canLay0 = true ∧ (toPy d).depth ≤ n
  | _, .non, n, .non, _ => ⟨.non, rfl, Nat.zero_le _⟩
  | _, .bl b, n, .bl _, _ => ⟨.bl b, rfl, Nat.zero_le _⟩
  | _, .int i, n, .int _, _ => ⟨.int i, rfl, Nat.zero_le _⟩
  | _, .str l, n, .str h, _ => by
    refine ⟨.str _, ?_, Nat.zero_le _⟩
    simp only [toPy, PyData.canLay0]
    show (sl l).cps.all (· < 0x110000) = true
    unfold sOk at h
    rw [← h]
    simp [sl]
  | _, .tup ds, n, .tup s r, h => by
    cases n with
    | zero => simp [pl] at h
    | succ n =>
      simp only [pl, List.all_eq_true] at h
      obtain ⟨a, b, c⟩ := RpAll.dp ds r h
      exact ⟨.tup s.sq a, by simpa [toPy, PyData.canLay0] using b, by simp only [toPy, PyData.depth]; omega⟩
  | _, .lst ds, n, .lst e _ r, h => by
    cases n with
    | zero => simp [pl] at h
    | succ n =>
      simp only [pl, List.all_eq_true] at h
      obtain ⟨a, b, c⟩ := RpAll.dp ds r h
      exact ⟨.lst (SqL.of e) a, by simpa [toPy, PyData.canLay0] using b, by simp only [toPy, PyData.depth]; omega⟩
  | _, .dct a, n, _, h => by cases n <;> simp [pl] at h
  | _, .dcT a, n, _, h => by cases n <;> simp [pl] at h
  | _, .ins a _, n, _, h => by cases n <;> simp [pl] at h
  | _, .ty a, n, _, h => by cases n <;> simp [pl] at h
  | _, .ref a, n, _, h => by cases n <;> simp [pl] at h
  | _, .flz a, n, _, h => by cases n <;> simp [pl] at h
theorem RpAll.dp : ∀ {vs : List V} (ds : List D) {n : Nat}, RpAll G H F vs ds → (∀ d ∈ ds, pl n d = true) → DpAll G.K H vs (toPys ds) ∧ PyData.canLayAll0 (toPys ds) = true ∧ PyData.depthAll (toPys ds) ≤ n
  | _, [], n, .nil, _ => ⟨.nil, rfl, Nat.zero_le _⟩
  | _, d :: ds, n, .cons r rs, h => by
    obtain ⟨a, b, c⟩ := Rp.dp d r (h d List.mem_cons_self)
    obtain ⟨a', b', c'⟩ := RpAll.dp ds rs fun z hz => h z (List.mem_cons_of_mem _ hz)
    exact ⟨.cons a a', by simp [toPys, PyData.canLayAll0, b, b'], by simp only [toPys, PyData.depthAll]; omega⟩
end
theorem Rt.dp {v : V} {d : D} {n : Nat} (r : Rt G H F v d) (h : pl n d = true) : Dp G.K H v (toPy d) ∧ (toPy d).canLay0 = true ∧ (toPy d).depth ≤ n := by
  cases d with
  | lst ds =>
    obtain ⟨a, vs, rfl, e, r⟩ := r
    cases n with
    | zero => simp [pl] at h
    | succ n =>
      simp only [pl, List.all_eq_true] at h
      obtain ⟨a, b, c⟩ := RpAll.dp ds r h
      exact ⟨.lst (SqL.of e) a, by simpa [toPy, PyData.canLay0] using b, by simp only [toPy, PyData.depth]; omega⟩
  | dct a => cases n <;> simp [pl] at h
  | dcT a => cases n <;> simp [pl] at h
  | ins a _ => cases n <;> simp [pl] at h
  | non => exact Rp.dp _ r h
  | bl b => exact Rp.dp _ r h
  | int i => exact Rp.dp _ r h
  | str l => exact Rp.dp _ r h
  | tup ds => exact Rp.dp _ r h
  | ty a => cases n <;> simp [pl] at h
  | ref a => cases n <;> simp [pl] at h
  | flz a => cases n <;> simp [pl] at h
theorem Rt.shaped {v : V} {d : D} (r : Rt G H F v d) (h : pl 60 d = true) : Dp G.K H v (toPy d) ∧ SeqAt.shaped (toPy d) = true := by
  obtain ⟨a, b, c⟩ := r.dp h
  refine ⟨a, ?_⟩
  show ((toPy d).canLay0 && decide ((toPy d).depth ≤ 64)) = true
  rw [b, decide_eq_true (by omega)]; rfl
end
/-! ### arithmetic -/
def b01 (b : Bool) : Int := if b = true then 1 else 0
def addD : D → D → Option Fv
  | .int i, .int j => some (.sh (.int (i + j)))
  | .bl b, .int j => some (.sh (.int (b01 b + j)))
  | .str a, .str b => if a.length + b.length ≤ 16000000 then some (.sh (.str (a ++ b))) else none
  | .lst a, .lst b => if a.length + b.length ≤ 16000000 then some (.fr (.lst (a ++ b))) else none
  | .tup a, .tup b => if a.length + b.length ≤ 16000000 then some (.sh (.tup (a ++ b))) else none
  | _, _ => none
def subD : D → D → Option Fv
  | .int i, .int j => some (.sh (.int (i - j)))
  | .bl b, .int j => some (.sh (.int (b01 b - j)))
  | _, _ => none
def mulD : D → D → Option Fv
  | .int i, .int j => if i.natAbs.log2 + j.natAbs.log2 < 1000000 then some (.sh (.int (i * j))) else none
  | .str a, .int k => if 0 ≤ k ∧ k < 1000000 ∧ a.length * k.toNat ≤ 1000000 then some (.sh (.str (List.replicate k.toNat a).flatten)) else none
  | .lst a, .int k => if -(2 ^ 63) ≤ k ∧ k < 2 ^ 63 ∧ a.length * k.toNat ≤ 16000000 then some (.fr (.lst (List.replicate k.toNat a).flatten)) else none
  | _, _ => none
def modD : D → D → Option Fv
  | .int i, .int j => if 0 < j then some (.sh (.int (i % j))) else none
  | _, _ => none
def fdivD : D → D → Option Fv
  | .int i, .int j => if 0 < j ∧ j.natAbs.log2 < 9000 then some (.sh (.int (i / j))) else none
  | _, _ => none
def powD : D → D → Option Fv
  | .int i, .int j => if 0 ≤ j ∧ j ≤ 1000000 ∧ i.natAbs < 2 ^ 64 then some (.sh (.int (i ^ j.toNat))) else none
  | _, _ => none
section
variable {G : Gx} {X : Cx} {W : WX} {H : Hp} {F : Addr → Prop} {k : Nat}
theorem RpAll.rep {vs : List V} {ds : List D} (r : RpAll G H F vs ds) : ∀ n, RpAll G H F (List.replicate n vs).flatten (List.replicate n ds).flatten
  | 0 => .nil
  | n + 1 => by
    rw [List.replicate_succ, List.replicate_succ, List.flatten_cons, List.flatten_cons]
    exact r.app (r.rep n)
def rBI (g : Int → Int → Int) : R2 := fun x y H Q => ∃ b j, x = .bl b ∧ y = .int j ∧ Q (.int (g (b01 b) j)) H
theorem op_addB : OpR X (binaryOp .Add) (rBI fun i j => i + j) := by
  intro pins s σ H x y v u Q I rx ry h
  obtain ⟨b, j, rfl, rfl, q⟩ := h
  cases rx
  obtain ⟨t, rfl⟩ := ry
  exact PySem.IntBool.add_bool_int ⟨.int _, H, I.tok _, ⟨_, rfl⟩, q⟩
theorem op_subB : OpR X (binaryOp .Sub) (rBI fun i j => i - j) := by
  intro pins s σ H x y v u Q I rx ry h
  obtain ⟨b, j, rfl, rfl, q⟩ := h
  cases rx
  obtain ⟨t, rfl⟩ := ry
  exact PySem.IntBool.sub_bool_int ⟨.int _, H, I.tok _, ⟨_, rfl⟩, q⟩
def rAddD (K : PySem.W.Frag) : R2 := fun x y H Q => rI0 (fun i j => .int (i + j)) x y H Q ∨ (∃ i j, x = .str i ∧ y = .str j ∧ i.length + j.length ≤ sizeLine ∧ Q (.str (i ++ j)) H) ∨ rCat x y H Q ∨ rCatA K x y H Q ∨ rBI (fun i j => i + j) x y H Q
theorem opAdd (c : Cok G X W k) : OpR X (binaryOp .Add) (rAddD G.K) := c.hK ▸ OpR.or op_add (OpR.or op_add_str (OpR.or op_cat (OpR.or op_catA op_addB)))
theorem sAdd : OpS G (rAddD G.K) addD := by
  intro H F x y d e fv Q fo r1 r2 h p
  cases d with
  | int i =>
    cases e with
    | int j => cases r1; cases r2; cases h; exact .inl ⟨i, j, rfl, rfl, p.sh0 (.int _)⟩
    | _ => cases h
  | bl i =>
    cases e with
    | int j => cases r1; cases r2; cases h; exact .inr (.inr (.inr (.inr ⟨i, j, rfl, rfl, p.sh0 (.int _)⟩)))
    | _ => cases h
  | str a =>
    cases e with
    | str b =>
      have r1 : Rp G H F x (.str a) := r1
      have r2 : Rp G H F y (.str b) := r2
      cases r1 with
      | str h1 =>
        cases r2 with
        | str h2 =>
          simp only [addD] at h
          split at h
          · cases h
            refine .inr (.inl ⟨_, _, rfl, rfl, by rw [sl_len, sl_len]; exact sz_le (by assumption), ?_⟩)
            rw [sl_app]
            exact p.sh0 (.str (sOk_app h1 h2))
          · cases h
    | _ => cases h
  | lst a =>
    cases e with
    | lst b =>
      obtain ⟨l, vs, rfl, e1, q1⟩ := r1
      obtain ⟨m, ws, rfl, e2, q2⟩ := r2
      simp only [addD] at h
      split at h
      · cases h
        exact .inr (.inr (.inl ⟨l, m, vs, ws, rfl, rfl, e1, e2, by rw [q1.length, q2.length]; exact sz_le (by assumption), fun q hq => p.lst (q1.app q2) hq⟩))
      · cases h
    | _ => cases h
  | tup a =>
    cases e with
    | tup b =>
      have r1 : Rp G H F x (.tup a) := r1
      have r2 : Rp G H F y (.tup b) := r2
      cases r1 with
      | @tup l vs _ s1 q1 =>
        cases r2 with
        | @tup m ws _ s2 q2 =>
          simp only [addD] at h
          split at h
          · cases h
            refine .inr (.inr (.inr (.inl ⟨l, m, vs, ws, rfl, rfl, s1.sq, s2.sq, by rw [q1.length, q2.length]; exact sz_le (by assumption), fun e => ?_, fun _ e => ?_, fun _ _ q hq => p.tup (q1.app q2) hq (fo.n hq)⟩)))
            · subst e; cases q1; exact p.sh0 (.tup s2 q2)
            · subst e; cases q2; rw [List.append_nil] at p; exact p.sh0 (.tup s1 q1)
          · cases h
    | _ => cases h
  | _ => cases h
section
variable {a b : Expr} {da db : Dn Fv} {pos : Pos}
theorem eAdd (c : Cok G X W k) (ha : PEp G X W a da) (hb : PEp G X W b db) : PEp G X W (.BinOp a .Add b pos) (d2 addD da db) := e2 (pe_op (opAdd c) ha hb) sAdd
theorem sI2 {f : D → D → Option Fv} {P : Int → Int → Prop} {g : Int → Int → Int} (h : ∀ d e fv, f d e = some fv → ∃ i j, d = .int i ∧ e = .int j ∧ P i j ∧ fv = .sh (.int (g i j))) : OpS G (rI P fun i j => .int (g i j)) f := by
  intro H F x y d e fv Q fo r1 r2 hf p
  obtain ⟨i, j, rfl, rfl, hp, rfl⟩ := h d e fv hf
  cases r1; cases r2
  exact ⟨i, j, rfl, rfl, hp, p.sh0 (.int _)⟩
theorem eSub (ha : PEp G X W a da) (hb : PEp G X W b db) : PEp G X W (.BinOp a .Sub b pos) (d2 subD da db) := e2 (pe_op (OpR.or op_sub op_subB) ha hb) (by
  intro H F x y d e fv Q fo r1 r2 hf p
  cases d with
  | int i =>
    cases e with
    | int j => cases r1; cases r2; cases hf; exact .inl ⟨i, j, rfl, rfl, p.sh0 (.int _)⟩
    | _ => cases hf
  | bl i =>
    cases e with
    | int j => cases r1; cases r2; cases hf; exact .inr ⟨i, j, rfl, rfl, p.sh0 (.int _)⟩
    | _ => cases hf
  | _ => cases hf)
theorem eMod (ha : PEp G X W a da) (hb : PEp G X W b db) : PEp G X W (.BinOp a .Mod b pos) (d2 modD da db) := e2 (pe_op op_mod ha hb) (sI2 (fun d e fv h => by
  unfold modD at h
  split at h
  · split at h
    · cases h; exact ⟨_, _, rfl, rfl, by assumption, rfl⟩
    · cases h
  · cases h))
theorem eFdiv (ha : PEp G X W a da) (hb : PEp G X W b db) : PEp G X W (.BinOp a .FloorDiv b pos) (d2 fdivD da db) := e2 (pe_op op_fdivW ha hb) (sI2 (fun d e fv h => by
  unfold fdivD at h
  split at h
  · split at h
    · cases h; exact ⟨_, _, rfl, rfl, by assumption, rfl⟩
    · cases h
  · cases h))
theorem ePow (ha : PEp G X W a da) (hb : PEp G X W b db) : PEp G X W (.BinOp a .Pow b pos) (d2 powD da db) := e2 (pe_op op_pow ha hb) (sI2 (g := fun i j => i ^ j.toNat) (fun d e fv h => by
  unfold powD at h
  split at h
  · split at h
    · cases h; exact ⟨_, _, rfl, rfl, by assumption, rfl⟩
    · cases h
  · cases h))
theorem eMul (ha : PEp G X W a da) (hb : PEp G X W b db) : PEp G X W (.BinOp a .Mult b pos) (d2 mulD da db) := e2 (pe_op (OpR.or op_mulW (OpR.or op_rep_str op_rep)) ha hb) (by
  intro H F x y d e fv Q fo r1 r2 hf p
  cases d with
  | int i =>
    cases e with
    | int j =>
      cases r1; cases r2
      simp only [mulD] at hf
      split at hf
      · cases hf; exact .inl ⟨i, j, rfl, rfl, by assumption, p.sh0 (.int _)⟩
      · cases hf
    | _ => cases hf
  | str a =>
    cases e with
    | int j =>
      have r1 : Rp G H F x (.str a) := r1
      cases r2
      cases r1 with
      | str h1 =>
        simp only [mulD] at hf
        split at hf
        · rename_i c
          cases hf
          refine .inr (.inl ⟨sl a, j, rfl, rfl, c.1, c.2.1, by rw [sl_len]; exact c.2.2, ?_⟩)
          refine p.sh0 ?_
          rw [show (sl a).cps.toList = a from tl_sl a]
          exact .str (sOk_sub h1 fun c hc => by
            obtain ⟨l, hl, hc⟩ := List.mem_flatten.mp hc
            rw [(List.mem_replicate.mp hl).2] at hc
            exact hc)
        · cases hf
    | _ => cases hf
  | lst a =>
    cases e with
    | int j =>
      obtain ⟨l, vs, rfl, e1, q1⟩ := r1
      cases r2
      simp only [mulD] at hf
      split at hf
      · rename_i c
        cases hf
        exact .inr (.inr ⟨l, j, vs, rfl, rfl, e1, c.1, c.2.1, by rw [q1.length]; exact sz_le c.2.2, fun q hq => p.lst (q1.rep _) hq⟩)
      · cases hf
    | _ => cases hf
  | _ => cases hf)
def negD : D → Option Fv
  | .int i => some (.sh (.int (-i)))
  | _ => none
theorem eNeg (ha : PEp G X W a da) : PEp G X W (.UnaryOp .USub a pos) (d1 negD da) := e1 (pe_un un_neg ha) (by
  intro H F x d fv Q fo r hf p
  cases d with
  | int i => cases r; cases hf; exact ⟨i, rfl, p.sh0 (.int _)⟩
  | _ => cases hf)
/-! ### comparisons -/
def eqO (d e : D) : Option Fv := if pl 60 d = true ∧ pl 60 e = true then some (.sh (.bl (eqD d e))) else none
def neO (d e : D) : Option Fv := if pl 60 d = true ∧ pl 60 e = true then some (.sh (.bl (!eqD d e))) else none
theorem sEq : OpS G (rEqD G.K) eqO := by
  intro H F x y d e fv Q fo r1 r2 h p
  unfold eqO at h
  split at h
  · rename_i c
    cases h
    obtain ⟨a1, a2⟩ := r1.shaped c.1
    obtain ⟨b1, b2⟩ := r2.shaped c.2
    refine ⟨_, _, a1, b1, a2, b2, ?_⟩
    rw [eqv_py d e c.1 c.2]
    exact p.sh0 (.bl _)
  · cases h
theorem sNe : OpS G (rNeD G.K) neO := by
  intro H F x y d e fv Q fo r1 r2 h p
  unfold neO at h
  split at h
  · rename_i c
    cases h
    obtain ⟨a1, a2⟩ := r1.shaped c.1
    obtain ⟨b1, b2⟩ := r2.shaped c.2
    refine ⟨_, _, a1, b1, a2, b2, ?_⟩
    rw [eqv_py d e c.1 c.2]
    exact p.sh0 (.bl _)
  · cases h
theorem opEq (c : Cok G X W k) : OpR X (compareOp .Eq) (rEqD G.K) := eqK_D c.hK c.u
theorem opNe (c : Cok G X W k) : OpR X (compareOp .NotEq) (rNeD G.K) := neK_D c.hK c.u
def cmpI (g : Int → Int → Bool) : D → D → Option Fv
  | .int i, .int j => some (.sh (.bl (g i j)))
  | _, _ => none
theorem sCmp {g : Int → Int → Bool} : OpS G (rI0 fun i j => .bl (g i j)) (cmpI g) := by
  intro H F x y d e fv Q fo r1 r2 hf p
  cases d with
  | int i =>
    cases e with
    | int j => cases r1; cases r2; cases hf; exact ⟨i, j, rfl, rfl, p.sh0 (.bl _)⟩
    | _ => cases hf
  | _ => cases hf
abbrev ltD := cmpI fun i j => decide (i < j)
abbrev gtD := cmpI fun i j => decide (j < i)
abbrev geD := cmpI fun i j => decide (j ≤ i)
def flatD : D → Bool
  | .non => true
  | .bl _ => true
  | .int _ => true
  | .str _ => true
  | _ => false
end
end
end PL
namespace PL
open PySem PySem.Spec PyProof.Rows L2 AB
open TL (tl)
section
variable {G : Gx} {X : Cx} {W : WX} {H : Hp} {F : Addr → Prop} {k : Nat}
/-! ### comparisons by name -/
def OpP (G : Gx) (X : Cx) (op : CmpOp) (f : D → D → Option Fv) : Prop := ∃ r, OpR X (compareOp op) r ∧ OpS G r f
theorem cEq (c : Cok G X W k) : OpP G X .Eq eqO := ⟨_, opEq c, sEq⟩
theorem cNe (c : Cok G X W k) : OpP G X .NotEq neO := ⟨_, opNe c, sNe⟩
theorem cLt : OpP G X .Lt ltD := ⟨_, op_lt, sCmp⟩
theorem cGt : OpP G X .Gt gtD := ⟨_, op_gt, sCmp⟩
theorem cGe : OpP G X .GtE geD := ⟨_, op_ge, sCmp⟩
section
variable {a b c : Expr} {da db dc : Dn Fv} {pos : Pos} {op op' : CmpOp} {f g : D → D → Option Fv}
theorem eCmp (o : OpP G X op f) (ha : PEp G X W a da) (hb : PEp G X W b db) (hm : behindInMarks op b = false) : PEp G X W (.Compare a [op] [b] pos) (d2 f da db) := by
  obtain ⟨r, ho, hs⟩ := o
  exact e2 (pe_cmpR ho ha hb hm) hs
theorem tCmp (o : OpP G X op f) (ha : PEp G X W a da) (hb : PEp G X W b db) (hm : behindInMarks op b = false) : PTp G X W (.Compare a [op] [b] pos) (bT (d2 f da db)) := by
  obtain ⟨r, ho, hs⟩ := o
  exact tB_of (pt_cmpR ho ha hb hm) fun _ _ _ h => e2_read hs h
/-- a < b <= c -/
def dChain (f g : D → D → Option Fv) (da db dc : Dn Fv) : Dn Fv := fun ε => (da ε).bind fun x ε1 => (db ε1).bind fun y ε2 => (o2 ε2 f x.old y.old).bind fun z ε3 => match z with
  | .sh (.bl true) => (dc ε3).bind fun w ε4 => o2 ε4 g y.old w.old
  | .sh (.bl false) => .ok (.sh (.bl false)) ε3
  | _ => .no
end
/-! ### a[i] -/
def keyD : D → Option Key
  | .int i => some (.inl i)
  | .str l => some (.inr (sl l))
  | _ => none
def valD {κ : Type} [DecidableEq κ] (es : List (κ × D)) (k : κ) : Option D := (es.find? fun kv => decide (kv.1 = k)).map (·.2)
def ixD : D → D → Option Fv
  | .lst ds, .int i => (atI ds i).map .sh
  | .tup ds, .int i => (atI ds i).map .sh
  | .str l, .int i => if l.length ≤ 16000000 then (atI l i).map fun c => .sh (.str [c]) else none
  | .dct es, d => (keyD d).bind fun k => (valD es k).map .sh
  | _, _ => none
theorem atI_rp {vs : List V} {ds : List D} (r : RpAll G H F vs ds) {i : Int} {d : D} (h : atI ds i = some d) : ∃ v, atI vs i = some v ∧ Rp G H F v d := by
  unfold atI at h ⊢
  rw [r.length]
  cases q : ixN ds.length i with
  | none => rw [q] at h; cases h
  | some j =>
    rw [q] at h
    obtain ⟨v, e, rv⟩ := r.get' h
    exact ⟨v, e, rv⟩
theorem valV_rp {κ : Type} [DecidableEq κ] {k : κ} : ∀ {kvs : List (κ × V)} {es : List (κ × D)}, kvs.map (·.1) = es.map (·.1) → RpAll G H F (kvs.map (·.2)) (es.map (·.2)) → ∀ {d}, valD es k = some d → ∃ v, valV kvs k = some v ∧ Rp G H F v d
  | [], [], _, _, d, h => by cases h
  | [], _ :: _, e, _, d, h => by simp at e
  | _ :: _, [], e, _, d, h => by simp at e
  | p :: kvs, q :: es, e, r, d, h => by
    simp only [List.map_cons, List.cons.injEq] at e
    cases r with
    | cons r0 rs =>
      unfold valD at h
      unfold valV
      rw [List.find?_cons] at h ⊢
      by_cases c : p.1 = k
      · have c2 : q.1 = k := by rw [← e.1]; exact c
        rw [decide_eq_true c2] at h
        rw [decide_eq_true c]
        cases h
        exact ⟨_, rfl, r0⟩
      · have c2 : ¬q.1 = k := by rw [← e.1]; exact c
        rw [decide_eq_false c2] at h
        rw [decide_eq_false c]
        exact valV_rp (k := k) e.2 rs h
theorem Rt.key {v : V} {d : D} {k : Key} (r : Rt G H F v d) (h : keyD d = some k) : v = kV k := by
  cases d with
  | int i => cases r; cases h; rfl
  | str l => cases r; cases h; rfl
  | _ => cases h
theorem sIx (d e : D) : OpAt G (rIx G.K) ixD d e ∨ OpAt G (fun x y H Q => ∃ a v, x = .ref a ∧ DGet H a y (some v) ∧ Q v H) ixD d e := by
  cases d with
  | lst ds =>
    refine .inl fun H F x y fv Q fo r1 r2 h p => ?_
    obtain ⟨a, vs, rfl, ea, ra⟩ := r1
    cases e with
    | int i =>
      cases r2
      cases q : atI ds i with
      | none => simp [ixD, q] at h
      | some d =>
        simp [ixD, q] at h
        subst h
        obtain ⟨v, ev, rv⟩ := atI_rp ra q
        exact .inl ⟨a, vs, i, v, rfl, rfl, SqL.of ea, ev, p.sh0 rv⟩
    | _ => cases h
  | tup ds =>
    refine .inl fun H F x y fv Q fo r1 r2 h p => ?_
    have r1 : Rp G H F x (.tup ds) := r1
    cases r1 with
    | tup s ra =>
      cases e with
      | int i =>
        cases r2
        cases q : atI ds i with
        | none => simp [ixD, q] at h
        | some d =>
          simp [ixD, q] at h
          subst h
          obtain ⟨v, ev, rv⟩ := atI_rp ra q
          exact .inr (.inl ⟨_, _, i, v, rfl, rfl, s.sq, ev, p.sh0 rv⟩)
      | _ => cases h
  | str l =>
    refine .inl fun H F x y fv Q fo r1 r2 h p => ?_
    have r1 : Rp G H F x (.str l) := r1
    cases r1 with
    | str hs =>
      cases e with
      | int i =>
        cases r2
        simp only [ixD] at h
        split at h
        · rename_i hl
          cases q : atI l i with
          | none => rw [q] at h; cases h
          | some c =>
            rw [q] at h
            cases h
            refine .inr (.inr ⟨sl l, i, c, rfl, rfl, by rw [sl_len]; exact sz_le hl, by rw [show (sl l).cps.toList = l from tl_sl l]; exact q, p.sh0 (.str (sOk_mem hs ?_))⟩)
            unfold atI at q
            cases q2 : ixN l.length i with
            | none => rw [q2] at q; cases q
            | some j => rw [q2] at q; exact List.mem_of_getElem? q
        · cases h
      | _ => cases h
  | dct es =>
    refine .inr fun H F x y fv Q fo r1 r2 h p => ?_
    obtain ⟨a, kvs, rfl, ea, ek, ra⟩ := r1
    have h : (keyD e).bind (fun k => (valD es k).map .sh) = some fv := by cases e <;> exact h
    cases q : keyD e with
    | none => rw [q] at h; cases h
    | some key =>
      rw [q] at h
      simp only [Option.bind_some] at h
      cases q2 : valD es key with
      | none => rw [q2] at h; cases h
      | some d =>
        rw [q2] at h
        cases h
        obtain ⟨v, ev, rv⟩ := valV_rp ek ra q2
        have g := DGet.k (k := key) ea
        rw [ev] at g
        exact ⟨a, v, rfl, by rw [r2.key q]; exact g, p.sh0 rv⟩
  | _ => exact .inl fun H F x y fv Q fo r1 r2 h p => by cases e <;> cases h
theorem eIx {a b : Expr} {da db : Dn Fv} {pos : Pos} (c : Cok G X W k) (ha : PEp G X W a da) (hb : PEp G X W b db) (hs : PlainIx b) (hn : NoSl b) : PEp G X W (.Subscript a b pos) (d2 ixD da db) := by
  refine e2or (pe_ix (ixK_seq (K := G.K) c.hK) ha hb hs) ?_ sIx
  exact pe_dget (by have := c.u; omega) ha hb hn
/-! ### a[lo:hi] -/
def cutL {α : Type} (xs : List α) (lo hi : Option Int) : List α := (xs.drop (HT.sIx xs.length 0 lo)).take (HT.sIx xs.length xs.length hi - HT.sIx xs.length 0 lo)
theorem RpAll.cut {vs : List V} {ds : List D} (r : RpAll G H F vs ds) (lo hi : Option Int) : RpAll G H F (cutV vs lo hi) (cutL ds lo hi) := by
  unfold cutV cutL
  rw [r.length]
  exact (r.drop _).take _
theorem cutS_sl (l : List Nat) (lo hi : Option Int) : cutS (sl l) lo hi = sl (cutL l lo hi) := by
  unfold cutS cutL
  rw [sl_len, show (sl l).cps.toList = l from tl_sl l]
def slD (d : D) (lo hi : Option Int) : Option Fv := match d with
  | .lst ds => some (.fr (.lst (cutL ds lo hi)))
  | .flz ds => some (.fr (.lst (cutL ds lo hi)))
  | .tup ds => some (.sh (.tup (cutL ds lo hi)))
  | .str l => if l.length ≤ 16000000 then some (.sh (.str (cutL l lo hi))) else none
  | _ => none
theorem cutL_mem {α : Type} {l : List α} {lo hi : Option Int} {c : α} (h : c ∈ cutL l lo hi) : c ∈ l := List.mem_of_mem_drop (List.mem_of_mem_take h)
def partF (p : Option (Dn Fv)) : Dn (Option Int) := fun ε => match p with
  | none => .ok none ε
  | some d => (d ε).bind fun fv ε1 => match rd ε1 fv with
    | some (.int i) => .ok (some i) ε1
    | _ => .no
def dSl (de : Dn Fv) (lo hi : Option (Dn Fv)) : Dn Fv := fun ε => (de ε).bind fun x ε1 => (partF lo ε1).bind fun l ε2 => (partF hi ε2).bind fun u ε3 => o1 ε3 (fun d => slD d l u) x.old
def PostO (G : Gx) (W : WX) (C : Fr) (σ : L2.St) (ε : Ev) (H : Hp) (Q : Option Int → Hp → Prop) : Re (Option Int) → Prop
  | .ok b ε' => ∀ H', Stp σ ε σ ε' H H' → Ok G C H' σ ε' → Q b H'
  | .exc x ε' => PX G W C σ ε H x ε'
  | .no => False
def wO (G : Gx) (W : WX) (den : Dn (Option Int)) : TO := fun σ H Q => ∃ C ε, Ok G C H σ ε ∧ PostO G W C σ ε H Q (den ε)
theorem PO.imp {e : Option Expr} {t t' : TO} (h : PO X e t) (k : ∀ σ H Q, t' σ H Q → t σ H Q) : PO X e t' := ⟨fun pins s σ H Q I z => h.run pins s σ H Q I (k σ H Q z)⟩
theorem wO_bind {γ : Type} {P : Re γ → Prop} {C : Fr} {σ : L2.St} {ε : Ev} {da : Dn (Option Int)} {k : Option Int → Ev → Re γ} {Q' : Option Int → Hp → Prop} (ok : Ok G C H σ ε) (hP : P ((da ε).bind k)) (hx : ∀ x ε', P (.exc x ε') → PX G W C σ ε H x ε') (hn : ¬P .no)
    (hk : ∀ b ε1 H1, Stp σ ε σ ε1 H H1 → Ok G C H1 σ ε1 → P (k b ε1) → Q' b H1) : wO G W da σ H Q' := by
  refine ⟨C, ε, ok, ?_⟩
  cases e : da ε with
  | ok fv ε1 => rw [e] at hP; exact fun H1 st ok1 => hk fv ε1 H1 st ok1 hP
  | exc x ε' => rw [e] at hP; exact hx x ε' hP
  | no => rw [e] at hP; exact hn hP
theorem oN0 : PO X none (wO G W (partF none)) := PO.imp po_none fun σ H Q ⟨C, ε, ok, post⟩ => post H Stp.refl ok
theorem oS {e : Expr} {de : Dn Fv} (he : PEp G X W e de) : PO X (some e) (wO G W (partF (some de))) := by
  refine PO.imp (po_some he) ?_
  rintro σ H Q ⟨C, ε, ok, post⟩
  refine wE_bind (P := PostO G W C σ ε H Q) ok post (fun _ _ h => h) id fun fv ε1 v H1 st1 ok1 vr p => ?_
  cases q : rd ε1 fv with
  | none => rw [q] at p; exact p.elim
  | some d =>
    rw [q] at p
    have rt := (vr.old .nil).rt ok1 (ds := [d]) (by cases fv <;> simp_all [rds, rd, Fv.old])
    cases rt with
    | cons r _ =>
      cases d with
      | int i => cases r; exact ⟨i, rfl, p H1 st1 ok1⟩
      | _ => exact p.elim
theorem eSl {e : Expr} {lo hi : Option Expr} {de : Dn Fv} {dl dh : Option (Dn Fv)} {p2 pos : Pos} (c : Cok G X W k) (he : PEp G X W e de) (hl : PO X lo (wO G W (partF dl))) (hh : PO X hi (wO G W (partF dh))) : PEp G X W (.Subscript e (.Slice lo hi none p2) pos) (dSl de dl dh) := by
  have hr : SlR X (fun x lo hi H Q => rSlL G.K x lo hi H Q ∨ rSlA G.K x lo hi H Q ∨ rSlS x lo hi H Q) := c.hK ▸ SlR.or sl_list (SlR.or sl_tupA sl_str)
  refine PE.imp (pe_slice hr he hl hh) ?_
  rintro σ H Q ⟨C, ε, ok, post⟩
  refine wE_bind (P := PostE G W C σ ε H Q) ok post (fun _ _ h => h) id fun fx ε1 x H1 st1 ok1 vr1 p1 => ?_
  refine wO_bind (P := PostE G W C σ ε1 H1 Q) ok1 (p1.from st1) (fun _ _ h => h) id fun l ε2 H2 st2 ok2 p2 => ?_
  refine wO_bind (P := PostE G W C σ ε2 H2 Q) ok2 (p2.from st2) (fun _ _ h => h) id fun u ε3 H3 st3 ok3 p3 => ?_
  refine o1_sound (r := fun x H Q => rSlL G.K x l u H Q ∨ rSlA G.K x l u H Q ∨ rSlS x l u H Q) ?_ ok3 (((vr1.old .nil).stp st2).stp st3) (p3.from st3)
  intro H F x d fv Q fo r h p
  cases d with
  | lst ds =>
    obtain ⟨a, vs, rfl, ea, ra⟩ := r
    cases h
    exact .inl ⟨a, vs, rfl, SqL.of ea, fun q hq => p.lst (ra.cut l u) hq⟩
  | flz ds =>
    have r : Rp G H F x (.flz ds) := r
    cases r with
    | flz s ra =>
      cases h
      exact .inl ⟨_, _, rfl, s.sq, fun q hq => p.lst (ra.cut l u) hq⟩
  | tup ds =>
    have r : Rp G H F x (.tup ds) := r
    cases r with
    | @tup a vs _ s ra =>
      cases h
      refine .inr (.inl ⟨a, vs, rfl, s.sq, fun ⟨h1, h2⟩ => ?_, fun _ q hq => p.tup (ra.cut l u) hq (fo.n hq)⟩)
      have : cutL ds l u = ds := by
        unfold cutL
        rw [← ra.length, h1, h2, List.drop_zero, Nat.sub_zero, List.take_of_length_le (by rw [ra.length]; exact Nat.le_refl _)]
      rw [this] at p
      exact p.sh0 (.tup s ra)
  | str w =>
    have r : Rp G H F x (.str w) := r
    cases r with
    | str hs =>
      simp only [slD] at h
      split at h
      · cases h
        refine .inr (.inr ⟨sl w, rfl, by rw [sl_len]; exact sz_le (by assumption), ?_⟩)
        rw [cutS_sl]
        exact p.sh0 (.str (sOk_sub hs fun c hc => cutL_mem hc))
      · cases h
  | _ => cases h
/-! ### built-ins -/
def BP (G : Gx) (X : Cx) (f : Value) (d : List D → Option Fv) : Prop := ∃ r, CallR X f r ∧ OpN G r d
section
variable {x : Str} {p pos : Pos} {e : Expr} {es : List Expr} {id T : String} {da : Dn (List Fv)} {d : List D → Option Fv}
theorem eB (c : Cok G X W k) (o : BP G X (.builtin id) d) (hg : Gl X x) (hm : G.mg x = none) (hv : bootBuiltins x = some (.builtin id)) (ha : PAp G X W (e :: es) da) (hn : x ≠ "__name__" := by decide) (hdb : (x == ("__debug__" : Str)) = false := by decide)
    (he : starEach (e :: es) X.env = (false, eval e X.env) :: starEach es X.env := by rfl) (hpl : (backTo pos (starEach es X.env)).any (·.1) = false := by rfl) : PEp G X W (.Call (.Name x p) (e :: es) [] pos) (dN d da) := by
  obtain ⟨r, hc, hs⟩ := o
  exact eN (pe_callB hc hg (by rw [c.hm]; exact hm) hv ha hn hdb he hpl) hs
theorem eT (c : Cok G X W k) (o : BP G X (.type T) d) (hg : Gl X x) (hm : G.mg x = none) (hv : bootBuiltins x = some (.type T)) (ha : PAp G X W (e :: es) da) (hn : x ≠ "__name__" := by decide) (hdb : (x == ("__debug__" : Str)) = false := by decide)
    (he : starEach (e :: es) X.env = (false, eval e X.env) :: starEach es X.env := by rfl) (hpl : (backTo pos (starEach es X.env)).any (·.1) = false := by rfl) : PEp G X W (.Call (.Name x p) (e :: es) [] pos) (dN d da) := by
  obtain ⟨r, hc, hs⟩ := o
  exact eN (pe_callTy hc hg (by rw [c.hm]; exact hm) hv ha hn hdb he hpl) hs
end
theorem RtAll.one {vs : List V} {d : D} (h : RtAll G H F vs [d]) : ∃ v, vs = [v] ∧ Rt G H F v d := by
  cases h with
  | cons a b => cases b; exact ⟨_, rfl, a⟩
theorem RtAll.two {vs : List V} {d e : D} (h : RtAll G H F vs [d, e]) : ∃ v w, vs = [v, w] ∧ Rt G H F v d ∧ Rt G H F w e := by
  cases h with
  | cons a b =>
    obtain ⟨w, rfl, r⟩ := b.one
    exact ⟨_, w, rfl, a, r⟩
def lenD : List D → Option Fv
  | [.str l] => if l.length ≤ 16000000 then some (.sh (.int l.length)) else none
  | [.lst ds] => some (.sh (.int ds.length))
  | [.flz ds] => some (.sh (.int ds.length))
  | [.tup ds] => some (.sh (.int ds.length))
  | [.dct es] => some (.sh (.int es.length))
  | _ => none
theorem bLen (c : Cok G X W k) : BP G X (.builtin "len") lenD := by
  refine ⟨_, CallR.or (lenK (K := G.K) c.hK) call_lenD, ?_⟩
  intro H F xs ds fv Q fo rs h p
  unfold lenD at h
  split at h
  · obtain ⟨v, rfl, r⟩ := rs.one
    cases r
    split at h
    · cases h
      exact .inl ⟨_, _, rfl, ⟨by rw [sl_len]; exact sz_le (by assumption), rfl⟩, by rw [sl_len]; exact p.sh0 (.int _)⟩
    · cases h
  · obtain ⟨v, rfl, a, vs, rfl, ea, ra⟩ := rs.one
    cases h
    exact .inl ⟨_, vs.length, rfl, .inl ⟨vs, SqL.of ea, rfl⟩, by rw [ra.length]; exact p.sh0 (.int _)⟩
  · obtain ⟨v, rfl, r⟩ := rs.one
    have r : Rp G H F v (.flz _) := r
    cases r with
    | flz s ra =>
      cases h
      exact .inl ⟨_, _, rfl, .inl ⟨_, s.sq, rfl⟩, by rw [ra.length]; exact p.sh0 (.int _)⟩
  · obtain ⟨v, rfl, r⟩ := rs.one
    have r : Rp G H F v (.tup _) := r
    cases r with
    | tup s ra =>
      cases h
      exact .inl ⟨_, _, rfl, .inr ⟨_, s.sq, rfl⟩, by rw [ra.length]; exact p.sh0 (.int _)⟩
  · obtain ⟨v, rfl, a, kvs, rfl, ea, ek, ra⟩ := rs.one
    cases h
    rename_i es
    refine .inr ⟨a, kvs, rfl, ea, ?_⟩
    have : kvs.length = es.length := by have := congrArg List.length ek; simpa using this
    rw [this]
    exact p.sh0 (.int _)
  · cases h
def absD : List D → Option Fv
  | [.int i] => some (.sh (.int (if i < 0 then -i else i)))
  | _ => none
theorem bAbs : BP G X (.builtin "abs") absD := by
  refine ⟨_, call_abs, ?_⟩
  intro H F xs ds fv Q fo rs h p
  unfold absD at h
  split at h
  · obtain ⟨v, rfl, r⟩ := rs.one
    cases r; cases h
    exact ⟨_, rfl, p.sh0 (.int _)⟩
  · cases h
def minD : List D → Option Fv
  | [.int i, .int j] => some (.sh (.int (if j < i then j else i)))
  | [.int i, .int j, .int l] => some (.sh (.int (min i (min j l))))
  | _ => none
theorem bMin (c : Cok G X W k) : BP G X (.builtin "min") minD := by
  refine ⟨_, CallR.or (call_min2 c.calm) (call_min3 c.calm), ?_⟩
  intro H F xs ds fv Q fo rs h p
  unfold minD at h
  split at h
  · obtain ⟨v, w, rfl, r, r'⟩ := rs.two
    cases r; cases r'; cases h
    exact .inl ⟨_, _, rfl, p.sh0 (.int _)⟩
  · cases rs with
    | cons a b =>
      obtain ⟨v, w, rfl, r, r'⟩ := b.two
      cases a; cases r; cases r'; cases h
      exact .inr ⟨_, _, _, rfl, p.sh0 (.int _)⟩
  · cases h
def maxD : List D → Option Fv
  | [.int i, .int j] => some (.sh (.int (if j > i then j else i)))
  | _ => none
def intD : List D → Option Fv
  | [.int i] => some (.sh (.int i))
  | [.bl b] => some (.sh (.int (if b then 1 else 0)))
  | _ => none
theorem bInt : BP G X (.type "int") intD := by
  refine ⟨_, call_int1, ?_⟩
  intro H F xs ds fv Q fo rs h p
  unfold intD at h
  split at h
  · obtain ⟨v, rfl, r⟩ := rs.one
    cases r; cases h
    exact .inl ⟨_, rfl, p.sh0 (.int _)⟩
  · obtain ⟨v, rfl, r⟩ := rs.one
    cases r; cases h
    exact .inr ⟨_, rfl, p.sh0 (.int _)⟩
  · cases h
def listD : List D → Option Fv
  | [.lst ds] => some (.fr (.lst ds))
  | [.flz ds] => some (.fr (.lst ds))
  | [.tup ds] => some (.fr (.lst ds))
  | _ => none
theorem bList (c : Cok G X W k) : BP G X (.type "list") listD := by
  refine ⟨_, listK_of (K := G.K) c.hK, ?_⟩
  intro H F xs ds fv Q fo rs h p
  unfold listD at h
  split at h
  · obtain ⟨v, rfl, a, vs, rfl, ea, ra⟩ := rs.one
    cases h
    exact ⟨a, vs, rfl, .inl (SqL.of ea), fun q hq => p.lst ra hq⟩
  · obtain ⟨v, rfl, r⟩ := rs.one
    have r : Rp G H F v (.flz _) := r
    cases r with
    | flz s ra =>
      cases h
      exact ⟨_, _, rfl, .inl s.sq, fun q hq => p.lst ra hq⟩
  · obtain ⟨v, rfl, r⟩ := rs.one
    have r : Rp G H F v (.tup _) := r
    cases r with
    | tup s ra =>
      cases h
      exact ⟨_, _, rfl, .inr s.sq, fun q hq => p.lst ra hq⟩
  · cases h
end
end PL
namespace PL
open PySem PySem.Spec PyProof.Rows L2 AB
open TL (tl)
/-! ### a, b = x, y: new lists keep their owner -/
def Fr.addM (C : Fr) (ps : List Addr) : Fr := { C with F0 := fun q => C.F0 q ∨ q ∈ ps }
theorem Fr.addM_nil (C : Fr) : C.addM [] = C := by
  unfold Fr.addM
  have : (fun q => C.F0 q ∨ q ∈ ([] : List Addr)) = C.F0 := funext fun q => propext (by simp)
  rw [this]
theorem Fr.add_addM (C : Fr) (p : Addr) (ps : List Addr) : (C.add p).addM ps = C.addM (p :: ps) := by
  unfold Fr.addM Fr.add
  have : (fun q => (C.F0 q ∨ q = p) ∨ q ∈ ps) = fun q => C.F0 q ∨ q ∈ p :: ps := funext fun q => propext (by rw [List.mem_cons, or_assoc])
  dsimp only
  rw [this]
theorem Fr.addM_add (C : Fr) (p : Addr) (ps : List Addr) : (C.addM ps).add p = C.addM (p :: ps) := by
  unfold Fr.addM Fr.add
  have : (fun q => (C.F0 q ∨ q ∈ ps) ∨ q = p) = fun q => C.F0 q ∨ q ∈ p :: ps := funext fun q => propext (by
    rw [List.mem_cons]
    constructor
    · rintro ((h | h) | h)
      · exact .inl h
      · exact .inr (.inr h)
      · exact .inr (.inl h)
    · rintro (h | h | h)
      · exact .inl (.inl h)
      · exact .inr h
      · exact .inl (.inr h))
  dsimp only
  rw [this]
inductive AllF (G : Gx) (H : Hp) (F : Addr → Prop) : List V → List Fv → List Addr → Prop
  | nil : AllF G H F [] [] []
  | sh {v : V} {d : D} {vs : List V} {fs : List Fv} {ps : List Addr} : Rp G H F v d → AllF G H F vs fs ps → AllF G H F (v :: vs) (.sh d :: fs) ps
  | fr {p : Addr} {d : D} {vs : List V} {fs : List Fv} {ps : List Addr} : Top G H F p d → AllF G H F vs fs ps → AllF G H F (.ref p :: vs) (.fr d :: fs) (p :: ps)
structure VRF (G : Gx) (C : Fr) (Hs H : Hp) (σ : L2.St) (ε : Ev) (vs : List V) (fs : List Fv) (ps : List Addr) : Prop where
  nd : ps.Nodup
  new : ∀ p ∈ ps, Hs p = none ∧ ¬C.F σ ε p
  ok : Ok G (C.addM ps) H σ ε
  all : AllF G H ((C.addM ps).F σ ε) vs fs ps
def PostAF (G : Gx) (W : WX) (C : Fr) (σ : L2.St) (ε : Ev) (H : Hp) (Q : List V → Hp → Prop) : Re (List Fv) → Prop
  | .ok fs ε' => ∀ vs ps H', Stp σ ε σ ε' H H' → VRF G C H H' σ ε' vs fs ps → Q vs H'
  | .exc x ε' => PX G W C σ ε H x ε'
  | .no => False
def wAF (G : Gx) (W : WX) (den : Dn (List Fv)) : TA := fun σ H Q => ∃ C ε, Ok G C H σ ε ∧ PostAF G W C σ ε H Q (den ε)
abbrev PAF (G : Gx) (X : Cx) (W : WX) (es : List Expr) (den : Dn (List Fv)) : Prop := PA X es (wAF G W den)
def resF (fv : Fv) (ε : Ev) : Re Fv := match fv with
  | .at j => match ε[j]? with
    | some (.sh d) => .ok (.sh d) ε
    | some (.ow d) => .ok (.sh d) (ε.set j (.sh d))
    | _ => .no
  | x => .ok x ε
def afN : Dn (List Fv) := fun ε => .ok [] ε
def afC (da : Dn Fv) (db : Dn (List Fv)) : Dn (List Fv) := fun ε => (da ε).bind fun x ε1 => (resF x ε1).bind fun x ε2 => (db ε2).bind fun xs ε3 => .ok (x :: xs) ε3
section
variable {G : Gx} {X : Cx} {W : WX} {C : Fr} {σ : L2.St} {ε : Ev} {H : Hp} {F : Addr → Prop} {k : Nat}
theorem AllF.mv {H' : Hp} {F' : Addr → Prop} {vs : List V} {fs : List Fv} {ps : List Addr} (h : AllF G H F vs fs ps) (m : Mv H H' F F') (hp : ∀ p ∈ ps, H' p = H p) : AllF G H' F' vs fs ps := by
  induction h with
  | nil => exact .nil
  | sh r _ ih => exact .sh (r.mv m) (ih hp)
  | fr t _ ih => exact .fr (t.mv m (hp _ List.mem_cons_self)) (ih fun q hq => hp q (List.mem_cons_of_mem _ hq))
theorem PX.add {p : Addr} {x : Xc} {ε' : Ev} (h : PX G W C σ ε H x ε') : PX G W (C.add p) σ ε H x ε' := fun c d H' st k r => by
  refine h c d H' st k.unadd ?_
  obtain ⟨g, xr⟩ := r
  refine ⟨g, xr.imp id ?_⟩
  rintro ⟨a, ws, e1, e2, e3, r⟩
  exact ⟨a, ws, e1, e2, e3, r.mv (Mv.less fun b z => z.imp .inl id)⟩
theorem pFNil : PAF G X W [] afN := PA.imp pa_nil fun σ H Q ⟨C, ε, ok, post⟩ => post [] [] H Stp.refl ⟨.nil, (fun _ h => nomatch h), by rw [Fr.addM_nil]; exact ok, .nil⟩
theorem resF_sound {Hs : Hp} {v : V} {fv fv' : Fv} {ε' : Ev} (k : Ok G C H σ ε) (vr : VR G C Hs H σ ε v fv) (h : resF fv ε = .ok fv' ε') :
    Ok G C H σ ε' ∧ VR G C Hs H σ ε' v fv' ∧ (∀ b, own σ ε' b → own σ ε b) ∧ ∀ i, fv' ≠ .at i := by
  cases fv with
  | sh d => cases h; exact ⟨k, vr, fun _ z => z, fun i z => by cases z⟩
  | fr d => cases h; exact ⟨k, vr, fun _ z => z, fun i z => by cases z⟩
  | «at» j =>
    have ev : σ[j]? = some (some v) := vr
    unfold resF at h
    dsimp only at h
    cases q : ε[j]? with
    | none => rw [q] at h; cases h
    | some s =>
      rw [q] at h
      cases s with
      | no => cases h
      | io d => cases h
      | sh d =>
        cases h
        obtain ⟨u, e1, r⟩ := k.sh j d q
        rw [ev] at e1; cases e1
        exact ⟨k, r, fun _ z => z, fun i z => by cases z⟩
      | ow d =>
        cases h
        obtain ⟨k1, r, o⟩ := k.share q ev
        exact ⟨k1, r, o, fun i z => by cases z⟩
theorem resF_noexc {fv : Fv} {x : Xc} {ε' : Ev} : resF fv ε ≠ .exc x ε' := fun h => by
  unfold resF at h
  split at h
  · split at h <;> cases h
  · cases h
theorem pFCons {a : Expr} {as : List Expr} {da : Dn Fv} {db : Dn (List Fv)} (ha : PEp G X W a da) (hb : PAF G X W as db) (hs : starEach (a :: as) X.env = (false, eval a X.env) :: starEach as X.env := by rfl) : PAF G X W (a :: as) (afC da db) := by
  refine PA.imp (pa_cons ha hb hs) ?_
  rintro σ H Q ⟨C, ε, ok, post⟩
  refine wE_bind (P := PostAF G W C σ ε H Q) ok post (fun _ _ h => h) id fun fx ε0 x H1 st0 ok0 vr0 p0 => ?_
  cases q : resF fx ε0 with
  | no => rw [q] at p0; exact p0.elim
  | exc y ε' => exact absurd q resF_noexc
  | ok fv ε1 =>
    rw [q] at p0
    obtain ⟨ok1, vr1, o1, hat⟩ := resF_sound ok0 vr0 q
    have st1 : Stp σ ε σ ε1 H H1 := st0.trans (Stp.less o1)
    simp only [Re.bind] at p0
    cases fv with
    | «at» i => exact absurd rfl (hat i)
    | sh d =>
      refine ⟨C, ε1, ok1, ?_⟩
      cases e : db ε1 with
      | no => rw [e] at p0; exact p0.elim
      | exc y ε' => rw [e] at p0; exact PX.from st1 p0
      | ok fs ε2 =>
        rw [e] at p0
        intro vs ps H2 st2 vf
        refine p0 _ ps H2 (st1.trans st2) ⟨vf.nd, fun p hp => ⟨st1.al p (vf.new p hp).1, (vf.new p hp).2⟩, vf.ok, .sh ?_ vf.all⟩
        have r : Rp G H1 (C.F σ ε1) x d := vr1
        refine r.mv ⟨(st2.mv (C := C)).keep, fun b z => ?_⟩
        rcases z with (z | z) | z
        · exact .inl (.inl z)
        · exact .inr (vf.new b z).1
        · exact (st2.mv (C := C)).frb b (.inr z)
    | fr d =>
      obtain ⟨p, rfl, np, nF, okp, t⟩ := vr1
      refine ⟨C.add p, ε1, okp, ?_⟩
      cases e : db ε1 with
      | no => rw [e] at p0; exact p0.elim
      | exc y ε' => rw [e] at p0; exact PX.add (PX.from st1 p0)
      | ok fs ε2 =>
        rw [e] at p0
        intro vs ps H2 st2 vf
        have pn : ∀ q ∈ ps, q ≠ p := fun q hq z => (vf.new q hq).2 (.inl (.inr z))
        have h1p : H1 p ≠ none := by obtain ⟨o, eo⟩ := t.some; rw [eo]; intro z; cases z
        have nop : ¬own σ ε1 p := fun z => nF (.inr z)
        have keepp : H2 p = H1 p := by
          cases q1 : H1 p with
          | none => exact absurd q1 h1p
          | some o => exact st2.keep p o q1 nop (t.nt q1)
        refine p0 _ (p :: ps) H2 (st1.trans st2) ⟨List.nodup_cons.mpr ⟨fun z => pn p z rfl, vf.nd⟩, fun q hq => ?_, ?_, ?_⟩
        · rcases List.mem_cons.mp hq with rfl | hq
          · exact ⟨np, fun z => by
              rcases z with z | z
              · exact nF (.inl z)
              · rcases st2.own q z with z | z
                · exact nop z
                · exact h1p z⟩
          · exact ⟨st1.al q (vf.new q hq).1, fun z => (vf.new q hq).2 (z.imp .inl id)⟩
        · rw [← Fr.add_addM]
          exact vf.ok
        · rw [← Fr.add_addM]
          refine .fr (t.mv ⟨(st2.mv (C := C.add p)).keep, fun b z => ?_⟩ keepp) vf.all
          rcases z with (z | z) | z
          · exact .inl (.inl z)
          · exact .inr (vf.new b z).1
          · exact (st2.mv (C := C.add p)).frb b (.inr z)
/-- slots set one after another -/
def setL : Ev → List Nat → List Fv → Option Ev
  | ε, [], [] => some ε
  | ε, i :: is, f :: fs => (setS ε i f).bind fun ε' => setL ε' is fs
  | _, _, _ => none
def setσ : L2.St → List Nat → List V → L2.St
  | σ, i :: is, v :: vs => setσ (σ.set i (some v)) is vs
  | σ, _, _ => σ
theorem setL_sound : ∀ {is : List Nat} {fs : List Fv} {vs : List V} {ps : List Addr} {σ : L2.St} {ε ε' : Ev}, Ok G (C.addM ps) H σ ε → ps.Nodup → (∀ p ∈ ps, C.H0 p = none ∧ ¬C.F σ ε p) → AllF G H ((C.addM ps).F σ ε) vs fs ps → setL ε is fs = some ε' →
    Ok G C H (setσ σ is vs) ε' ∧ ∀ b, own (setσ σ is vs) ε' b → own σ ε b ∨ b ∈ ps
  | [], [], _, ps, σ, ε, ε', k, nd, new, all, h => by
    cases all
    cases h
    rw [Fr.addM_nil] at k
    exact ⟨k, fun b z => .inl z⟩
  | i :: is, f :: fs, _, ps, σ, ε, ε', k, nd, new, all, h => by
    unfold setL at h
    cases q : setS ε i f with
    | none => rw [q] at h; cases h
    | some ε1 =>
      rw [q] at h
      simp only [Option.bind_some] at h
      obtain ⟨hi, hio⟩ := setS_ok q
      have q' := setS_eq q
      cases all with
      | @sh v d vs fs ps r al =>
        cases q'
        have k1 := k.put (i := i) (v := some v) (s := .sh d) rfl hio (fun d' e => by cases e; exact ⟨v, rfl, r⟩)
        have o1 : ∀ b, own (σ.set i (some v)) (ε.set i (.sh d)) b → own σ ε b := fun b z => own_set' rfl z
        obtain ⟨k2, o2⟩ := setL_sound k1 nd (fun p hp => ⟨(new p hp).1, fun z => (new p hp).2 (z.imp id (o1 p))⟩) (al.mv (Mv.less fun b z => z.imp id (o1 b)) fun _ _ => rfl) h
        exact ⟨k2, fun b z => (o2 b z).imp (o1 b) id⟩
      | @fr p d vs fs ps t al =>
        cases q'
        rw [List.nodup_cons] at nd
        rw [← Fr.addM_add] at k t al
        have npF : ¬(C.addM ps).F σ ε p := fun z => by
          rcases z with (z | z) | z
          · exact (new p List.mem_cons_self).2 (.inl z)
          · exact nd.1 z
          · exact (new p List.mem_cons_self).2 (.inr z)
        obtain ⟨k1, o1⟩ := Ok.putOw (C := C.addM ps) k (new p List.mem_cons_self).1 npF t hi hio
        have inc : ∀ b, (C.addM ps).F (σ.set i (some (.ref p))) (ε.set i (.ow d)) b → ((C.addM ps).add p).F σ ε b := fun b z => by
          rcases z with z | z
          · exact .inl (.inl z)
          · rcases o1 b z with z | z
            · exact .inr z
            · exact .inl (.inr z)
        obtain ⟨k2, o2⟩ := setL_sound k1 nd.2 (fun q hq => ⟨(new q (List.mem_cons_of_mem _ hq)).1, fun z => by
          rcases z with z | z
          · exact (new q (List.mem_cons_of_mem _ hq)).2 (.inl z)
          · rcases o1 q z with z | z
            · exact (new q (List.mem_cons_of_mem _ hq)).2 (.inr z)
            · exact nd.1 (z ▸ hq)⟩) (al.mv (Mv.less inc) fun _ _ => rfl) h
        refine ⟨k2, fun b z => ?_⟩
        rcases o2 b z with z | z
        · rcases o1 b z with z | z
          · exact .inl z
          · exact .inr (z ▸ List.mem_cons_self)
        · exact .inr (List.mem_cons_of_mem _ z)
  | [], _ :: _, _, _, _, _, _, _, _, _, _, h => by cases h
  | _ :: _, [], _, _, _, _, _, _, _, _, _, h => by cases h
def sDPar (is : List Nat) (da : Dn (List Fv)) : Dn Fl := fun ε => (da ε).bind fun fs ε1 => match setL ε1 is fs with
  | some ε2 => .ok .nx ε2
  | none => .no
theorem wAF_read {is : List Nat} {da : Dn (List Fv)} {E : Ends} {σ : L2.St} {H : Hp} {Q : List V → Hp → Prop} (h : wS G W (sDPar is da) E σ H)
    (hq : ∀ vs H', (∀ H2, (∀ b o, H' b = some o → H2 b = some o) → E.nx (setσ σ is vs) H2) → vs.length = is.length → vs.length ≤ is.length → Q vs H') : wAF G W da σ H Q := by
  obtain ⟨C, ε, ok, post⟩ := h
  refine ⟨C, ε, ok, ?_⟩
  unfold sDPar at post
  cases e : da ε with
  | no => rw [e] at post; exact post.elim
  | exc x ε' => rw [e] at post; exact PostS.px post
  | ok fs ε1 =>
    rw [e] at post
    intro vs ps H1 st vf
    simp only [Re.bind] at post
    cases q : setL ε1 is fs with
    | none => rw [q] at post; exact post.elim
    | some ε2 =>
      rw [q] at post
      obtain ⟨k, o⟩ := setL_sound vf.ok vf.nd (fun p hp => ⟨ok.h0 p (vf.new p hp).1, (vf.new p hp).2⟩) vf.all q
      have hl : ∀ {is : List Nat} {fs : List Fv} {vs : List V} {ps : List Addr} {F : Addr → Prop} {ε ε' : Ev}, AllF G H1 F vs fs ps → setL ε is fs = some ε' → vs.length = is.length := by
        intro is
        induction is with
        | nil => intro fs vs ps F ε ε' al h; cases al <;> first | rfl | cases h
        | cons i is ih =>
          intro fs vs ps F ε ε' al h
          cases al with
          | nil => cases h
          | @sh v d vs fs ps r al =>
            unfold setL at h
            cases q : setS ε i (.sh d) with
            | none => rw [q] at h; cases h
            | some ε1 => rw [q] at h; simp [ih al h]
          | @fr p d vs fs ps r al =>
            unfold setL at h
            cases q : setS ε i (.fr d) with
            | none => rw [q] at h; cases h
            | some ε1 => rw [q] at h; simp [ih al h]
      have hlen := hl vf.all q
      refine hq vs H1 (fun H2 gr => ?_) hlen (Nat.le_of_eq hlen)
      have st2 : Stp σ ε σ ε1 H H2 := st.trans (Stp.grow gr)
      refine post _ H2 ⟨st2.keep, fun b z => ?_, st2.al⟩ (k.grow gr)
      rcases o b z with z | z
      · exact st.own b z
      · exact .inr (vf.new b z).1
/-- a, b = x, y -/
theorem sPar2 {i j : Nat} {x y : Str} {a b : Expr} {da : Dn (List Fv)} {px py pt pos : Pos} {kt k2 pt2} (c : Cok G X W k) (hN : X.N.Nodup) (hi : X.N[i]? = some x) (hj : X.N[j]? = some y) (hij : i ≠ j)
    (hx : X.env.scope.names.lookup x = some .local) (hy : X.env.scope.names.lookup y = some .local) (ha : PAF G X W [a, b] da)
    (hw : swappedStores [.Tuple [.Name x px, .Name y py] kt pt] (.Tuple [a, b] k2 pt2) X.env = pure (some [x, y]))
    (hs : swapsWithSole [.Tuple [.Name x px, .Name y py] kt pt] (.Tuple [a, b] k2 pt2) pos.line X.env = pure false := by rfl) :
    PSp G X W (.Assign [.Tuple [.Name x px, .Name y py] kt pt] (.Tuple [a, b] k2 pt2) pos) (sDPar [i, j] da) := by
  refine PS.imp (ps_par c.calm hN hi hj hij hx hy ha hw hs) ?_
  intro E σ H h
  refine wAF_read h fun vs H' hn hl _ => ?_
  match vs, hl with
  | [v, w], _ => exact ⟨v, w, rfl, hn H' fun _ _ e => e⟩
/-! ### x op= e -/
def augD : D → D → Option Fv
  | .int i, .int j => some (.sh (.int (i + j)))
  | .str a, .str b => if a.length + b.length ≤ 16000000 then some (.sh (.str (a ++ b))) else none
  | _, _ => none
def sDAug (i : Nat) (f : D → D → Option Fv) (de : Dn Fv) : Dn Fl := fun ε => match ε[i]? with
  | some (.sh d) => (de ε).bind fun fv ε1 => match rd ε1 fv.old with
    | some e => match f d e with
      | some (.sh z) => (match setS ε1 i (.sh z) with
        | some ε2 => .ok .nx ε2
        | none => .no)
      | _ => .no
    | none => .no
  | _ => .no
def augSubD : D → D → Option Fv
  | .int i, .int j => some (.sh (.int (i - j)))
  | _, _ => none
end
end PL
namespace PL
open PySem PySem.Spec PyProof.Rows L2 AB
open TL (tl)
section
variable {G : Gx} {X : Cx} {W : WX} {C : Fr} {σ : L2.St} {ε : Ev} {H : Hp} {F : Addr → Prop} {k : Nat}
/-! ### isinstance with a built-in type -/
def tyN : D → Option String
  | .non => some "NoneType"
  | .bl _ => some "bool"
  | .int _ => some "int"
  | .str _ => some "str"
  | .lst _ => some "list"
  | .tup _ => some "tuple"
  | .dct _ => some "dict"
  | _ => none
def kindsD : List String := ["NoneType", "bool", "int", "str", "list", "tuple", "dict"]
theorem Rt.ty {v : V} {d : D} {t : String} (r : Rt G H F v d) (h : tyN d = some t) : TyX G.K H v (.type t) ∧ t ∈ kindsD := by
  cases d with
  | non => cases r; cases h; exact ⟨.base .non, by decide⟩
  | bl b => cases r; cases h; exact ⟨.base (.bl b), by decide⟩
  | int b => cases r; cases h; exact ⟨.base (.int b), by decide⟩
  | str b => cases r; cases h; exact ⟨.base (.str _), by decide⟩
  | lst b => obtain ⟨a, vs, rfl, e, _⟩ := r; cases h; exact ⟨.base (.lst e), by decide⟩
  | dct b => obtain ⟨a, vs, rfl, e, _⟩ := r; cases h; exact ⟨.base (.dK e), by decide⟩
  | tup b =>
    have r : Rp G H F v (.tup b) := r
    cases r with
    | tup s _ =>
      cases h
      refine ⟨?_, by decide⟩
      rcases s.sq with (h | ⟨o, h⟩) | ⟨o, its, n, h, c, _⟩
      · exact .base (.tup h)
      · exact .fTuple h
      · exact .kTuple h c
  | _ => cases h
/-- a module's constant -/
theorem eGlob {x : Str} {v : V} {d : D} {u : Value} {pos : Pos} (c : Cok G X W k) (hg : Gl X x) (hm : G.mg x = some u) (r : RelV v u) (rp : ∀ H F, Rp G H F v d) (hd : (x == ("__debug__" : Str)) = false := by decide) : PEp G X W (.Name x pos) (dC d) :=
  eC (pe_glob hg (by rw [c.hm]; exact hm) r hd) rp
/-! ### repr -/
theorem sOk_str (s : String) : sOk (tl (Str.ofString s)) = true := by
  rw [Str.ofString_eq_toList]
  unfold sOk
  rw [List.all_eq_true]
  intro c hc
  have hc : c ∈ s.toList.map Char.toNat := by simpa [tl] using hc
  obtain ⟨ch, _, rfl⟩ := List.mem_map.mp hc
  have := ch.valid
  have h2 : ch.toNat < 0x110000 := by
    rcases this with h | h
    · have : ch.toNat < 0xd800 := h
      omega
    · exact h.2
  simpa using h2
theorem sOk_tlapp {a b : Str} (h : sOk (tl a) = true) (k : sOk (tl b) = true) : sOk (tl (a ++ b)) = true := by
  rw [TL.tl_append]; exact sOk_app h k
theorem sOk_textFrom : ∀ (ts : List Str) (n : Nat) (acc : Str), sOk (tl acc) = true → (∀ t ∈ ts, sOk (tl t) = true) → sOk (tl (textFrom n acc ts)) = true
  | [], n, acc, h, _ => h
  | t :: ts, n, acc, h, k => by
    unfold textFrom
    refine sOk_textFrom ts (n + 1) _ (sOk_tlapp (sOk_tlapp h ?_) (k t List.mem_cons_self)) fun x hx => k x (List.mem_cons_of_mem _ hx)
    exact sOk_str _
theorem sOk_join : ∀ (ts : List Str), (∀ t ∈ ts, sOk (tl t) = true) → sOk (tl (Str.join ", " ts)) = true
  | [], _ => by decide +kernel
  | [t], k => k t List.mem_cons_self
  | t :: u :: ts, k => by
    unfold Str.join
    exact sOk_tlapp (sOk_tlapp (k t List.mem_cons_self) (sOk_str _)) (sOk_join (u :: ts) fun x hx => k x (List.mem_cons_of_mem _ hx))
theorem foldl_mem {q : Nat} : ∀ (l : List Nat) (acc : Array Nat) (c : Nat), c ∈ (l.foldl (fun out c => out ++ (Builtin.Str.reprChar q c).toArray) acc).toList → c ∈ acc.toList ∨ ∃ x ∈ l, c ∈ Builtin.Str.reprChar q x
  | [], acc, c, h => .inl h
  | x :: l, acc, c, h => by
    rw [List.foldl_cons] at h
    rcases foldl_mem l _ c h with h | ⟨y, hy, h⟩
    · simp at h
      rcases h with h | h
      · exact .inl (by simpa using h)
      · exact .inr ⟨x, List.mem_cons_self, h⟩
    · exact .inr ⟨y, List.mem_cons_of_mem _ hy, h⟩
theorem reprChar_ok {q x : Nat} (hq : q < 0x110000) (hx : x < 0x110000) : ∀ c ∈ Builtin.Str.reprChar q x, c < 0x110000 := by
  intro c h
  have hex : ∀ w, c ∈ (List.replicate (w - ((Nat.toDigits 16 x).map Char.toNat).length) 48 ++ (Nat.toDigits 16 x).map Char.toNat) → c < 0x110000 := fun w h => by
    rw [List.mem_append] at h
    rcases h with h | h
    · rw [(List.mem_replicate.mp h).2]; decide
    · obtain ⟨ch, _, rfl⟩ := List.mem_map.mp h
      rcases ch.valid with h | h
      · have : ch.toNat < 0xd800 := h
        omega
      · exact h.2
  unfold Builtin.Str.reprChar at h
  dsimp only at h
  split at h
  · simp at h; omega
  split at h
  · simp at h; omega
  split at h
  · simp at h; omega
  split at h
  · simp at h; omega
  split at h
  · simp at h; omega
  split at h
  · rw [List.mem_append] at h
    rcases h with h | h
    · simp at h; omega
    · exact hex 2 h
  split at h
  · rw [List.mem_append] at h
    rcases h with h | h
    · simp at h; omega
    · exact hex 4 h
  · rw [List.mem_append] at h
    rcases h with h | h
    · simp at h; omega
    · exact hex 8 h
theorem sOk_reprText (l : List Nat) (h : sOk l = true) : sOk (tl (reprText (sl l))) = true := by
  unfold sOk at h ⊢
  rw [List.all_eq_true] at h ⊢
  intro c hc
  have hq : reprQuote (sl l) < 0x110000 := by
    unfold reprQuote
    split <;> decide
  have hc : c ∈ ((sl l).cps.foldl (fun out c => out ++ (Builtin.Str.reprChar (reprQuote (sl l)) c).toArray) #[reprQuote (sl l)]).toList ∨ c = reprQuote (sl l) := by
    unfold reprText tl at hc
    simpa using hc
  rcases hc with hc | rfl
  · rw [← Array.foldl_toList] at hc
    rcases foldl_mem _ _ c hc with h1 | ⟨x, hx, h1⟩
    · simp at h1; subst h1; exact decide_eq_true hq
    · have hx : x ∈ l := by simpa [sl] using hx
      exact decide_eq_true (reprChar_ok hq (of_decide_eq_true (h x hx)) c h1)
  · exact decide_eq_true hq
/-! what repr shows: plain data, and dicts of it -/
def pyK : Key → PyData
  | .inl i => .int i
  | .inr x => .str x
def sOkK : Key → Bool
  | .inl _ => true
  | .inr x => sOk (tl x)
mutual
def toPyR : D → PyData
  | .non => .none
  | .bl b => .bool b
  | .int i => .int i
  | .str l => .str (sl l)
  | .tup xs => .tuple (toPyRs xs)
  | .lst xs => .list (toPyRs xs)
  | .dct es => .dict (toPyRk es)
  | _ => .none
def toPyRs : List D → List PyData
  | [] => []
  | x :: xs => toPyR x :: toPyRs xs
def toPyRk : List (Key × D) → List (PyData × PyData)
  | [] => []
  | (k, d) :: es => (pyK k, toPyR d) :: toPyRk es
end
def plR : Nat → D → Bool
  | _, .non => true
  | _, .bl _ => true
  | _, .int _ => true
  | _, .str _ => true
  | n + 1, .tup xs => xs.all (plR n)
  | n + 1, .lst xs => xs.all (plR n)
  | n + 1, .dct es => (es.map (·.2)).all (plR n) && (es.map (·.1)).all sOkK
  | _, _ => false
theorem toPyRk_fst : ∀ (es : List (Key × D)), (toPyRk es).map (·.1) = (es.map (·.1)).map pyK
  | [] => rfl
  | (k, d) :: es => by rw [toPyRk, List.map_cons, List.map_cons, List.map_cons, toPyRk_fst es]
theorem toPyRk_snd : ∀ (es : List (Key × D)), (toPyRk es).map (·.2) = toPyRs (es.map (·.2))
  | [] => rfl
  | (k, d) :: es => by rw [toPyRk, List.map_cons, List.map_cons, toPyRs, toPyRk_snd es]
theorem key_reads {h : Heap} {k : Key} {u : Value} (e : keyIs k u = true) : Reads h u (pyK k) [] := by
  rcases keyIs_shape e with ⟨i, t, rfl, rfl⟩ | ⟨x, t, rfl, rfl⟩
  · exact .int i t
  · exact .str x t
theorem pairs_reads {P : Program} {w : World} {h : Heap} {es : List DictEntry} {kvs : List (Key × Value)} (p : Pairs (mixKind P w) es kvs) :
    ReadsAll h (es.map (·.key)) ((kvs.map (·.1)).map pyK) [] ∧ es.map (·.val) = kvs.map (·.2) := by
  induction p with
  | nil => exact ⟨.nil, rfl⟩
  | cons h1 h2 _ ih => exact ⟨.cons (as := []) (bs := []) (key_reads h1) ih.1, by rw [List.map_cons, List.map_cons, h2, ih.2]⟩
theorem kv_fst {kvs : List (Key × V)} {xs : List (Key × Value)} (r : KV kvs xs) : xs.map (·.1) = kvs.map (·.1) ∧ Vals (kvs.map (·.2)) (xs.map (·.2)) := by
  induction r with
  | nil => exact ⟨rfl, .nil⟩
  | cons h _ ih => exact ⟨by rw [List.map_cons, List.map_cons, h.1, ih.1], .cons h.2 ih.2⟩
theorem Rp.reads {X : Cx} {pins : List (Addr × Obj)} {σ : L2.St} {s : Shared} (I : Inv X pins σ H s) (hK : X.K = G.K) (hS : H sysModules = none) {v : V} {d : D} (r : Rp G H F v d) :
    ∀ (n : Nat) (u : Value), plR n d = true → RelV v u → ∃ as, Reads s.heap u (toPyR d) as ∧ sysModules ∉ as := by
  have ne : ∀ {a o}, H a = some o → sysModules ≠ a := fun e z => by rw [← z, hS] at e; cases e
  refine Rp.rec (motive_1 := fun v d _ => ∀ (n : Nat) (u : Value), plR n d = true → RelV v u → ∃ as, Reads s.heap u (toPyR d) as ∧ sysModules ∉ as)
    (motive_2 := fun vs ds _ => ∀ (n : Nat) (us : List Value), ds.all (plR n) = true → Vals vs us → ∃ as, ReadsAll s.heap us (toPyRs ds) as ∧ sysModules ∉ as)
    ?_ ?_ ?_ ?_ ?_ ?_ ?_ ?_ ?_ ?_ ?_ ?_ ?_ ?_ r
  · intro n u _ q; cases q; exact ⟨[], .none, by simp⟩
  · intro b n u _ q; cases q; exact ⟨[], .bool b, by simp⟩
  · intro i n u _ q; obtain ⟨t, rfl⟩ := q; exact ⟨[], .int i t, by simp⟩
  · intro l _ n u _ q; obtain ⟨t, rfl⟩ := q; exact ⟨[], .str _ t, by simp⟩
  · intro t n u h _; cases n <;> simp [plR] at h
  · intro t t2 _ n u h _; cases n <;> simp [plR] at h
  · intro a vs ds st _ ih n u h q
    cases n with
    | zero => simp [plR] at h
    | succ n =>
      cases q
      have hs : SqT X.K H a vs := hK ▸ st.sq
      obtain ⟨its, rv, ⟨o, ho, hc, m, hd⟩, _⟩ := I.tuple hs
      obtain ⟨as, hr, hn⟩ := ih n its (by simpa [plR] using h) rv
      exact ⟨as, by rw [toPyR]; exact .tuple ho hc hd hr, hn⟩
  · intro a vs ds e nf _ ih n u h q
    cases n with
    | zero => simp [plR] at h
    | succ n =>
      cases q
      obtain ⟨its, rv, ⟨o, m, ho, hc, _, hd⟩, _⟩ := I.list (SqL.of (K := X.K) e)
      obtain ⟨as, hr, hn⟩ := ih n its (by simpa [plR] using h) rv
      exact ⟨a :: as, by rw [toPyR]; exact .list ho hc hd hr, fun z => (List.mem_cons.mp z).elim (fun z => ne e z) hn⟩
  · intro a vs ds st _ ih n u h q; cases n <;> simp [plR] at h
  · intro a kvs es e nf k _ ih n u h q
    cases n with
    | zero => simp [plR] at h
    | succ n =>
      cases q
      simp only [plR, Bool.and_eq_true] at h
      obtain ⟨_, _, xs, kv, o, des, ep, ho, hx, hd, _, pr, _⟩ := dk_of I.hok e
      obtain ⟨f1, f2⟩ := kv_fst kv
      obtain ⟨r1, r2⟩ := pairs_reads (h := s.heap) pr
      obtain ⟨as, hr, hn⟩ := ih n _ h.1 f2
      refine ⟨a :: [] ++ as, ?_, fun z => (List.mem_cons.mp z).elim (fun z => ne e z) hn⟩
      rw [toPyR]
      refine .dict ho hx.1 hd ?_ ?_
      · rw [toPyRk_fst, ← k, ← f1]; exact r1
      · rw [toPyRk_snd, r2]; exact hr
  · intro a kvs es e nf k _ ih n u h q; cases n <;> simp [plR] at h
  · intro a C dx c fs es g e e2 n1 n2 k _ ih n u h q; cases n <;> simp [plR] at h
  · intro n us _ q; cases q; exact ⟨[], .nil, by simp⟩
  · intro v vs d ds _ _ ih1 ih2 n us h q
    cases q with
    | cons q1 q2 =>
      simp only [List.all_cons, Bool.and_eq_true] at h
      obtain ⟨as, a1, a2⟩ := ih1 n _ h.1 q1
      obtain ⟨bs, b1, b2⟩ := ih2 n _ h.2 q2
      exact ⟨as ++ bs, .cons a1 b1, fun z => (List.mem_append.mp z).elim a2 b2⟩
theorem key_shown {k : Key} (h : sOkK k = true) : sOk (tl (pyK k).shown) = true := by
  cases k with
  | inl i => exact sOk_str _
  | inr x =>
    have := sOk_reprText (tl x) h
    simpa [pyK, PyData.shown, tl, sl] using this
/-- it is shown in signs, and not deep -/
theorem Rp.shownOk {v : V} {d : D} (r : Rp G H F v d) : ∀ n : Nat, plR n d = true → sOk (tl (toPyR d).shown) = true ∧ (toPyR d).depth ≤ n := by
  refine Rp.rec (motive_1 := fun v d _ => ∀ n : Nat, plR n d = true → sOk (tl (toPyR d).shown) = true ∧ (toPyR d).depth ≤ n)
    (motive_2 := fun vs ds _ => ∀ n : Nat, ds.all (plR n) = true → (∀ t ∈ PyData.shownAll (toPyRs ds), sOk (tl t) = true) ∧ PyData.depthAll (toPyRs ds) ≤ n)
    ?_ ?_ ?_ ?_ ?_ ?_ ?_ ?_ ?_ ?_ ?_ ?_ ?_ ?_ r
  · intro n _; exact ⟨sOk_str _, Nat.zero_le _⟩
  · intro b n _; exact ⟨by cases b <;> exact sOk_str _, Nat.zero_le _⟩
  · intro i n _; exact ⟨sOk_str _, Nat.zero_le _⟩
  · intro l h n _; exact ⟨sOk_reprText l h, Nat.zero_le _⟩
  · intro t n h; cases n <;> simp [plR] at h
  · intro t t2 _ n h; cases n <;> simp [plR] at h
  · intro a vs ds st _ ih n h
    cases n with
    | zero => simp [plR] at h
    | succ n =>
      obtain ⟨h1, h2⟩ := ih n (by simpa [plR] using h)
      refine ⟨?_, by simp only [toPyR, PyData.depth]; omega⟩
      simp only [toPyR, PyData.shown]
      unfold tupleText
      refine sOk_tlapp (sOk_tlapp (sOk_str _) (sOk_join _ h1)) ?_
      exact sOk_str _
  · intro a vs ds e nf _ ih n h
    cases n with
    | zero => simp [plR] at h
    | succ n =>
      obtain ⟨h1, h2⟩ := ih n (by simpa [plR] using h)
      refine ⟨?_, by simp only [toPyR, PyData.depth]; omega⟩
      simp only [toPyR, PyData.shown]
      unfold listText
      exact sOk_tlapp (sOk_textFrom _ 0 _ (sOk_str _) h1) (sOk_str _)
  · intro a vs ds st _ ih n h; cases n <;> simp [plR] at h
  · intro a kvs es e nf k _ ih n h
    cases n with
    | zero => simp [plR] at h
    | succ n =>
      simp only [plR, Bool.and_eq_true] at h
      obtain ⟨h1, h2⟩ := ih n h.1
      have key : ∀ es : List (Key × D), (es.map (·.1)).all sOkK = true → (∀ t ∈ PyData.shownAll (toPyRs (es.map (·.2))), sOk (tl t) = true) → PyData.depthAll (toPyRs (es.map (·.2))) ≤ n →
          (∀ t ∈ PyData.shownKv (toPyRk es), sOk (tl t) = true) ∧ PyData.depthKv (toPyRk es) ≤ n := by
        intro es
        induction es with
        | nil => intro _ _ _; exact ⟨fun t z => by simp [toPyRk, PyData.shownKv] at z, by simp [toPyRk, PyData.depthKv]⟩
        | cons e es ih =>
          obtain ⟨k, d⟩ := e
          intro a b c
          simp only [List.map_cons, List.all_cons, Bool.and_eq_true] at a
          simp only [List.map_cons, toPyRs, PyData.shownAll, List.mem_cons, forall_eq_or_imp] at b
          simp only [List.map_cons, toPyRs, PyData.depthAll] at c
          obtain ⟨i1, i2⟩ := ih a.2 b.2 (by omega)
          refine ⟨fun t z => ?_, ?_⟩
          · simp only [toPyRk, PyData.shownKv, List.mem_cons] at z
            rcases z with rfl | z
            · exact sOk_tlapp (sOk_tlapp (key_shown a.1) (sOk_str _)) b.1
            · exact i1 t z
          · simp only [toPyRk, PyData.depthKv]
            have : (pyK k).depth = 0 := by cases k <;> rfl
            omega
      obtain ⟨i1, i2⟩ := key es h.2 h1 h2
      refine ⟨?_, by simp only [toPyR, PyData.depth]; omega⟩
      simp only [toPyR, PyData.shown]
      unfold dictText
      exact sOk_tlapp (sOk_tlapp (sOk_str _) (sOk_join _ i1)) (sOk_str _)
  · intro a kvs es e nf k _ ih n h; cases n <;> simp [plR] at h
  · intro a C dx c fs es g e e2 n1 n2 k _ ih n h; cases n <;> simp [plR] at h
  · intro n _; exact ⟨fun t z => by simp [toPyRs, PyData.shownAll] at z, Nat.zero_le _⟩
  · intro v vs d ds _ _ ih1 ih2 n h
    simp only [List.all_cons, Bool.and_eq_true] at h
    obtain ⟨a1, a2⟩ := ih1 n h.1
    obtain ⟨b1, b2⟩ := ih2 n h.2
    refine ⟨fun t z => ?_, by simp only [toPyRs, PyData.depthAll]; omega⟩
    simp only [toPyRs, PyData.shownAll, List.mem_cons] at z
    rcases z with rfl | z
    · exact a1
    · exact b1 t z
/-- what repr shows -/
def repL (d : D) : List Nat := tl (toPyR d).shown
def okRep (d : D) : Prop := plR 60 d = true ∧ (toPyR d).showable = true ∧ (toPyR d).shown.length ≤ 16000000
instance (d : D) : Decidable (okRep d) := by unfold okRep; infer_instance
def repD : List D → Option Fv
  | [d] => if okRep d then some (.sh (.str (repL d))) else none
  | _ => none
theorem Rt.rp0 {v : V} {d : D} {n : Nat} (r : Rt G H F v d) (h : plR n d = true) : ∃ F', Rp G H F' v d := by
  cases d with
  | lst ds =>
    obtain ⟨a, vs, rfl, e, r⟩ := r
    exact ⟨fun _ => False, .lst e (fun z => z) (r.mv (Mv.less fun _ z => z.elim))⟩
  | dct es =>
    obtain ⟨a, vs, rfl, e, k, r⟩ := r
    exact ⟨fun _ => False, .dct e (fun z => z) k (r.mv (Mv.less fun _ z => z.elim))⟩
  | dcT a => cases n <;> simp [plR] at h
  | ins a _ => cases n <;> simp [plR] at h
  | non => exact ⟨F, r⟩
  | bl b => exact ⟨F, r⟩
  | int i => exact ⟨F, r⟩
  | str l => exact ⟨F, r⟩
  | tup ds => exact ⟨F, r⟩
  | ty a => cases n <;> simp [plR] at h
  | ref a => cases n <;> simp [plR] at h
  | flz a => cases n <;> simp [plR] at h
/-- repr(v) -/
def rRepR (G : Gx) : List V → Hp → VK → Prop := fun xs H Q => ∃ v d F, xs = [v] ∧ Rp G H F v d ∧ okRep d ∧ Q (.str (sl (repL d))) H
theorem sys_none {X : Cx} {pins : List (Addr × Obj)} {σ : L2.St} {s : Shared} (I : Inv X pins σ H s) (hb : X.base = G.base) : H sysModules = none := by
  obtain ⟨o, e⟩ := G.sys
  exact (I.bs _ _ (hb ▸ e)).2
theorem reprR {X : Cx} (hK : X.K = G.K) (hb : X.base = G.base) (un : X.A.units + 200 < cLine) (hg : X.A.guards = some []) : CallR X (.builtin "repr") (rRepR G) := by
  intro pins s σ H xs us Q I r h
  obtain ⟨v, d, F, rfl, rp, ⟨h1, h2, h3⟩, q⟩ := h
  obtain ⟨u, rfl, ru⟩ := vals1 r
  obtain ⟨as, rd, ns⟩ := rp.reads I hK (sys_none I hb) 60 u h1 ru
  obtain ⟨_, dp⟩ := rp.shownOk 60 h1
  have sz := Nat.le_trans h3 sizeLine_big
  have e : sl (repL d) = (toPyR d).shown := by simp [repL, sl, tl]
  rw [e] at q
  have fin : ∀ h' t tk, (∀ b o, s.heap.get? b = some o → h'.get? b = some o) →
      EP X pins σ Q (.str (toPyR d).shown t) { s with heap := h', toks := tk } :=
    fun h' t tk kp => ⟨.str (toPyR d).shown, H, I.kept kp, ⟨t, rfl⟩, q⟩
  have big : ∀ a, u = .ref a → wpAny (model X.prog X.w) X.A (call (.builtin "repr") [u]) (fun v s => EP X pins σ Q v s) X.xe s := fun a ea => by
    subst ea
    exact repr_of_reads' rd h2 (fun _ => ns) hg (by omega) (fun _ _ e => e) fin sz
  cases rp with
  | non =>
    cases ru
    exact PySem.P.repr_of_none (fin s.heap _ _ fun _ _ e => e)
  | bl b =>
    cases ru
    exact PySem.P.repr_of_bool (fin s.heap _ _ fun _ _ e => e)
  | int i =>
    obtain ⟨t, rfl⟩ := ru
    exact PySem.P.repr_of_int (of_decide_eq_true h2) (fin s.heap _ _ fun _ _ e => e)
  | str x =>
    obtain ⟨t, rfl⟩ := ru
    exact PySem.P.repr_of_str (fin s.heap _ _ fun _ _ e => e) sz
  | ty => simp [plR] at h1
  | ref => simp [plR] at h1
  | lst => cases ru; exact big _ rfl
  | tup => cases ru; exact big _ rfl
  | dct => cases ru; exact big _ rfl
  | flz => simp [plR] at h1
  | dcT => simp [plR] at h1
  | ins => simp [plR] at h1
theorem bRepr (c : Cok G X W k) (hq : G.q := by assumption) : BP G X (.builtin "repr") repD := by
  refine ⟨_, reprR c.hK c.hb (by have := c.hr.un; omega) (c.gd hq), ?_⟩
  intro H F xs ds fv Q fo rs h p
  unfold repD at h
  split at h
  · rename_i d
    obtain ⟨v, rfl, r⟩ := rs.one
    split at h
    · rename_i hk
      cases h
      obtain ⟨F', r'⟩ := r.rp0 hk.1
      refine ⟨v, d, F', rfl, r', hk, ?_⟩
      exact p.sh0 (.str (by simpa [repL, tl] using (r'.shownOk 60 hk.1).1))
    · cases h
  · cases h
/-! ### methods of texts -/
def dMs (f : List Nat → List D → Option Fv) (do_ : Dn Fv) (da : Dn (List Fv)) : Dn Fv := fun ε => (do_ ε).bind fun x ε1 => match rd ε1 x.old with
  | some (.str l) => (da ε1).bind fun fs ε2 => oN ε2 (fun ds => f l ds) fs
  | _ => .no
end
end PL
namespace PL
open PySem PySem.Spec PyProof.Rows L2 AB
open TL (tl)
section
variable {G : Gx} {X : Cx} {W : WX} {C : Fr} {σ : L2.St} {ε : Ev} {H : Hp} {F : Addr → Prop} {k : Nat}
/-! ### an owned object is written -/
theorem putIo_one {j : Nat} {s : Sl} {d : D} (e : ε[j]? = some s) : putIo ε [j] [d] = ε.set j (s.with d) := by
  unfold putIo
  rw [e]
  rfl
theorem Ok.top (k : Ok G C H σ ε) {a : Addr} (h : own σ ε a) : ∃ d, Top G H (C.F σ ε) a d := by
  obtain ⟨i, s, e, m, q⟩ := h
  cases s with
  | no => cases m
  | sh d => cases m
  | ow d => obtain ⟨p', e', t⟩ := k.ow i d e; rw [q] at e'; cases e'; exact ⟨_, t⟩
  | io d => obtain ⟨p', e', t⟩ := k.io i d e; rw [q] at e'; cases e'; exact ⟨_, t⟩
theorem upd_al {a b : Addr} {o : HO} (z : upd H a o b = none) : H b = none := by
  unfold upd at z
  split at z
  · cases z
  · exact z
theorem Ok.wr1 (k : Ok G C H σ ε) {j : Nat} {a : Addr} {s : Sl} {d : D} {o : HO} (e : ε[j]? = some s) (m : s.mut = true) (q : σ[j]? = some (some (.ref a))) (t : Top G (upd H a o) (C.F σ ε) a d) :
    Ok G C (upd H a o) σ (ε.set j (s.with d)) ∧ Stp σ ε σ (ε.set j (s.with d)) H (upd H a o) := by
  have hown : own σ ε a := ⟨j, s, e, m, q⟩
  obtain ⟨d0, t0⟩ := k.top hown
  have r := Ok.after (js := [j]) (as := [a]) (outs := [d]) (F0' := C.F0) (H' := upd H a o) k rfl rfl (fun n i b e1 e2 => by
    cases n with
    | zero => simp at e1 e2; subst e1 e2; exact ⟨q, s, e, m⟩
    | succ n => simp at e1) (by simp) (fun b u eb nb _ => by rw [upd_ne fun z => nb (by simp [z])]; exact eb) (fun b z => upd_al z) (fun p hp => tab_top t0 (k.tb p hp)) (fun _ z => z) (fun _ z => .inl z) (fun n b d' e1 e2 => by
    cases n with
    | zero => simp at e1 e2; subst e1 e2; exact t
    | succ n => simp at e1)
  rw [putIo_one e] at r
  exact ⟨r.1, fun b u eb nb _ => by rw [upd_ne (fun (z : b = a) => nb (by rw [z]; exact hown))]; exact eb, fun b z => .inl (r.2 b z), fun b z => upd_al z⟩
/-- o.m(..) that writes o: the new content, the answer -/
def mutF (f : D → List D → Option (D × D)) (j : Nat) (fs : List Fv) (ε : Ev) : Re Fv := match shr fs ε with
  | some (ds, ε1) => match ε1[j]? with
    | some s => match s with
      | .ow d => (match f d ds with
        | some (d', r) => .ok (.sh r) (ε1.set j (.ow d'))
        | none => .no)
      | .io d => (match f d ds with
        | some (d', r) => .ok (.sh r) (ε1.set j (.io d'))
        | none => .no)
      | _ => .no
    | none => .no
  | none => .no
def isLst : D → Bool
  | .lst _ => true
  | _ => false
def recv (isT : D → Bool) (x : Fv) (ε : Ev) : Option Nat := match x with
  | .at j => match ε.at j with
    | some d => if isT d = true then some j else none
    | none => none
  | _ => none
def dMut (isT : D → Bool) (f : D → List D → Option (D × D)) (do_ : Dn Fv) (da : Dn (List Fv)) : Dn Fv := fun ε => (do_ ε).bind fun x ε1 => match recv isT x ε1 with
  | some j => (da ε1).bind (mutF f j)
  | none => .no
/-- what a writing method does -/
def MtS (G : Gx) (r : V → List V → Hp → VK → Prop) (f : D → List D → Option (D × D)) : Prop := ∀ (H : Hp) (F : Addr → Prop) (a : Addr) (xs : List V) (d d' : D) (ds : List D) (e : D) (Q : VK), FOld H F → F a → Top G H F a d → RpAll G H F xs ds → f d ds = some (d', e) →
  (∀ v o, Top G (upd H a o) F a d' → Rp G (upd H a o) F v e → Q v (upd H a o)) → r (.ref a) xs H Q
theorem mutF_sound {r : V → List V → Hp → VK → Prop} {f : D → List D → Option (D × D)} {j : Nat} {a : Addr} {fs : List Fv} {vs : List V} {Q : VK} (hs : MtS G r f) (k : Ok G C H σ ε) (q : σ[j]? = some (some (.ref a))) (vr : VRs G C H σ ε vs fs) (p : PostE G W C σ ε H Q (mutF f j fs ε)) : r (.ref a) vs H Q := by
  unfold mutF at p
  cases q1 : shr fs ε with
  | none => rw [q1] at p; exact p.elim
  | some y =>
    obtain ⟨ds, ε1⟩ := y
    rw [q1] at p
    obtain ⟨k1, rs, o1⟩ := shr_sound k vr q1
    dsimp only at p
    cases q2 : ε1[j]? with
    | none => rw [q2] at p; exact p.elim
    | some s =>
      rw [q2] at p
      have st1 : Stp σ ε σ ε1 H H := Stp.less o1
      have go : ∀ (s : Sl) (d : D), ε1[j]? = some s → s.mut = true → Top G H (C.F σ ε1) a d → PostE G W C σ ε H Q (match f d ds with
          | some (d', r) => .ok (.sh r) (ε1.set j (s.with d'))
          | none => .no) → r (.ref a) vs H Q := fun s d es ms t p => by
        cases q3 : f d ds with
        | none => rw [q3] at p; exact p.elim
        | some y =>
          obtain ⟨d', e⟩ := y
          rw [q3] at p
          have hF : C.F σ ε1 a := .inr ⟨j, s, es, ms, q⟩
          refine hs H _ a vs d d' ds e Q k1.fold hF t rs q3 fun v o t' r' => ?_
          obtain ⟨k2, st2⟩ := k1.wr1 es ms q t'
          have o2 : ∀ b, own σ (ε1.set j (s.with d')) b → own σ ε1 b := fun b z => by
            rcases st2.own b z with z | z
            · exact z
            · obtain ⟨u, eu⟩ := k2.own_some (show own σ _ b from by assumption)
              by_cases hb : b = a
              · rw [hb]; exact ⟨j, s, es, ms, q⟩
              · rw [upd_ne hb, z] at eu; cases eu
          exact p v _ (st1.trans st2) k2 (r'.mv (Mv.less fun b z => z.imp id (o2 b)))
      cases s with
      | no => exact p.elim
      | sh d => exact p.elim
      | ow d =>
        obtain ⟨b, e1, t⟩ := k1.ow j d q2
        rw [q] at e1; cases e1
        exact go (.ow d) d q2 rfl t p
      | io d =>
        obtain ⟨b, e1, t⟩ := k1.io j d q2
        rw [q] at e1; cases e1
        exact go (.io d) d q2 rfl t p
theorem recv_sound {isT : D → Bool} {Hs : Hp} {x : V} {fx : Fv} {j : Nat} (vr : VR G C Hs H σ ε x fx) (h : recv isT fx ε = some j) : σ[j]? = some (some x) ∧ ∃ d, ε.at j = some d ∧ isT d = true := by
  cases fx with
  | sh d => cases h
  | fr d => cases h
  | «at» i =>
    unfold recv at h
    dsimp only at h
    cases q : ε.at i with
    | none => rw [q] at h; cases h
    | some d =>
      rw [q] at h
      dsimp only at h
      split at h
      · cases h; exact ⟨vr, d, q, by assumption⟩
      · cases h
section
variable {o e : Expr} {es : List Expr} {do_ : Dn Fv} {da : Dn (List Fv)} {name : Str} {id : String} {r : V → List V → Hp → VK → Prop} {f : D → List D → Option (D × D)} {apos cpos : Pos}
theorem eML (c : Cok G X W k) (m : MtM X id r) (hs' : MtS G r f) (slot : Slot "list" name id) (hty : typeOf (.builtin id) = pure (.type "method_descriptor")) (ho : PEp G X W o do_) (ha : PAp G X W (e :: es) da)
    (hbase : attributeBase o name X.env (eval o X.env) = eval o X.env := by rfl)
    (hfew : ((backTo cpos (starEach (e :: es) X.env)).all (fun x => !x.1) && (backToKw cpos (keywordEach [] X.env)).all (fun x => x.1.isSome)
      && decide ((e :: es).length + ([] : List Keyword).length + (if ([] : List Keyword).isEmpty then 0 else 1) < 30)) = true := by rfl)
    (hline : (apos.endLine == cpos.line) = true := by rfl) (hs : starEach (e :: es) X.env = (false, eval e X.env) :: starEach es X.env := by rfl) (hplain : (backTo cpos (starEach es X.env)).any (·.1) = false := by rfl) :
    PEp G X W (.Call (.Attribute o name apos) (e :: es) [] cpos) (dMut isLst f do_ da) := by
  refine PE.imp (pe_bm PySem.F.plainAttrs_list slot hty m ho ha hbase hfew hline hs hplain) ?_
  rintro σ H Q ⟨C, ε, ok, post⟩
  refine wE_bind (P := PostE G W C σ ε H Q) ok post (fun _ _ h => h) (fun h => h) fun fx ε1 x H1 st1 ok1 vr1 p1 => ?_
  have p1 := p1.from st1
  cases q : recv isLst fx ε1 with
  | none => rw [q] at p1; exact p1.elim
  | some j =>
    rw [q] at p1
    obtain ⟨ev, d, ed, hd⟩ := recv_sound vr1 q
    have rt := ok1.rtAt ev ed
    cases d with
    | lst ds =>
      obtain ⟨a, vs, rfl, ea, _⟩ := rt
      rw [c.hK]
      refine ⟨.inl ⟨rfl, vs, SqL.of ea⟩, ?_⟩
      refine wA_bind (P := PostE G W C σ ε1 H1 Q) ok1 p1 (fun _ _ h => h) (fun h => h) fun fs ε2 ws H2 st2 ok2 vr2 p2 => ?_
      exact mutF_sound hs' ok2 ev vr2 (p2.from st2)
    | _ => cases hd
end
theorem mv_wr {a : Addr} {o : HO} (h : F a) : Mv H (upd H a o) F F := ⟨fun b u e n _ => by rw [upd_ne (fun (z : b = a) => n (by rw [z]; exact h))]; exact e, fun b z => .inl z⟩
def appD : D → List D → Option (D × D)
  | .lst ds, [d] => if ds.length < 16000000 then some (.lst (ds ++ [d]), .non) else none
  | _, _ => none
theorem mAppend : MtS G rAppend appD := by
  intro H F a xs d d' ds e Q fo hF t rs h p
  cases d with
  | lst es =>
    obtain ⟨vs, ev, rv⟩ := t
    match ds, rs, h with
    | [x], .cons rx .nil, h =>
      simp only [appD] at h
      split at h
      · cases h
        refine ⟨a, vs, _, rfl, rfl, ev, Nat.lt_of_lt_of_le (by rw [rv.length]; assumption) sizeLine_big, p .non _ ⟨_, upd_same, (rv.mv (mv_wr hF)).app (.cons (rx.mv (mv_wr hF)) .nil)⟩ .non⟩
      · cases h
    | [], _, h => cases h
    | _ :: _ :: _, _, h => cases h
  | _ => cases h
def extD : D → List D → Option (D × D)
  | .lst ds, [.lst es] => if ds.length + es.length ≤ 16000000 then some (.lst (ds ++ es), .non) else none
  | _, _ => none
theorem mExtend : MtS G rExtend extD := by
  intro H F a xs d d' ds e Q fo hF t rs h p
  unfold extD at h
  split at h
  · obtain ⟨vs, ev, rv⟩ := t
    cases rs with
    | cons rx rn =>
      cases rn
      cases rx with
      | lst e2 n2 r2 =>
        split at h
        · cases h
          exact ⟨a, _, vs, _, rfl, rfl, ev, e2, by rw [rv.length, r2.length]; exact sz_le (by assumption), p .non _ ⟨_, upd_same, (rv.mv (mv_wr hF)).app (r2.mv (mv_wr hF))⟩ .non⟩
        · cases h
  · cases h
/-! ### d[k] = v -/
def putD {κ : Type} [DecidableEq κ] (es : List (κ × D)) (k : κ) (d : D) : List (κ × D) :=
  if (es.any fun kv => decide (kv.1 = k)) = true then es.map (fun kv => if kv.1 = k then (kv.1, d) else kv) else es ++ [(k, d)]
theorem any_keys {κ : Type} [DecidableEq κ] {k : κ} {kvs : List (κ × V)} {es : List (κ × D)} (e : kvs.map (·.1) = es.map (·.1)) : (kvs.any fun kv => decide (kv.1 = k)) = es.any fun kv => decide (kv.1 = k) := by
  have h1 : (kvs.any fun kv => decide (kv.1 = k)) = (kvs.map (·.1)).any fun x => decide (x = k) := by rw [List.any_map]; rfl
  have h2 : (es.any fun kv => decide (kv.1 = k)) = (es.map (·.1)).any fun x => decide (x = k) := by rw [List.any_map]; rfl
  rw [h1, h2, e]
theorem put_rp {κ : Type} [DecidableEq κ] {k : κ} {v : V} {d : D} {kvs : List (κ × V)} {es : List (κ × D)} (e : kvs.map (·.1) = es.map (·.1)) (r : RpAll G H F (kvs.map (·.2)) (es.map (·.2))) (rv : Rp G H F v d) :
    (putK kvs k v).map (·.1) = (putD es k d).map (·.1) ∧ RpAll G H F ((putK kvs k v).map (·.2)) ((putD es k d).map (·.2)) := by
  unfold putK putD
  rw [any_keys e]
  split
  · have gen : ∀ {kvs : List (κ × V)} {es : List (κ × D)}, kvs.map (·.1) = es.map (·.1) → RpAll G H F (kvs.map (·.2)) (es.map (·.2)) →
        ((kvs.map fun kv => if kv.1 = k then (kv.1, v) else kv).map (·.1) = (es.map fun kv => if kv.1 = k then (kv.1, d) else kv).map (·.1) ∧
          RpAll G H F ((kvs.map fun kv => if kv.1 = k then (kv.1, v) else kv).map (·.2)) ((es.map fun kv => if kv.1 = k then (kv.1, d) else kv).map (·.2))) := by
      intro kvs
      induction kvs with
      | nil => intro es e r; cases es with
        | nil => exact ⟨rfl, .nil⟩
        | cons => simp at e
      | cons p kvs ih =>
        intro es e r
        cases es with
        | nil => simp at e
        | cons q es =>
          simp only [List.map_cons, List.cons.injEq] at e
          cases r with
          | cons r0 rs =>
            obtain ⟨i1, i2⟩ := ih e.2 rs
            simp only [List.map_cons]
            by_cases c : p.1 = k
            · have c2 : q.1 = k := by rw [← e.1]; exact c
              rw [if_pos c, if_pos c2]
              exact ⟨by rw [i1, e.1], .cons rv i2⟩
            · have c2 : ¬q.1 = k := by rw [← e.1]; exact c
              rw [if_neg c, if_neg c2]
              exact ⟨by rw [i1, e.1], .cons r0 i2⟩
    exact gen e r
  · rw [List.map_append, List.map_append, List.map_append, List.map_append, e]
    exact ⟨rfl, r.app (.cons rv .nil)⟩
def setD (d : D) (ds : List D) : Option (D × D) := match d, ds with
  | .dct es, [v, kd] => (keyD kd).bind fun k => if es.length < 16000000 then some (.dct (putD es k v), .non) else none
  | _, _ => none
def sDDput (do_ dk dv : Dn Fv) : Dn Fl := fun ε => (dv ε).bind fun v ε1 => (do_ ε1).bind fun x ε2 => match x with
  | .at j => (dk ε2).bind fun y ε3 => (mutF setD j [v.old, y.old] ε3).bind fun _ ε4 => .ok .nx ε4
  | _ => .no
theorem sDput {o i value : Expr} {do_ dk dv : Dn Fv} {pos pos' : Pos} (c : Cok G X W k) (ho : PEp G X W o do_) (hi : PEp G X W i dk) (hv : PEp G X W value dv) (hs : swapsWith value (some (.Subscript o i pos')) pos.line X.env = pure false) :
    PSp G X W (.Assign [.Subscript o i pos'] value pos) (sDDput do_ dk dv) := by
  refine PS.imp (ps_dput (by have := c.u; omega) ho hi hv hs) ?_
  rintro E σ H ⟨C, ε, ok, post⟩
  refine wE_bind (P := PostS G W C σ ε H E) ok post (fun _ _ h => PostS.px h) (fun h => h) fun fv ε1 v H1 st1 ok1 vr1 p1 => ?_
  have p1 := PostS.from st1 p1
  refine wE_bind (P := PostS G W C σ ε1 H1 E) ok1 p1 (fun _ _ h => PostS.px h) (fun h => h) fun fx ε2 x H2 st2 ok2 vr2 p2 => ?_
  have p2 := PostS.from st2 p2
  cases fx with
  | sh d => exact p2.elim
  | fr d => exact p2.elim
  | «at» j =>
    dsimp only at p2
    refine wE_bind (P := PostS G W C σ ε2 H2 E) ok2 p2 (fun _ _ h => PostS.px h) (fun h => h) fun fy ε3 y H3 st3 ok3 vr3 p3 => ?_
    have p3 := PostS.from st3 p3
    have v1 := ((vr1.old .nil).stp st2).stp st3
    have vs : VRs G C H3 σ ε3 [v, y] [fv.old, fy.old] := by
      have v2 := vr3.old .nil
      generalize fv.old = a at v1
      cases v1 with
      | sh r _ => exact .sh r v2
      | «at» r _ => exact .at r v2
    have hj : σ[j]? = some (some x) := vr2
    -- the object at j
    have obj : ∃ a, x = .ref a := by
      unfold mutF at p3
      cases q1 : shr [fv.old, fy.old] ε3 with
      | none => rw [q1] at p3; exact p3.elim
      | some z =>
        obtain ⟨ds, ε4⟩ := z
        rw [q1] at p3
        obtain ⟨k4, _, _⟩ := shr_sound ok3 vs q1
        dsimp only at p3
        cases q2 : ε4[j]? with
        | none => rw [q2] at p3; exact p3.elim
        | some s =>
          rw [q2] at p3
          cases s with
          | no => exact p3.elim
          | sh d => exact p3.elim
          | ow d => obtain ⟨b, e1, _⟩ := k4.ow j d q2; rw [hj] at e1; cases e1; exact ⟨b, rfl⟩
          | io d => obtain ⟨b, e1, _⟩ := k4.io j d q2; rw [hj] at e1; cases e1; exact ⟨b, rfl⟩
    obtain ⟨a, rfl⟩ := obj
    have hms : MtS G (fun x xs H Q => ∃ (a : Addr) (v y : V) (H4 : Hp), x = .ref a ∧ xs = [v, y] ∧ DPut H a y v H4 ∧ Q .non H4) setD := by
      intro H F a xs d d' ds e Q fo hF t rs h p
      unfold setD at h
      split at h
      · rename_i es vd kd
        obtain ⟨kvs, ev, ek, rv⟩ := t
        cases rs with
        | cons r1 rs =>
          cases rs with
          | cons r2 rs =>
            cases rs
            cases q : keyD kd with
            | none => rw [q] at h; cases h
            | some key =>
              rw [q] at h
              simp only [Option.bind_some] at h
              split at h
              · rename_i hl
                cases h
                have hk := r2.rt.key q
                subst hk
                have hl' : kvs.length = es.length := by have := congrArg List.length ek; simpa using this
                obtain ⟨g1, g2⟩ := put_rp (k := key) ek (rv.mv (mv_wr (o := .dK (putK kvs key _)) hF)) (r1.mv (mv_wr hF))
                exact ⟨a, _, _, _, rfl, rfl, DPut.k ev (Nat.lt_of_lt_of_le (by rw [hl']; exact hl) sizeLine_big), p .non _ ⟨_, upd_same, g1, g2⟩ .non⟩
              · cases h
      · cases h
    have fin : PostE G W C σ ε3 H3 (fun _ H4 => E.nx σ H4) (mutF setD j [fv.old, fy.old] ε3) := by
      cases q : mutF setD j [fv.old, fy.old] ε3 with
      | no => rw [q] at p3; exact p3.elim
      | exc z ε' => rw [q] at p3; exact PostS.px p3
      | ok z ε4 => rw [q] at p3; exact fun u H4 st4 ok4 _ => p3 σ H4 st4 ok4
    obtain ⟨a', v', y', H4, e1, e2, dp, q4⟩ := mutF_sound hms ok3 hj vs fin
    cases e1
    simp only [List.cons.injEq] at e2
    obtain ⟨rfl, rfl, _⟩ := e2
    exact ⟨a, H4, rfl, dp, q4⟩
/-! ### list(range(..)) -/
def lrng1 (fv : Fv) (ε : Ev) : Re Fv := match rd ε fv with
  | some (.int n) => if -(2 ^ 62) ≤ n ∧ n ≤ 16000000 then .ok (.fr (.lst (rngD 0 n.toNat))) ε else .no
  | _ => .no
/-! ### calls by names -/
def permL {α : Type} (idx : List Nat) (l : List α) : List α := idx.filterMap (l[·]?)
def kperm {α : Type} (n m : Nat) (idx : List Nat) (us ws : List α) : List α := if us.length = n ∧ ws.length = m then permL idx (us ++ ws) else []
theorem VRs.app {vs ws : List V} {fs gs : List Fv} (h : VRs G C H σ ε vs fs) (k : VRs G C H σ ε ws gs) : VRs G C H σ ε (vs ++ ws) (fs ++ gs) := by
  induction h with
  | nil => exact k
  | sh r _ ih => exact .sh r ih
  | «at» r _ ih => exact .at r ih
theorem VRs.length {vs : List V} {fs : List Fv} (h : VRs G C H σ ε vs fs) : vs.length = fs.length := by
  induction h with
  | nil => rfl
  | sh r _ ih => simp [ih]
  | «at» r _ ih => simp [ih]
theorem VRs.get {vs : List V} {fs : List Fv} (h : VRs G C H σ ε vs fs) : ∀ {i : Nat} {v : V}, vs[i]? = some v → ∃ f, fs[i]? = some f ∧ VRs G C H σ ε [v] [f] := by
  induction h with
  | nil => intro i v e; simp at e
  | sh r _ ih =>
    intro i v e
    cases i with
    | zero => simp at e; subst e; exact ⟨_, rfl, .sh r .nil⟩
    | succ i => simpa using ih (by simpa using e)
  | «at» r _ ih =>
    intro i v e
    cases i with
    | zero => simp at e; subst e; exact ⟨_, rfl, .at r .nil⟩
    | succ i => simpa using ih (by simpa using e)
abbrev PKp (G : Gx) (X : Cx) (W : WX) (kws : List Keyword) (den : Dn (List Fv)) : Prop := PK X kws (wA G W den)
theorem PK.imp {es : List Keyword} {t t' : TA} (h : PK X es t) (k : ∀ σ H Q, t' σ H Q → t σ H Q) : PK X es t' := ⟨fun p pins s σ H Q I z => h.run p pins s σ H Q I (k σ H Q z)⟩
theorem kNil : PKp G X W [] aNil := PK.imp pk_nil fun σ H Q ⟨C, ε, ok, post⟩ => post [] H Stp.refl ok .nil
theorem kCons {a : Expr} {as : List Keyword} {nm : Option Str} {kpos : Pos} {da : Dn Fv} {db : Dn (List Fv)} (ha : PEp G X W a da) (hb : PKp G X W as db) : PKp G X W (⟨nm, a, kpos⟩ :: as) (aCons da db) := by
  refine PK.imp (pk_cons ha hb) ?_
  rintro σ H Q ⟨C, ε, ok, post⟩
  refine wE_bind (P := PostA G W C σ ε H Q) ok post (fun _ _ h => h) id fun fx ε1 x H1 st1 ok1 vr1 p1 => ?_
  refine wA_bind (P := PostA G W C σ ε1 H1 Q) ok1 (p1.from st1) (fun _ _ h => h) id fun fs ε2 xs H2 st2 ok2 vr2 p2 => ?_
  refine p2 _ H2 st2 ok2 ?_
  have v1 := (vr1.old .nil).stp st2
  generalize fx.old = a at v1
  cases v1 with
  | sh r _ => exact .sh r vr2
  | «at» r _ => exact .at r vr2
section
variable {j n m : Nat} {idx : List Nat} {f : Addr} {fd : FuncData} {ps ks : List Str} {mask : List Bool} {den : List D → Rf} {x : Str} {p pos : Pos} {e : Expr} {es : List Expr} {kws : List Keyword} {da dk : Dn (List Fv)}
def dCallK (n m : Nat) (idx : List Nat) (mask : List Bool) (den : List D → Rf) (da dk : Dn (List Fv)) : Dn Fv := fun ε => (da ε).bind fun fs ε1 => (dk ε1).bind fun gs ε2 => callF mask den (kperm n m idx fs gs) ε2
end
end
end PL
namespace PL
open PySem PySem.Spec PyProof.Rows L2 AB
open TL (tl)
section
variable {G : Gx} {X : Cx} {W : WX} {H : Hp} {F : Addr → Prop} {k : Nat}
/-! ### {k: v, ..} -/
def prD : List (Dn Fv × Dn Fv) → Dn (List (Fv × Fv))
  | [] => fun ε => .ok [] ε
  | p :: r => fun ε => (p.1 ε).bind fun x ε1 => (p.2 ε1).bind fun y ε2 => (prD r ε2).bind fun ps ε3 => .ok ((x.old, y.old) :: ps) ε3
def PostP (G : Gx) (W : WX) (C : Fr) (σ : L2.St) (ε : Ev) (H : Hp) (Q : List (V × V) → Hp → Prop) : Re (List (Fv × Fv)) → Prop
  | .ok ps ε' => ∀ vps H', Stp σ ε σ ε' H H' → Ok G C H' σ ε' → VRs G C H' σ ε' (vps.map (·.1)) (ps.map (·.1)) → VRs G C H' σ ε' (vps.map (·.2)) (ps.map (·.2)) → Q vps H'
  | .exc x ε' => PX G W C σ ε H x ε'
  | .no => False
theorem PostP.from {C : Fr} {σ : L2.St} {ε ε1 : Ev} {H1 : Hp} (st : Stp σ ε σ ε1 H H1) {Q : List (V × V) → Hp → Prop} {r : Re (List (Fv × Fv))} (h : PostP G W C σ ε H Q r) : PostP G W C σ ε1 H1 Q r := by
  cases r with
  | ok b ε' => exact fun vs H' s k r r' => h vs H' (st.trans s) k r r'
  | exc x ε' => exact PX.from st h
  | no => exact h
theorem VRs.cons1 {C : Fr} {σ : L2.St} {ε : Ev} {v : V} {f : Fv} {vs : List V} {fs : List Fv} (h : VRs G C H σ ε [v] [f]) (h' : VRs G C H σ ε vs fs) : VRs G C H σ ε (v :: vs) (f :: fs) := h.app h'
theorem pairs_read {σ : L2.St} : ∀ (dens : List (Dn Fv × Dn Fv)) {C : Fr} {ε : Ev} {H : Hp} {Q : List (V × V) → Hp → Prop}, Ok G C H σ ε → PostP G W C σ ε H Q (prD dens ε) → tPairs (dens.map fun p => (wE G W p.1, wE G W p.2)) σ H Q
  | [], C, ε, H, Q, ok, post => post [] H Stp.refl ok .nil .nil
  | p :: r, C, ε, H, Q, ok, post => by
    refine wE_bind (P := PostP G W C σ ε H Q) ok post (fun _ _ h => h) id fun fx ε1 x H1 st1 ok1 vr1 p1 => ?_
    refine wE_bind (P := PostP G W C σ ε1 H1 Q) ok1 (p1.from st1) (fun _ _ h => h) id fun fy ε2 y H2 st2 ok2 vr2 p2 => ?_
    have p2 := p2.from st2
    refine pairs_read r (C := C) (ε := ε2) ok2 ?_
    cases e : prD r ε2 with
    | no => rw [e] at p2; exact p2.elim
    | exc z ε' => rw [e] at p2; exact p2
    | ok ps ε3 =>
      rw [e] at p2
      intro vps H3 st3 ok3 a b
      exact p2 ((x, y) :: vps) H3 st3 ok3 ((((vr1.old .nil).stp st2).stp st3).cons1 a) (((vr2.old .nil).stp st3).cons1 b)
def keysOf : List D → Option (List Key)
  | [] => some []
  | d :: ds => match keyD d, keysOf ds with
    | some k, some ks => some (k :: ks)
    | _, _ => none
def mergeD (es : List (Key × D)) (kvs : List (Key × D)) : List (Key × D) := kvs.foldl (fun acc kv => putD acc kv.1 kv.2) es
def dispF (ps : List (Fv × Fv)) (ε : Ev) : Re Fv := match (rds ε (ps.map (·.1))).bind keysOf, shr (ps.map (·.2)) ε with
  | some ks, some (ds, ε') => if ps.length ≤ 15 then .ok (.fr (.dct (mergeD [] (ks.zip ds)))) ε' else .no
  | _, _ => .no
def dDisp (dens : List (Dn Fv × Dn Fv)) : Dn Fv := fun ε => (prD dens ε).bind dispF
theorem merge_rp : ∀ {ks : List Key} {vs : List V} {ds : List D}, RpAll G H F vs ds → ∀ {kvs : List (Key × V)} {es : List (Key × D)}, kvs.map (·.1) = es.map (·.1) → RpAll G H F (kvs.map (·.2)) (es.map (·.2)) →
    (mergeK kvs (ks.zip vs)).map (·.1) = (mergeD es (ks.zip ds)).map (·.1) ∧ RpAll G H F ((mergeK kvs (ks.zip vs)).map (·.2)) ((mergeD es (ks.zip ds)).map (·.2))
  | [], _, _, _, kvs, es, e, r => ⟨e, r⟩
  | k :: ks, _, _, .nil, kvs, es, e, r => ⟨e, r⟩
  | k :: ks, _, _, .cons a b, kvs, es, e, r => by
    obtain ⟨e1, r1⟩ := put_rp (k := k) e r a
    exact merge_rp (ks := ks) b e1 r1
theorem keys_rt : ∀ {ds : List D} {vs : List V} {ks : List Key}, RtAll G H F vs ds → keysOf ds = some ks → vs = ks.map kV
  | [], _, ks, .nil, h => by cases h; rfl
  | d :: ds, _, ks, .cons a b, h => by
    unfold keysOf at h
    cases q1 : keyD d with
    | none => rw [q1] at h; cases h
    | some k =>
      cases q2 : keysOf ds with
      | none => rw [q1, q2] at h; cases h
      | some ks' =>
        rw [q1, q2] at h
        cases h
        rw [a.key q1, keys_rt b q2]
        rfl
theorem eDisp {keys : List (Option Expr)} {values : List Expr} {dens : List (Dn Fv × Dn Fv)} {pos : Pos} (c : Cok G X W k) (h : PPs X pos keys values (dens.map fun p => (wE G W p.1, wE G W p.2))) (hall : keys.all (·.isSome) = true) (hl : keys.length = values.length) (h0 : keys ≠ []) (h15 : keys.length ≤ 15) :
    PEp G X W (.Dict keys values pos) (dDisp dens) := by
  refine PE.imp (pe_disp h hall hl h0 h15) ?_
  rintro σ H Q ⟨C, ε, ok, post⟩
  intro p hp
  have okp : Ok G (C.add p) (upd H p (.dK [])) σ ε := ok.add hp
  have st0 : Stp σ ε σ ε H (upd H p (.dK [])) := Stp.grow (grow_new hp)
  refine pairs_read dens (C := C.add p) (ε := ε) okp ?_
  unfold dDisp at post
  cases e : prD dens ε with
  | no => rw [e] at post; exact post.elim
  | exc z ε' => rw [e] at post; exact PX.add (PX.from st0 post)
  | ok ps ε1 =>
    rw [e] at post
    intro vps H2 st2 ok2 vk vv
    simp only [Re.bind] at post
    unfold dispF at post
    have keep : H2 p = some (.dK []) := st2.keep p _ upd_same (fun z => okp.nf p z (.inr rfl)) .dK
    refine ⟨keep, ?_⟩
    cases q1 : (rds ε1 (ps.map (·.1))).bind keysOf with
    | none => rw [q1] at post; exact post.elim
    | some ks =>
      rw [q1] at post
      cases q2 : shr (ps.map (·.2)) ε1 with
      | none => rw [q2] at post; exact post.elim
      | some y =>
        obtain ⟨ds, ε2⟩ := y
        rw [q2] at post
        dsimp only at post
        split at post
        · rename_i h15'
          cases q3 : rds ε1 (ps.map (·.1)) with
          | none => rw [q3] at q1; cases q1
          | some kds =>
            rw [q3] at q1
            have q1 : keysOf kds = some ks := q1
            have hk := keys_rt (vk.rt ok2 q3) q1
            obtain ⟨ok3, rv, o3⟩ := shr_sound ok2 vv q2
            have lk : ks.length = vps.length := by
              have := congrArg List.length hk
              simpa using this.symm
            refine ⟨ks.zip (vps.map (·.2)), ?_, ?_, ?_⟩
            · apply List.ext_getElem
              · simp [lk]
              · intro i h1 h2
                have hi : i < vps.length := h1
                simp only [List.getElem_map, List.getElem_zip]
                have : (vps.map (·.1))[i]'(by simpa using hi) = (ks.map kV)[i]'(by simp [lk]; exact hi) := by simp only [hk]
                simp only [List.getElem_map] at this
                rw [← this]
            · have hv : vps.length = ps.length := by
                have := vk.length
                simpa using this
              simp [lk, hv]
              exact h15'
            · have k4 : Ok G (C.add p) (upd H2 p (.dK (mergeK [] (ks.zip (vps.map (·.2)))))) σ ε2 := ok3.wr (fun _ _ t => tab_dK keep t) (ok.fresh hp).1
              have st4 : Stp σ ε σ ε2 H (upd H2 p (.dK (mergeK [] (ks.zip (vps.map (·.2)))))) := by
                have := (st0.trans st2).trans (Stp.less (H := H2) o3)
                exact ⟨fun b u eb nb t => by rw [upd_ne fun z => by subst z; rw [eb] at hp; cases hp]; exact this.keep b u eb nb t, this.own, fun b z => this.al b (upd_al z)⟩
              have mvD : Mv H2 (upd H2 p (.dK (mergeK [] (ks.zip (vps.map (·.2)))))) ((C.add p).F σ ε2) ((C.add p).F σ ε2) :=
                ⟨fun b u e n _ => by rw [upd_ne fun z => n (.inl (.inr z))]; exact e, fun b z => .inl z⟩
              obtain ⟨g1, g2⟩ := merge_rp (ks := ks) (rv.mv mvD) (kvs := []) (es := []) rfl .nil
              refine post _ _ st4 k4.unadd ⟨p, rfl, hp, ?_, k4, ⟨_, upd_same, g1, g2⟩⟩
              intro z
              rcases z with z | z
              · exact (ok.fresh hp).2 (.inl z)
              · exact k4.nf p z (.inr rfl)
        · exact post.elim
theorem eDict0 {pos : Pos} : PEp G X W (.Dict [] [] pos) (fun ε => .ok (.fr (.dct [])) ε) := by
  refine PE.imp pe_dnewK ?_
  rintro σ H Q ⟨C, ε, ok, post⟩
  intro p hp
  exact (PostE.v ok post (fun i z => by cases z)).dct (kvs := []) rfl .nil hp
/-! ### the law's own call -/
theorem FnG.cx0 {q : Prop} {P : Program} {w : World} {K : PySem.W.Frag} {mg : Str → Option Value} {base : Heap} {j : Nat} {f : Addr} {fd : FuncData} {ps : List Str} {sp sp' : Sp} (Fn : FnG q P w K mg base (L2.CX P w) j f fd ps sp) (h : ∀ vs H Q E, sp' vs H Q E → sp vs H Q (fun _ _ _ => False)) :
    FnG q P w K mg base CX0 j f fd ps sp' := by
  refine ⟨fun vs H Q E h' => Fn.gl vs H Q _ (h vs H Q E h'), fun A outer s H args us vs Q E hr hg e0 hb hv hs => ?_⟩
  refine codeAny_mono (Fn.go A outer s H args us vs Q _ hr hg e0 hb hv (h vs H Q E hs)) fun r s' hq => ?_
  cases r with
  | error e =>
    obtain ⟨_, _, _, _, _, _, _, _, _, _, _, _, z⟩ := hq
    exact z.elim
  | ok fl =>
    cases fl with
    | ret u => exact hq
    | next => exact False.elim hq
    | brk => exact False.elim hq
    | cont => exact False.elim hq
end
end PL
namespace PL
open PySem PySem.Spec PyProof.Rows L2 AB
open TL (tl)
section
variable {G : Gx} {X : Cx} {W : WX} {k : Nat}
theorem vV (i : Nat) {x : Str} {pos : Pos} (hN : X.N[i]? = some x := by rfl) (hv : Vis X.env.scope x := by first | exact Or.inl rfl | exact Or.inr (Or.inl rfl) | exact Or.inr (Or.inr rfl)) (hd : (x == ("__debug__" : Str)) = false := by decide) (hcd : (x == ("__classdict__" : Str)) = false := by decide) : PEp G X W (.Name x pos) (dV i) := eV hN hv hd hcd
end
end PL
/-! PL14: a def that calls itself (by fuel), str of a number -/
namespace PL
open PySem PySem.Spec PyProof.Rows L2 AB
open TL (tl)
end PL
/-! PL15: == and != beside an empty list or tuple, whatever the other holds -/
namespace PL
open PySem PySem.Spec PyProof.Rows L2 AB
open TL (tl)
/-- a list or tuple of any content beside an empty one -/
def rEmp (K : PySem.W.Frag) (neg : Bool) : R2 := fun x y H Q => ∃ a b xs, x = .ref a ∧ y = .ref b ∧ ((SqL K H a xs ∧ SqL K H b []) ∨ (SqT K H a xs ∧ SqT K H b [])) ∧ Q (.bl (xor neg xs.isEmpty)) H
def eqE : D → D → Option Fv
  | .lst xs, .lst [] => some (.sh (.bl xs.isEmpty))
  | .tup xs, .tup [] => some (.sh (.bl xs.isEmpty))
  | d, e => eqO d e
def neE : D → D → Option Fv
  | .lst xs, .lst [] => some (.sh (.bl (!xs.isEmpty)))
  | .tup xs, .tup [] => some (.sh (.bl (!xs.isEmpty)))
  | d, e => neO d e
section
variable {G : Gx} {X : Cx} {W : WX} {k : Nat}
theorem op_neEmp (hu : X.A.units < cLine) : OpR X (compareOp .NotEq) (rEmp X.K true) := by
  intro pins s σ H x y v u Q I rx ry h
  obtain ⟨a, b, xs, rfl, rfl, h, q⟩ := h
  cases (show v = Value.ref a from rx)
  cases (show u = Value.ref b from ry)
  rcases h with ⟨ha, hb⟩ | ⟨ha, hb⟩
  · obtain ⟨us, r1, p1, _⟩ := I.list ha
    obtain ⟨ws, r2, p2, _⟩ := I.list hb
    cases r2
    cases r1 with
    | nil => exact SeqAt.RcNeAt.lists (e := fun _ => true) p1.isList p2.isList rfl hu (fun j h1 _ => absurd h1 (Nat.not_lt_zero j)) _ _ _ _ ⟨.bl _, H, I, rfl, q⟩
    | cons r rs => exact SeqAt.RcNeAt.lists_lengths p1.isList p2.isList (by simp) hu _ _ _ _ ⟨.bl _, H, I, rfl, q⟩
  · obtain ⟨us, r1, p1, _⟩ := I.tuple ha
    obtain ⟨ws, r2, p2, _⟩ := I.tuple hb
    cases r2
    refine SeqAt.RcNeAt.tuples (e := fun _ => true) p1 p2 hu (fun j _ h1 => absurd h1 (Nat.not_lt_zero j)) _ _ _ _ ?_
    cases r1 with
    | nil => exact ⟨.bl _, H, I, rfl, q⟩
    | cons r rs => exact ⟨.bl _, H, I, rfl, q⟩
theorem RpAll.empE {H : Hp} {F : Addr → Prop} {vs : List V} {ds : List D} (h : RpAll G H F vs ds) : vs.isEmpty = ds.isEmpty := by cases h <;> rfl
theorem emp_lst {H : Hp} {F : Addr → Prop} {x : V} {xs : List D} (r : Rt G H F x (.lst xs)) : ∃ a vs, x = .ref a ∧ SqL G.K H a vs ∧ vs.isEmpty = xs.isEmpty ∧ (xs = [] → vs = []) := by
  obtain ⟨a, vs, rfl, e, rs⟩ := r
  exact ⟨a, vs, rfl, .inl (.inl e), rs.empE, fun z => by subst z; cases rs; rfl⟩
theorem emp_tup {H : Hp} {F : Addr → Prop} {x : V} {xs : List D} (r : Rt G H F x (.tup xs)) : ∃ a vs, x = .ref a ∧ SqT G.K H a vs ∧ vs.isEmpty = xs.isEmpty ∧ (xs = [] → vs = []) := by
  cases r with
  | tup s rs => exact ⟨_, _, rfl, s.sq, rs.empE, fun z => by subst z; cases rs; rfl⟩
theorem sNeE : OpS G (fun x y H Q => rEmp G.K true x y H Q ∨ rNeD G.K x y H Q) neE := by
  intro H F x y d e fv Q fo r1 r2 h p
  unfold neE at h
  split at h
  · cases h
    obtain ⟨a, vs, rfl, s1, e1, _⟩ := emp_lst r1
    obtain ⟨b, ws, rfl, s2, _, e2⟩ := emp_lst r2
    cases e2 rfl
    refine .inl ⟨a, b, vs, rfl, rfl, .inl ⟨s1, s2⟩, ?_⟩
    rw [e1, Bool.true_xor]
    exact p.sh0 (.bl _)
  · cases h
    obtain ⟨a, vs, rfl, s1, e1, _⟩ := emp_tup r1
    obtain ⟨b, ws, rfl, s2, _, e2⟩ := emp_tup r2
    cases e2 rfl
    refine .inl ⟨a, b, vs, rfl, rfl, .inr ⟨s1, s2⟩, ?_⟩
    rw [e1, Bool.true_xor]
    exact p.sh0 (.bl _)
  · exact .inr (sNe H F x y _ _ fv Q fo r1 r2 h p)
theorem cNeE (c : Cok G X W k) : OpP G X .NotEq neE := ⟨_, OpR.or (by rw [← c.hK]; exact op_neEmp (by have := c.u; omega)) (opNe c), sNeE⟩
end
end PL
/-! ER0: an own error class, called with keywords -/
namespace PySem
namespace ERK
open Builtin Builtin.ObjectAttr PySem.HandSPX PyProof.Rows
section
variable {M : Model} {A : Around} {E : Value → Shared → Prop} {h : Heap} {g : Array GenState} {d : Drawn} {t : Nat} {os : OsState}
variable {nm q : Str} {C N : Addr} {bs bm bmB : List Value} {hdct : Bool} {sn : List Str} {sub : List Value} {ab : Bool} {col : Option Bool} {dd : Option Addr} {k0 k1 k2 k3 k5 : Option Value} {B nw it : String} {ps : List Value} {kw : List (Str × Value)}
theorem sees_new (F : ExcBaseFacts B nw it bmB) (hT : ∀ X : String, bm.contains (.type X) = bmB.contains (.type X)) {Q : Unit → Shared → Prop}
    (hC : h.get? C = some (excClassObj nm q C N bs bm hdct sn sub ab col dd k0 k1 k2 k3 k5 nw)) (hq : Q () ⟨h, g, d, t, os⟩) :
    wpAny M A (checkBuiltinCall nw ⟨.ref C :: ps, kw⟩) Q E ⟨h, g, d, t, os⟩ := by
  have c1 : (Value.ref C :: bm).contains (.type B) = true := by rw [List.contains_cons, hT, F.hasB, Bool.or_true]
  have c2 := F.noStar
  simp only [checkBuiltinCall, F.newKind, F.newSplit, F.newRow]
  repeat (first
    | refine wpAny_loadPart_at hC ?_
    | (refine wpAny_isSubtype_exc hC ?_; rw [c1])
    | refine wpAny_staticBase_exc hC ?_
    | refine wpAny_madeBy_exc hC ?_
    | simp only [bne_self_eq_false, Bool.false_eq_true, if_false]
    | wp_step)
  exact hq
theorem sees_call {Q : Unit → Shared → Prop} (hC : h.get? C = some (excClassObj nm q C N bs bm hdct sn sub ab col dd k0 k1 k2 k3 k5 nw)) (hq : Q () ⟨h, g, d, t, os⟩) :
    wpAny M A (checkBuiltinCall "type.__call__" ⟨.ref C :: ps, kw⟩) Q E ⟨h, g, d, t, os⟩ := by
  have c3 := tc_sub
  have ty : (⟨h, g, d, t, os⟩ : Shared).TypeIs (.ref C) "type" := ⟨_, hC, rfl⟩
  simp only [checkBuiltinCall, tc_kind, tc_split]
  repeat (any_goals (first
    | assumption
    | with_reducible refine wpAny_loadPart_at hC ?_
    | with_reducible refine wpAny_onRaise ?_
    | with_reducible refine wpAny_map ?_
    | wp_step))
end
section
variable {prog : Program} {w : World} {A : Around} {E : Value → Shared → Prop} {R : Result → Shared → Prop} {h : Heap} {g : Array GenState} {d : Drawn} {t : Nat} {os : OsState}
variable {nm q : Str} {C N : Addr} {bs bm bmB : List Value} {hdct : Bool} {sn : List Str} {sub : List Value} {ab : Bool} {col : Option Bool} {dd : Option Addr} {k0 k1 k2 k3 k5 : Option Value} {B nw it : String} {ps : List Value} {kw : List (Str × Value)}
/-- the new object, not yet filled -/
theorem new_kw (F : ExcBaseFacts B nw it bmB) (hT : ∀ X : String, bm.contains (.type X) = bmB.contains (.type X)) (hC : h.get? C = some (excClassObj nm q C N bs bm hdct sn sub ab col dd k0 k1 k2 k3 k5 nw)) (hz : ps.length ≤ sizeLine)
    (hq : R (.ok (.ret (.ref (h.objs.size + 1)))) ⟨(h.push (W.kdv_tup ps)).push (excO C h.objs.size), g, d, t, os⟩) :
    codeAny (model prog w) A (.builtin nw ⟨.ref C :: ps, kw⟩) R ⟨h, g, d, t, os⟩ := by
  have c0 := F.ends
  have c1 : (Value.ref C :: bm).contains (.type B) = true := by rw [List.contains_cons, hT, F.hasB, Bool.or_true]
  have c2 : (Value.ref C :: bm).contains (.type "AttributeError") = false := by rw [List.contains_cons, hT, F.noAttr]; rfl
  have c3 : (Value.ref C :: bm).contains (.type "NameError") = false := by rw [List.contains_cons, hT, F.noName]; rfl
  refine codeAny_builtinAt F.entry ?_
  unfold Builtin.«BaseException.__new__»
  refine wpAt_bind ?_
  show wpAt _ _ _ (stack >>= _) _ _ _
  refine wpAt_bind (wpAt_stack fun at0 under0 => wpAt_of_wpAny ?_)
  wp_walk
  refine wpAt_of_wpAny ?_
  rw [F.owner]
  repeat (first
    | with_reducible refine wpAny_madeHere_exc F.canon hC ?_
    | with_reducible refine wpAny_loadPart_at hC ?_
    | (with_reducible refine wpAny_isSubtype_exc hC ?_; first | rw [c1] | rw [c2] | rw [c3])
    | wp_step)
  show R _ _
  rw [Heap.size_push]
  exact hq
/-- type.__call__ of the class -/
theorem make_kw (F : ExcBaseFacts B nw it bmB) (hT : ∀ X : String, bm.contains (.type X) = bmB.contains (.type X)) {fI : Addr} {Q : Fin → Shared → Prop} (hC : h.get? C = some (excClassObj nm q C N bs bm hdct sn sub ab col dd k0 k1 k2 k3 k5 nw))
    (hi : W.Looks (model prog w) h (typeLookup (.ref C) "__init__") (some (.ref fI))) (hb : ∀ self, W.Looks (model prog w) h (bindSpecial (.ref fI) self) (.ref fI, [self])) (hz : ps.length ≤ sizeLine)
    (hq : codeAny (model prog w) A (.call (.ref fI) ⟨.ref (h.objs.size + 1) :: ps, kw⟩)
      (fun r s' => match r with
        | .ok (.ret v) => v = .none ∧ Q (.done (.ret (.ref (h.objs.size + 1)))) s'
        | .ok _ => False
        | .error e => E e s') ⟨(h.push (W.kdv_tup ps)).push (excO C h.objs.size), g, d, t, os⟩) :
    wpAny (model prog w) A (Builtin.«type.__call__» ⟨.ref C :: ps, kw⟩) Q E ⟨h, g, d, t, os⟩ := by
  repeat (first
    | with_reducible refine wpAny_loadPart_at hC ?_
    | with_reducible refine wpAny_madeBy_exc hC ?_
    | wp_step)
  refine codeAny_call_builtin_code (Code.quiet_builtin _ F.quiet) (sees_new F hT hC (new_kw F hT hC hz ?_))
  show wpAny _ _ _ _ _ _
  have grow : ∀ b o, h.get? b = some o → ((h.push (W.kdv_tup ps)).push (excO C h.objs.size)).get? b = some o := fun b o e =>
    Heap.get?_push_of_some _ (Heap.get?_push_of_some _ e)
  have hC2 := grow _ _ hC
  have at2 : ((h.push (W.kdv_tup ps)).push (excO C h.objs.size)).get? (h.objs.size + 1) = some (excO C h.objs.size) := by heap_get
  have c1 : (Value.ref C :: bm).contains (.ref C) = true := by simp
  unfold isInstance
  repeat (first
    | with_reducible refine wpAny_loadPart_at at2 ?_
    | (with_reducible refine wpAny_isSubtype_exc hC2 ?_; rw [c1])
    | wp_step)
  show wpAny _ _ (typeLookup (.ref C) _) _ _ _
  refine (hi.keeps grow).at ?_
  refine wpAny_holding (wpAny_bind (((hb (.ref (h.objs.size + 1))).keeps grow).at ?_))
  refine wpAny_bind (wpAny_call (codeAny_mono hq fun r s' z => ?_))
  rcases r with e | (v | _ | _ | _) <;> first | exact z | exact z.elim | skip
  obtain ⟨rfl, z⟩ := z
  first
    | exact wpAny_pure (wpAny_pure z)
    | (wp_walk; exact z)
theorem call_kw (F : ExcBaseFacts B nw it bmB) (hT : ∀ X : String, bm.contains (.type X) = bmB.contains (.type X)) {fI : Addr} (hC : h.get? C = some (excClassObj nm q C N bs bm hdct sn sub ab col dd k0 k1 k2 k3 k5 nw))
    (hi : W.Looks (model prog w) h (typeLookup (.ref C) "__init__") (some (.ref fI))) (hb : ∀ self, W.Looks (model prog w) h (bindSpecial (.ref fI) self) (.ref fI, [self])) (hz : ps.length ≤ sizeLine)
    (hq : codeAny (model prog w) (A.under (.builtin "type.__call__" ⟨.ref C :: ps, kw⟩)) (.call (.ref fI) ⟨.ref (h.objs.size + 1) :: ps, kw⟩) (W.InitBack (h.objs.size + 1) R)
      ⟨(h.push (W.kdv_tup ps)).push (excO C h.objs.size), g, d, t, os⟩) :
    codeAny (model prog w) A (.call (.ref C) ⟨ps, kw⟩) R ⟨h, g, d, t, os⟩ := by
  have f1 := tc_lookup
  have f2 := tc_bind (.ref C)
  have ty : (⟨h, g, d, t, os⟩ : Shared).TypeIs (.ref C) "type" := ⟨_, hC, rfl⟩
  refine codeAny_of_tree ?_
  show wpAny _ _ (callAny (.ref C) _) _ _ _
  repeat (any_goals (first
    | assumption
    | with_reducible refine wpAny_loadPart_at hC ?_
    | wp_step))
  refine ⟨rfl, ?_⟩
  refine codeAny_call_builtin_at (Code.quiet_builtin _ (by decide +kernel)) entry_typeCall (sees_call hC (make_kw F hT hC hi hb hz (codeAny_mono hq fun r s' z => ?_)))
  rcases r with e | (v | _ | _ | _) <;> exact z
end
end ERK
end PySem
/-! PX0: the program's own errors: a class over a built-in error, whose __init__ hands all on by super() and keeps each argument as a field -/
namespace PySem
namespace PX
open PySem.W PySem.Calls PyProof.Rows PySem.HandSPX
/-- what is known of a built-in error that stands above an own one -/
structure XB (B nw it : String) (bm : List Value) : Prop where
  fb : ExcBaseFacts B nw it bm
  ks : KxsFacts B it
  pass : ∀ z : Value, refuseLoop z "__setattr__" bm = pure ()
  obj : bm.contains (.type "object") = true
  ini : ∀ K : Frag, alongIn K "__init__" bm = some (some (.builtin it))
theorem xbV : XB "ValueError" "ValueError.__new__" "ValueError.__init__" [.type "ValueError", .type "Exception", .type "BaseException", .type "object"] :=
  ⟨F.excBase_ValueError, kxs_ValueError, F.store_ValueError.passes, by decide +kernel, fun K => by kernel_rfl⟩
theorem xbL : XB "LookupError" "LookupError.__new__" "LookupError.__init__" [.type "LookupError", .type "Exception", .type "BaseException", .type "object"] :=
  ⟨F.excBase_LookupError, kxs_LookupError, F.store_LookupError.passes, by decide +kernel, fun K => by kernel_rfl⟩
theorem xbR : XB "RuntimeError" "RuntimeError.__new__" "RuntimeError.__init__" [.type "RuntimeError", .type "Exception", .type "BaseException", .type "object"] :=
  ⟨F.excBase_RuntimeError, kxs_RuntimeError, F.store_RuntimeError.passes, by decide +kernel, fun K => by kernel_rfl⟩
theorem xbO : XB "OverflowError" "OverflowError.__new__" "OverflowError.__init__" [.type "OverflowError", .type "ArithmeticError", .type "Exception", .type "BaseException", .type "object"] :=
  ⟨F.excBase_OverflowError, kxs_OverflowError, fun z => by kernel_rfl, by decide +kernel, fun K => by kernel_rfl⟩
section
open Builtin Builtin.ObjectAttr
variable {prog : Program} {w : World} {A : Around} {E : Value → Shared → Prop} {R : Result → Shared → Prop} {hp : Heap} {g : Array GenState} {d : Drawn} {t : Nat} {os : OsState} {B nw it : String} {bm : List Value}
theorem mroHas {K : Frag} {C : Addr} {cd : ClassData} (hc : clsIn K C = some cd) (hm : cd.mro = .ref C :: bm) {b : Value} (hb : bm.contains b = true) : mroIn K C b = some true := by
  have e : cd.mro.contains b = true := by rw [hm, List.contains_cons, hb, Bool.or_true]
  have n : cd.mro.isEmpty = false := by rw [hm]; rfl
  unfold mroIn
  rw [hc, Option.bind_some, n, e]
  rfl
/-- to the own dict -/
theorem toDict (xb : XB B nw it bm) {K : Frag} {n : Str} {tk : Tok} {v : Value} {x C : Addr} {ox : Obj} {od : Option Obj} {cd : ClassData}
    (X : K.In hp) (I : InstAt hp x ox C od) (hc : clsIn K C = some cd) (hm : cd.mro = .ref C :: bm) (ha : findIn K (.ref C) n = some none)
    (go : wpAny (model prog w) A.in1 (storeInOwnDict (.ref x) (.ref C) (.str n tk) n v false)
      (fun r s' => match r with | .done f => R (.ok f) s' | .again c' => c'.quiet = true ∧ codeAny (model prog w) A c' R s') (fun e s' => R (.error e) s') ⟨hp, g, d, t, os⟩) :
    codeAny (model prog w) A (.call (.builtin "object.__setattr__") ⟨[.ref x, .str n tk, v], []⟩) R ⟨hp, g, d, t, os⟩ := by
  have S := F.store_object
  have is : Looks (model prog w) hp (isInstance (.ref x) (.type "object")) true := I.type.andThen (looks_mroIn X (mroHas hc hm xb.obj))
  have mr : Looks (model prog w) hp (mroOf (.ref C)) cd.mro := (looks_clsIn X hc).andThen .now
  have ps : refuseLoop (.ref x) "__setattr__" cd.mro = pure () := by rw [hm, refuseLoop_ref]; exact xb.pass _
  refine codeAny_call_builtin S.slot.plain S.entry (@check_slot (model prog w) _ _ ⟨hp, g, d, t, os⟩ "object.__setattr__" "object" "__setattr__" (.ref x) [.str n tk, v] [] _ S.kind S.split is (S.args (.ref x) (.str n tk) v) ?_)
  rw [osa_eq, refuse_eq]
  refine wpAny_bind (wpAny_bind (I.type.at (wpAny_bind (mr.at ?_))))
  rw [ps]
  have nt : Looks (model prog w) hp (storeTaker? none) none := .now
  exact wpAny_pure (wpAny_bind (I.type.at (wpAny_bind ((looks_findIn X ha).at (wpAny_bind (nt.at go))))))
/-- the first field -/
theorem setNew (xb : XB B nw it bm) {K : Frag} {n : Str} {tk : Tok} {v : Value} {x C : Addr} {fv : Array Value} {cd : ClassData}
    (X : K.In hp) (hx : hp.get? x = some { cls := .ref C, data := .fields fv }) (hc : clsIn K C = some cd) (hm : cd.mro = .ref C :: bm) (hh : cd.hasDict = true) (ha : findIn K (.ref C) n = some none)
    (go : ∀ h' tk' dx, (∀ b o, b ≠ x → hp.get? b = some o → h'.get? b = some o) → hp.objs.size ≤ dx → dx ≠ x → h'.get? x = some { cls := .ref C, dict := some dx, data := .fields fv } →
      h'.Ns1 dx (fun y => if y = n then some v else none) → R (.ok (.ret .none)) ⟨h', g, d, tk', os⟩) :
    codeAny (model prog w) A (.call (.builtin "object.__setattr__") ⟨[.ref x, .str n tk, v], []⟩) R ⟨hp, g, d, t, os⟩ := by
  have xs : x ≠ hp.objs.size := Nat.ne_of_lt (Heap.lt_size hx)
  have lc : Looks (model prog w) hp (classData C) cd := looks_clsIn X hc
  refine toDict xb X (ox := { cls := .ref C, data := .fields fv }) (od := none) ⟨hx, rfl, rfl, trivial⟩ hc hm ha ?_
  clear hm hc
  obtain ⟨nm, bs, mro, ns, qn, hd, sn, sb, ab, col, del⟩ := cd
  dsimp only at hh
  subst hh
  unfold storeInOwnDict ownDictForStores
  repeat (first | with_reducible refine store_in_new ?_ ?_ | with_reducible refine lc.at ?_ | with_reducible refine wpAny_loadPart_at hx ?_ | wp_step)
  · exact ⟨_, #[], _, (Heap.get?_update_ne _ _ _ _ xs.symm).trans (Heap.get?_push_at rfl rfl), rfl, fun e z => absurd z (by simp), fun _ => rfl⟩
  · intro h' tk' n' sb'
    have x1 : (hp.push { cls := .type "dict", data := .dict #[] }).get? x = some { cls := .ref C, data := .fields fv } := Heap.get?_push_of_some _ hx
    refine go h' tk' hp.objs.size (fun b o hb ho => ?_) (Nat.le_refl _) xs.symm ?_ n'
    · rw [sb'.2 b (Nat.ne_of_lt (Heap.lt_size ho)), Heap.get?_update_ne _ _ _ _ hb]
      exact Heap.get?_push_of_some _ ho
    · rw [sb'.2 x xs]
      exact Heap.get?_update_self _ x1 rfl
/-- a further field -/
theorem setOld (xb : XB B nw it bm) {K : Frag} {n : Str} {tk : Tok} {v : Value} {x C dx : Addr} {fv : Array Value} {cd : ClassData} {m0 : Str → Option Value} {nl : List Str}
    (X : K.In hp) (hx : hp.get? x = some { cls := .ref C, dict := some dx, data := .fields fv }) (hn : hp.Ns1 dx m0) (hw : Within m0 nl) (hz : nl.length ≤ 1000) (hc : clsIn K C = some cd) (hm : cd.mro = .ref C :: bm) (hh : cd.hasDict = true)
    (ha : findIn K (.ref C) n = some none)
    (go : ∀ h' tk', (∀ b o, b ≠ dx → hp.get? b = some o → h'.get? b = some o) → h'.Ns1 dx (fun y => if y = n then some v else m0 y) → R (.ok (.ret .none)) ⟨h', g, d, tk', os⟩) :
    codeAny (model prog w) A (.call (.builtin "object.__setattr__") ⟨[.ref x, .str n tk, v], []⟩) R ⟨hp, g, d, t, os⟩ := by
  obtain ⟨oD, es, ep, hoD, _, _⟩ := hn.count hw
  have lc : Looks (model prog w) hp (classData C) cd := looks_clsIn X hc
  refine toDict xb X (ox := { cls := .ref C, dict := some dx, data := .fields fv }) (od := some oD) ⟨hx, rfl, rfl, hoD⟩ hc hm ha ?_
  clear hm hc
  obtain ⟨nm, bs, mro, ns, qn, hd, sn, sb, ab, col, del⟩ := cd
  dsimp only at hh
  subst hh
  unfold storeInOwnDict ownDictForStores
  repeat (first | with_reducible refine OEX.store_in_old hn hw hz ?_ | with_reducible refine lc.at ?_ | with_reducible refine wpAny_loadPart_at hx ?_ | wp_step)
  intro h' tk' n' sb'
  exact go h' tk' (fun b o hb ho => (sb'.2 b hb).trans ho) n'
end
/-! ### super().__init__(..) -/
section
variable {prog : Program} {w : World} {A : Around} {E : Value → Shared → Prop} {h : Heap} {g : Array GenState} {d : Drawn} {t : Nat} {os : OsState} {B nw it : String} {bm : List Value}
variable {nm q : Str} {C N : Addr} {bs : List Value} {hdct : Bool} {sn : List Str} {sub : List Value} {ab : Bool} {col : Option Bool} {dd : Option Addr} {k0 k1 k2 k3 k5 : Option Value}
/-- the bound __init__, called -/
theorem callUp (xb : XB B nw it bm) {u x t0 : Addr} {us : List Value} {Q : Value → Shared → Prop}
    (hC : h.get? C = some (excClassObj nm q C N bs bm hdct sn sub ab col dd k0 k1 k2 k3 k5 nw)) (hx : h.get? x = some (excO C t0)) (hu : h.get? u = some (kxs_mw it x)) (hz : us.length ≤ sizeLine)
    (go : ∀ h' t1, (∀ b o, b ≠ x → h.get? b = some o → h'.get? b = some o) → h'.get? x = some (excO C t1) → Q .none ⟨h', g, d, t, os⟩) :
    wpAny (model prog w) A (call (.ref u) us) Q E ⟨h, g, d, t, os⟩ := by
  have FB := xb.fb
  refine wpAny_call (codeAny_of_tree ?_)
  show wpAny _ A.in1 (callAny (.ref u) ⟨us, []⟩) _ _ _
  simp only [callAny]
  refine wpAny_bind (wpAny_load hu ?_)
  simp only [kxs_mw, show (Value.type "method-wrapper" == Value.type "method" || Value.type "method-wrapper" == Value.type "builtin_function_or_method" || Value.type "method-wrapper" == Value.type "method-wrapper") = true by decide, if_true]
  refine KFB.if_so (by decide) ?_
  refine wpAny_bind (check_bound_init FB.toExcCallFacts hC hx rfl ?_)
  refine wpAny_bind (wpAny_pure (wpAny_pure ?_))
  refine ⟨plainId_quiet FB.init.plain _, codeAny_builtin FB.initEntry ?_⟩
  exact exc_init_tree (cls := .ref C) (t0 := t0) (dv := none) (c2 := .none) (c3 := .none) (b4 := .bool false) hx hz fun h' k e _ => go h' _ k e
end
/-! ### the text of __init__, and what the written part says of the class -/
abbrev aA (n : Str) (p : Pos) : Arg := { arg := n, annotation := none, pos := p }
abbrev iA (as : List Arg) : Arguments := { posonlyargs := [], args := as, vararg := none, kwonlyargs := [], kw_defaults := [], kwarg := none, defaults := [] }
abbrev sUp (es : List Expr) (p0 p1 p2 p3 p4 : Pos) : Stmt := .Expr (.Call (.Attribute (.Call (.Name "super" p0) [] [] p1) "__init__" p2) es [] p3) p4
abbrev sFld (n : Str) (p0 p1 p2 p3 : Pos) : Stmt := .Assign [.Attribute (.Name "self" p0) n p1] (.Name n p2) p3
abbrev iS (ns : List Str) : Scope := { kind := .function, names := (Str.ofString "self", NameKind.local) :: ns.map (fun n => (n, NameKind.local)) ++ [(Str.ofString "__class__", NameKind.free), (Str.ofString "super", NameKind.globalImplicit)], isGenerator := false, isCoroutine := false, more := [] }
/-- what all own errors have -/
structure XTop (prog : Program) (K : Frag) (mg : Str → Option Value) : Prop where
  sup : mg "super" = none
  opq : nsIn K cStatics "thirdparty.any" = some none
  nosup : (prog.main.scope.names.lookup ("super" : Str)).isSome = false
structure XTxt (prog : Program) (K : Frag) (C fI : Addr) (B nw it : String) (bm : List Value) (fs : List Str) (as : List Arg) (body : List Stmt) : Prop where
  cls : ∃ nm q N bs sn sub ab col dd k0 k1 k2 k3 k5, K.lookup C = some (excClassObj nm q C N bs bm true sn sub ab col dd k0 k1 k2 k3 k5 nw)
  sa : findIn K (.ref C) "__setattr__" = some (some (.builtin "object.__setattr__"))
  no : ∀ n ∈ fs, findIn K (.ref C) n = some none
  iC : findIn K (.ref C) "__init__" = some (some (.ref fI))
  tC : typeIn K (.ref fI) = some (.type "function")
  fn : ∃ (qn : Str) (oc : Value) (od : Option Addr) (doc pm : Value) (an : Option Addr) (cda cc : Addr) (ct : Value) (osl : Array (Option Value)),
    K.lookup fI = some ⟨oc, od, .func (ksFn "__init__" qn (iA as) body (iS fs) .none .none doc pm an (.ref cda) ct cc), osl⟩ ∧ codeIn K (.ref cda) qn = true ∧
    (∃ ccl cdd vs ccs file tf, K.lookup cda = some ⟨ccl, cdd, .fields vs, ccs⟩ ∧ vs[2]? = some (.str file tf) ∧ ((prog.main.file : Str) == file) = true) ∧
    (∃ cl cld csl, K.lookup cc = some ⟨cl, cld, .cell (some (.ref C)), csl⟩)
/-- super().__init__(..) stands in one line (for given places: fun _ _ _ _ _ => ⟨_, rfl⟩) -/
def UpOk (fs : List Str) (es : List Expr) (p0 p1 p2 p3 : Pos) : Prop := ∀ (qn : Str) (L f : Addr) (cd : Value) (cc : Addr), ∃ pl : Sem Bool,
  eval (.Call (.Attribute (.Call (.Name "super" p0) [] [] p1) "__init__" p2) es [] p3) (ksEnv qn (iS fs) L f cd cc) = (do
      let ov ← attributeBase (.Call (.Name "super" p0) [] [] p1) "__init__" (ksEnv qn (iS fs) L f cd cc) (eval (.Call (.Name "super" p0) [] [] p1) (ksEnv qn (iS fs) L f cd cc))
      standAt p2.atName
      let (f', first) ← holding [ov] (getMethod ov "__init__" pl)
      callWith p3 f' first (backTo p3 (starEach es (ksEnv qn (iS fs) L f cd cc))) [])
def fldM : List (Str × Value) → Str → Option Value
  | [], _ => none
  | (n, v) :: r, y => if y = n then some v else fldM r y
section
variable {prog : Program} {w : World} {A : Around} {E : Value → Shared → Prop} {R : Result → Shared → Prop} {s : Shared} {K : Frag} {mg : Str → Option Value} {C fI : Addr} {B nw it : String} {bm : List Value} {fs : List Str} {as : List Arg} {body : List Stmt}
/-- super().__init__(..), then the rest -/
theorem x_up (xb : XB B nw it bm) (XT : XTop prog K mg) (T : XTxt prog K C fI B nw it bm fs as body) {qn : Str} {L cda cc : Addr} {all : List Stmt} {oc : Value} {od : Option Addr} {doc pm : Value} {an : Option Addr} {ct : Value} {osl : Array (Option Value)}
    {es : List Expr} {rest : List Stmt} {p0 p1 p2 p3 p4 : Pos} {x t0 : Addr} {us : List Value} {m : Str → Option Value} {Q : Flow → Shared → Prop}
    (ho : K.lookup fI = some ⟨oc, od, .func (ksFn "__init__" qn (iA as) body (iS fs) .none .none doc pm an (.ref cda) ct cc), osl⟩) (hself : (as.head?).map (·.arg) = some "self")
    (hcd : ∃ ccl cdd vs ccs file tf, K.lookup cda = some ⟨ccl, cdd, .fields vs, ccs⟩ ∧ vs[2]? = some (.str file tf) ∧ ((prog.main.file : Str) == file) = true) (hce : ∃ cl cld csl, K.lookup cc = some ⟨cl, cld, .cell (some (.ref C)), csl⟩)
    (X : K.In s.heap) (hg : s.heap.Ns mainGlobals mg) (hb : ∃ mb, s.heap.Ns builtinsNs mb ∧ mb "super" = some (.type "super")) (hL : s.heap.Ns L m) (hm : m "self" = some (.ref x)) (hx : s.heap.get? x = some (excO C t0)) (hz : us.length ≤ sizeLine)
    (hk : (iS fs).names.lookup ("super" : Str) = some .globalImplicit) (hkc : (iS fs).names.lookup ("__class__" : Str) = some .free) (hks : (iS fs).names.lookup ("self" : Str) = some .local)
    (hes : ∀ (s' : Shared) (Q' : List Value → Shared → Prop), s'.heap.Ns L m → Q' us s' → wpAny (model prog w) A (spliced (backTo p3 (starEach es (ksEnv qn (iS fs) L fI (.ref cda) cc)))) Q' E s')
    (hne : ∃ e r, es = e :: r ∧ starEach (e :: r) (ksEnv qn (iS fs) L fI (.ref cda) cc) = (false, eval e (ksEnv qn (iS fs) L fI (.ref cda) cc)) :: starEach r (ksEnv qn (iS fs) L fI (.ref cda) cc) ∧ (backTo p3 (starEach r (ksEnv qn (iS fs) L fI (.ref cda) cc))).any (·.1) = false)
    (hsw : swapsWith (.Call (.Attribute (.Call (.Name "super" p0) [] [] p1) "__init__" p2) es [] p3) none p4.line (ksEnv qn (iS fs) L fI (.ref cda) cc) = pure false)
    (hup : UpOk fs es p0 p1 p2 p3)
    (go : ∀ h' tk t1, (∀ b o, b ≠ x → s.heap.get? b = some o → h'.get? b = some o) → h'.get? x = some (excO C t1) → wpAny (model prog w) A (execs rest (ksEnv qn (iS fs) L fI (.ref cda) cc)) Q E { s with heap := h', toks := tk }) :
    _root_.PySem.wpAt (model prog w) A (.func all (ksEnv qn (iS fs) L fI (.ref cda) cc)) (execs (sUp es p0 p1 p2 p3 p4 :: rest) (ksEnv qn (iS fs) L fI (.ref cda) cc)) Q E s := by
  obtain ⟨ccl, cdd, vs, ccs, file, tf, hco, hvs, hfile⟩ := hcd
  obtain ⟨cl, cld, csl, hcell⟩ := hce
  obtain ⟨nm, q, N, bs, sn, sub, ab, col, dd, k0, k1, k2, k3, k5, hC⟩ := T.cls
  obtain ⟨ar, har, hara⟩ : ∃ ar, as.head? = some ar ∧ ar.arg = "self" := by
    cases e : as.head? with
    | none => rw [e] at hself; cases hself
    | some ar => rw [e] at hself; exact ⟨ar, rfl, Option.some.inj hself⟩
  obtain ⟨mb, hb1, hb2⟩ := hb
  have hcl : clsIn K C = some { name := nm, bases := bs, mro := .ref C :: bm, ns := N, qualname := q, hasDict := true, slotNames := sn, subclasses := sub, abstract := ab, collection := col, hasDel := false } := by unfold clsIn; rw [hC] <;> rfl
  obtain ⟨hh, g, d, t, os⟩ := s
  obtain ⟨pl, hev⟩ := hup qn L fI (.ref cda) cc
  refine ks_wpAt_execs_cons (ks_wpAt_Expr_any (ks_wpAt_MethodCall ?_ hev) rfl hsw)
  have I : InstAt hh x (excO C t0) C none := ⟨hx, rfl, rfl, trivial⟩
  refine ks_wpAt_super_base (env := ksEnv qn (iS fs) L fI (.ref cda) cc) hk hkc (by decide) rfl (X _ _ ho) rfl (ar := ar) har rfl (X _ _ hco) rfl hvs hfile XT.nosup ?_
  refine ks_loadName_global rfl hk (loadGlobal_builtin (env := ksEnv qn (iS fs) L fI (.ref cda) cc) hg XT.sup hb1 hb2 ⟨rfl, ?_⟩)
  refine wpAny_loadName_free rfl hkc rfl ⟨_, X _ _ hcell, rfl⟩ ?_
  refine wpAny_loadName_local rfl (by rw [hara]; exact hks) hL (by rw [hara]; exact hm) ?_
  refine ks_wpAny_isType_cls (X _ _ hC) rfl ⟨rfl, ?_⟩
  have hsub : Looks (model prog w) hh (isSubtype (.ref C) (.ref C)) true := looks_mroIn X (by
    unfold mroIn
    rw [hcl]
    simp)
  refine ks_wpAny_call_super (X _ _ hC) rfl hx rfl (fun c e => by cases e) hsub (fun h1 e1 k1' => ?_)
  have X1 := X.keeps k1'
  have I1 : InstAt h1 x (excO C t0) C none := ⟨k1' _ _ hx, rfl, rfl, trivial⟩
  have hI : Looks (model prog w) h1 (isInstance (.ref x) (.type B)) true := I1.type.andThen (looks_mroIn X1 (mroHas hcl rfl xb.fb.hasB))
  refine kxs_getMethod xb.ks e1 (looks_opaque X1 XT.opq) (l₀ := .ref C :: bm) (l := bm) ((looks_clsIn X1 hcl).andThen .now) (by simp) X1 (xb.ini K) hI (ks_ne X1 I1 hcl) (by decide) ?_
  have kk : ∀ b o, hh.get? b = some o → (h1.push (kxs_mw it x)).get? b = some o := fun b o e => Heap.get?_push_of_some _ (k1' b o e)
  obtain ⟨e0, r0, rfl, hst, hpl⟩ := hne
  rw [hst]
  refine kxs_callWith (i := it) (x := x) (by show (false || (backTo p3 (starEach r0 _)).any (·.1)) = false; rw [hpl]; rfl) (evalArgs_plain ?_)
  have hu : (h1.push (kxs_mw it x)).get? h1.objs.size = some (kxs_mw it x) := Heap.get?_push_at rfl rfl
  have z := hes ⟨h1.push (kxs_mw it x), g, d, t + 1, os⟩ (fun vs s₁ => KxsAt it h1.objs.size x s₁.heap ∧ wpAny (model prog w) A (call (.ref h1.objs.size) ([] ++ vs) []) (fun _ s' => _root_.PySem.wpAt (model prog w) A (.func all (ksEnv qn (iS fs) L fI (.ref cda) cc)) (execs rest (ksEnv qn (iS fs) L fI (.ref cda) cc)) Q E s') E s₁) (hL.keeps kk)
    ⟨hu, callUp xb (kk _ _ (X _ _ hC)) (kk _ _ hx) hu hz fun h' t1 k e => wpAt_of_wpAny (go h' _ t1 (fun b o hb ho => k b o hb (kk b o ho)) e)⟩
  rw [hst] at z
  exact z
end
/-- what __init__ leaves of a fresh error at x -/
structure IEnd (h h' : Heap) (x C dx : Addr) (fv : List (Str × Value)) : Prop where
  keep : ∀ b o, b ≠ x → h.get? b = some o → h'.get? b = some o
  obj : ∃ t1, h'.get? x = some { cls := .ref C, dict := some dx, data := .fields #[.ref t1, .none, .none, .none, .bool false, .none] }
  dbig : h.objs.size ≤ dx
  dne : dx ≠ x
  ns : h'.Ns1 dx (fldM fv)
structure Made (h h' : Heap) (e C d : Addr) (fv : List (Str × Value)) : Prop where
  keep : ∀ b o, h.get? b = some o → h'.get? b = some o
  new : h.objs.size ≤ e
  obj : ∃ oe vs, h'.get? e = some oe ∧ oe.cls = .ref C ∧ oe.dict = some d ∧ oe.data = .fields vs ∧ vs[1]? = some .none
  dbig : h.objs.size ≤ d
  dne : d ≠ e
  ns : h'.Ns1 d (fldM fv)
section
variable {prog : Program} {w : World} {A : Around} {E : Value → Shared → Prop} {R : Result → Shared → Prop} {s : Shared} {K : Frag} {mg : Str → Option Value} {C fI : Addr} {B nw it : String} {bm : List Value}
theorem ldX {M : Model} {qn : Str} {sc : Scope} {L f : Addr} {cd : Value} {cc : Addr} {m : Str → Option Value} {x : Str} {pos : Pos} {v : Value} {Q : Value → Shared → Prop} (hn : s.heap.Ns L m) (hv : m x = some v) (hk : sc.kind = .function) (hl : sc.names.lookup x = some .local) (hd : (x == ("__debug__" : Str)) = false) (h : Q v s) :
    wpAny M A (eval (.Name x pos) (ksEnv qn sc L f cd cc)) Q E s := wpAny_Name (wpAny_loadName_local hk hl hn hv h) hd
/-- the names of the fields are plain ones (for a name: each by rfl) -/
structure Nm1 (a : Str) : Prop where
  sup : (iS [a]).names.lookup ("super" : Str) = some .globalImplicit
  cls : (iS [a]).names.lookup ("__class__" : Str) = some .free
  loc : (iS [a]).names.lookup a = some .local
  dbg : (a == ("__debug__" : Str)) = false
  slf : (("self" : Str) == a) = false
  bnd : ∀ p1 p2 body qn doc pm an cd ct cc x v, bindArgs (ksFn "__init__" qn (iA [aA "self" p1, aA a p2]) body (iS [a]) .none .none doc pm an cd ct cc) ⟨[x, v], []⟩ = pure [(("self" : Str), x), (a, v)]
  bnk : ∀ p1 p2 body qn doc pm an cd ct cc x v, bindArgs (ksFn "__init__" qn (iA [aA "self" p1, aA a p2]) body (iS [a]) .none .none doc pm an cd ct cc) ⟨[x], [(a, v)]⟩ = pure [(("self" : Str), x), (a, v)]
structure Nm2 (a b : Str) : Prop where
  sup : (iS [a, b]).names.lookup ("super" : Str) = some .globalImplicit
  cls : (iS [a, b]).names.lookup ("__class__" : Str) = some .free
  locA : (iS [a, b]).names.lookup a = some .local
  locB : (iS [a, b]).names.lookup b = some .local
  dbgA : (a == ("__debug__" : Str)) = false
  dbgB : (b == ("__debug__" : Str)) = false
  slfA : (("self" : Str) == a) = false
  slfB : (("self" : Str) == b) = false
  ab : (a == b) = false
  bnd : ∀ p1 p2 p3 body qn doc pm an cd ct cc x v u, bindArgs (ksFn "__init__" qn (iA [aA "self" p1, aA a p2, aA b p3]) body (iS [a, b]) .none .none doc pm an cd ct cc) ⟨[x, v, u], []⟩ = pure [(("self" : Str), x), (a, v), (b, u)]
  bnk : ∀ p1 p2 p3 body qn doc pm an cd ct cc x v u, bindArgs (ksFn "__init__" qn (iA [aA "self" p1, aA a p2, aA b p3]) body (iS [a, b]) .none .none doc pm an cd ct cc) ⟨[x], [(b, u), (a, v)]⟩ = pure [(("self" : Str), x), (a, v), (b, u)]
theorem nm_value : Nm1 "value" := ⟨rfl, rfl, rfl, by decide, by decide, fun _ _ _ _ _ _ _ _ _ _ _ _ => rfl, fun _ _ _ _ _ _ _ _ _ _ _ _ => rfl⟩
theorem nm_index : Nm1 "index" := ⟨rfl, rfl, rfl, by decide, by decide, fun _ _ _ _ _ _ _ _ _ _ _ _ => rfl, fun _ _ _ _ _ _ _ _ _ _ _ _ => rfl⟩
theorem nm_row : Nm1 "row" := ⟨rfl, rfl, rfl, by decide, by decide, fun _ _ _ _ _ _ _ _ _ _ _ _ => rfl, fun _ _ _ _ _ _ _ _ _ _ _ _ => rfl⟩
theorem nm_name : Nm1 "name" := ⟨rfl, rfl, rfl, by decide, by decide, fun _ _ _ _ _ _ _ _ _ _ _ _ => rfl, fun _ _ _ _ _ _ _ _ _ _ _ _ => rfl⟩
theorem nm_label : Nm1 "label" := ⟨rfl, rfl, rfl, by decide, by decide, fun _ _ _ _ _ _ _ _ _ _ _ _ => rfl, fun _ _ _ _ _ _ _ _ _ _ _ _ => rfl⟩
theorem nm_limit : Nm1 "limit" := ⟨rfl, rfl, rfl, by decide, by decide, fun _ _ _ _ _ _ _ _ _ _ _ _ => rfl, fun _ _ _ _ _ _ _ _ _ _ _ _ => rfl⟩
theorem nm_hand : Nm1 "hand" := ⟨rfl, rfl, rfl, by decide, by decide, fun _ _ _ _ _ _ _ _ _ _ _ _ => rfl, fun _ _ _ _ _ _ _ _ _ _ _ _ => rfl⟩
theorem nm_index_number : Nm2 "index" "number" := ⟨rfl, rfl, rfl, rfl, by decide, by decide, by decide, by decide, by decide, fun _ _ _ _ _ _ _ _ _ _ _ _ _ _ => rfl, fun _ _ _ _ _ _ _ _ _ _ _ _ _ _ => rfl⟩
theorem nm_hand_other : Nm2 "hand" "other" := ⟨rfl, rfl, rfl, rfl, by decide, by decide, by decide, by decide, by decide, fun _ _ _ _ _ _ _ _ _ _ _ _ _ _ => rfl, fun _ _ _ _ _ _ _ _ _ _ _ _ _ _ => rfl⟩
theorem nm_name_index : Nm2 "name" "index" := ⟨rfl, rfl, rfl, rfl, by decide, by decide, by decide, by decide, by decide, fun _ _ _ _ _ _ _ _ _ _ _ _ _ _ => rfl, fun _ _ _ _ _ _ _ _ _ _ _ _ _ _ => rfl⟩
theorem nm_name_case : Nm2 "name" "case" := ⟨rfl, rfl, rfl, rfl, by decide, by decide, by decide, by decide, by decide, fun _ _ _ _ _ _ _ _ _ _ _ _ _ _ => rfl, fun _ _ _ _ _ _ _ _ _ _ _ _ _ _ => rfl⟩
theorem noCell (l : List Str) : ∀ y ∈ (iS l).names, y.2 ≠ .cell := by
  intro y hy
  simp only [iS, List.cons_append, List.mem_cons, List.mem_append, List.mem_map, List.not_mem_nil, or_false] at hy
  rcases hy with rfl | ⟨n, _, rfl⟩ | rfl | rfl <;> exact fun z => NameKind.noConfusion z
theorem x_init1A (xb : XB B nw it bm) (XT : XTop prog K mg) {a : Str} (NM : Nm1 a) {pa1 pa2 p0 p1 p2 p3 p4 p5 q0 q1 q2 q3 : Pos}
    (T : XTxt prog K C fI B nw it bm [a] [aA "self" pa1, aA a pa2] [sUp [.Name a p5] p0 p1 p2 p3 p4, sFld a q0 q1 q2 q3]) (hup : UpOk [a] [.Name a p5] p0 p1 p2 p3) {x t0 : Addr} {ar : Args} {v : Value} (hbd : ∀ p1 p2 body qn doc pm an cd ct cc, bindArgs (ksFn "__init__" qn (iA [aA "self" p1, aA a p2]) body (iS [a]) .none .none doc pm an cd ct cc) ar = pure [(("self" : Str), .ref x), (a, v)]) (X : K.In s.heap) (hnx : K.lookup x = none) (hlim : s.heap.NoLimit)
    (hg : s.heap.Ns mainGlobals mg) (hb : ∃ mb, s.heap.Ns builtinsNs mb ∧ mb "super" = some (.type "super")) (hx : s.heap.get? x = some (excO C t0)) (hroom : A.depth < recursionLimit)
    (hq : ∀ h' tk dx, IEnd s.heap h' x C dx [(a, v)] → R (.ok (.ret .none)) { s with heap := h', toks := tk }) :
    codeAny (model prog w) A (.call (.ref fI) ar) R s := by
  obtain ⟨qn, oc, od, doc, pm, an, cda, cc, ct, osl, ho, hcd, hco, hce⟩ := T.fn
  obtain ⟨nm, q, N, bs, sn, sub, ab, col, dd, k0, k1, k2, k3, k5, hC⟩ := T.cls
  have hcl : clsIn K C = some { name := nm, bases := bs, mro := .ref C :: bm, ns := N, qualname := q, hasDict := true, slotNames := sn, subclasses := sub, abstract := ab, collection := col, hasDel := false } := by unfold clsIn; rw [hC] <;> rfl
  refine ks_codeAny_call_defAt (fd := ksFn "__init__" qn _ _ _ .none .none doc pm an (.ref cda) ct cc) (binds := [("self", .ref x), (a, v)]) hroom (X _ _ ho) rfl hlim (codeRec_of X hcd) rfl (BindsTo.of_eq (hbd _ _ _ _ _ _ _ _ _ _)) (noCell _) ?_ (fun h1 hn k => ?_) rfl rfl rfl
  · intro y hy
    simp only [List.mem_cons, List.not_mem_nil, or_false] at hy
    rcases hy with rfl | rfl
    · rfl
    · exact NM.loc
  · have ms : (fun y => List.lookup y [(a, v), (("self" : Str), Value.ref x)]) ("self" : Str) = some (.ref x) := by simp [List.lookup, NM.slf]
    have ma : (fun y => List.lookup y [(a, v), (("self" : Str), Value.ref x)]) a = some v := by simp [List.lookup]
    have hn' : h1.Ns s.heap.objs.size (fun y => List.lookup y [(a, v), (("self" : Str), Value.ref x)]) := hn
    refine x_up xb XT T (t0 := t0) ho rfl hco hce (X.keeps k) (hg.keeps k) (hb.elim fun mb z => ⟨mb, z.1.keeps k, z.2⟩) hn' ms (k _ _ hx) (us := [v]) (by show 1 ≤ sizeLine; rw [sizeLine_eq]; omega) NM.sup NM.cls rfl
      (fun s' Q' hL' h' => spliced_more (ldX hL' ma rfl NM.loc NM.dbg (spliced_none h'))) ⟨_, _, rfl, rfl, rfl⟩ rfl hup ?_
    intro h2 tk t1 k2 e2
    have hxL : s.heap.objs.size ≠ x := Nat.ne_of_gt (Heap.lt_size hx)
    have hn2 : h2.Ns s.heap.objs.size (fun y => List.lookup y [(a, v), (("self" : Str), Value.ref x)]) := by
      obtain ⟨oL, es, ep, hL, r⟩ := hn'
      exact ⟨oL, es, ep, k2 _ _ hxL hL, r⟩
    have X2 : K.In h2 := fun b o e => k2 b o (fun z => by rw [z, hnx] at e; cases e) (X.keeps k b o e)
    refine wpAny_execs_cons (plainObj_wpAny_Assign_Attribute ?_)
    refine ldX hn2 ma rfl NM.loc NM.dbg (ldX hn2 ms rfl rfl (by decide) ?_)
    refine set_plain X2 (ox := excO C t1) (od := none) ⟨e2, rfl, rfl, trivial⟩ T.sa ?_
    refine setNew xb X2 e2 hcl rfl rfl (T.no a (by simp)) fun h3 tk3 dx k3 dn dne e3 hn3 => ?_
    have z : s.heap.objs.size < h2.objs.size := hn2.lt
    exact wpAny_execs_nil (hq h3 tk3 dx ⟨fun b o hb e => k3 b o hb (k2 b o hb (k b o e)), ⟨t1, e3⟩, Nat.le_of_lt (Nat.lt_of_lt_of_le z dn), dne, hn3⟩)
theorem x_init1 (xb : XB B nw it bm) (XT : XTop prog K mg) {a : Str} (NM : Nm1 a) {pa1 pa2 p0 p1 p2 p3 p4 p5 q0 q1 q2 q3 : Pos}
    (T : XTxt prog K C fI B nw it bm [a] [aA "self" pa1, aA a pa2] [sUp [.Name a p5] p0 p1 p2 p3 p4, sFld a q0 q1 q2 q3]) (hup : UpOk [a] [.Name a p5] p0 p1 p2 p3) {x t0 : Addr} {v : Value} (X : K.In s.heap) (hnx : K.lookup x = none) (hlim : s.heap.NoLimit)
    (hg : s.heap.Ns mainGlobals mg) (hb : ∃ mb, s.heap.Ns builtinsNs mb ∧ mb "super" = some (.type "super")) (hx : s.heap.get? x = some (excO C t0)) (hroom : A.depth < recursionLimit)
    (hq : ∀ h' tk dx, IEnd s.heap h' x C dx [(a, v)] → R (.ok (.ret .none)) { s with heap := h', toks := tk }) :
    codeAny (model prog w) A (.call (.ref fI) ⟨[.ref x, v], []⟩) R s :=
  x_init1A xb XT NM T hup (fun _ _ _ _ _ _ _ _ _ _ => NM.bnd _ _ _ _ _ _ _ _ _ _ _ _) X hnx hlim hg hb hx hroom hq
theorem x_init1K (xb : XB B nw it bm) (XT : XTop prog K mg) {a : Str} (NM : Nm1 a) {pa1 pa2 p0 p1 p2 p3 p4 p5 q0 q1 q2 q3 : Pos}
    (T : XTxt prog K C fI B nw it bm [a] [aA "self" pa1, aA a pa2] [sUp [.Name a p5] p0 p1 p2 p3 p4, sFld a q0 q1 q2 q3]) (hup : UpOk [a] [.Name a p5] p0 p1 p2 p3) {x t0 : Addr} {v : Value} (X : K.In s.heap) (hnx : K.lookup x = none) (hlim : s.heap.NoLimit)
    (hg : s.heap.Ns mainGlobals mg) (hb : ∃ mb, s.heap.Ns builtinsNs mb ∧ mb "super" = some (.type "super")) (hx : s.heap.get? x = some (excO C t0)) (hroom : A.depth < recursionLimit)
    (hq : ∀ h' tk dx, IEnd s.heap h' x C dx [(a, v)] → R (.ok (.ret .none)) { s with heap := h', toks := tk }) :
    codeAny (model prog w) A (.call (.ref fI) ⟨[.ref x], [(a, v)]⟩) R s :=
  x_init1A xb XT NM T hup (fun _ _ _ _ _ _ _ _ _ _ => NM.bnk _ _ _ _ _ _ _ _ _ _ _ _) X hnx hlim hg hb hx hroom hq
theorem x_init2A (xb : XB B nw it bm) (XT : XTop prog K mg) {a b : Str} (NM : Nm2 a b) {pa1 pa2 pa3 p0 p1 p2 p3 p4 p5 p6 q0 q1 q2 q3 r0 r1 r2 r3 : Pos}
    (T : XTxt prog K C fI B nw it bm [a, b] [aA "self" pa1, aA a pa2, aA b pa3] [sUp [.Name a p5, .Name b p6] p0 p1 p2 p3 p4, sFld a q0 q1 q2 q3, sFld b r0 r1 r2 r3]) (hup : UpOk [a, b] [.Name a p5, .Name b p6] p0 p1 p2 p3) {x t0 : Addr} {ar : Args} {v u : Value} (hbd : ∀ p1 p2 p3 body qn doc pm an cd ct cc, bindArgs (ksFn "__init__" qn (iA [aA "self" p1, aA a p2, aA b p3]) body (iS [a, b]) .none .none doc pm an cd ct cc) ar = pure [(("self" : Str), .ref x), (a, v), (b, u)]) (X : K.In s.heap) (hnx : K.lookup x = none) (hlim : s.heap.NoLimit)
    (hg : s.heap.Ns mainGlobals mg) (hb : ∃ mb, s.heap.Ns builtinsNs mb ∧ mb "super" = some (.type "super")) (hx : s.heap.get? x = some (excO C t0)) (hroom : A.depth < recursionLimit)
    (hq : ∀ h' tk dx, IEnd s.heap h' x C dx [(b, u), (a, v)] → R (.ok (.ret .none)) { s with heap := h', toks := tk }) :
    codeAny (model prog w) A (.call (.ref fI) ar) R s := by
  obtain ⟨qn, oc, od, doc, pm, an, cda, cc, ct, osl, ho, hcd, hco, hce⟩ := T.fn
  obtain ⟨nm, q, N, bs, sn, sub, ab, col, dd, k0, k1, k2, k3, k5, hC⟩ := T.cls
  have hcl : clsIn K C = some { name := nm, bases := bs, mro := .ref C :: bm, ns := N, qualname := q, hasDict := true, slotNames := sn, subclasses := sub, abstract := ab, collection := col, hasDel := false } := by unfold clsIn; rw [hC] <;> rfl
  have ba : (b == a) = false := by rw [Bool.beq_comm]; exact NM.ab
  refine ks_codeAny_call_defAt (fd := ksFn "__init__" qn _ _ _ .none .none doc pm an (.ref cda) ct cc) (binds := [("self", .ref x), (a, v), (b, u)]) hroom (X _ _ ho) rfl hlim (codeRec_of X hcd) rfl (BindsTo.of_eq (hbd _ _ _ _ _ _ _ _ _ _ _)) (noCell _) ?_ (fun h1 hn k => ?_) rfl rfl rfl
  · intro y hy
    simp only [List.mem_cons, List.not_mem_nil, or_false] at hy
    rcases hy with rfl | rfl | rfl
    · rfl
    · exact NM.locA
    · exact NM.locB
  · have ms : (fun y => List.lookup y [(b, u), (a, v), (("self" : Str), Value.ref x)]) ("self" : Str) = some (.ref x) := by simp [List.lookup, NM.slfA, NM.slfB]
    have ma : (fun y => List.lookup y [(b, u), (a, v), (("self" : Str), Value.ref x)]) a = some v := by simp [List.lookup, NM.ab]
    have mb : (fun y => List.lookup y [(b, u), (a, v), (("self" : Str), Value.ref x)]) b = some u := by simp [List.lookup]
    have hn' : h1.Ns s.heap.objs.size (fun y => List.lookup y [(b, u), (a, v), (("self" : Str), Value.ref x)]) := hn
    refine x_up xb XT T (t0 := t0) ho rfl hco hce (X.keeps k) (hg.keeps k) (hb.elim fun mb z => ⟨mb, z.1.keeps k, z.2⟩) hn' ms (k _ _ hx) (us := [v, u]) (by show 2 ≤ sizeLine; rw [sizeLine_eq]; omega) NM.sup NM.cls rfl
      (fun s' Q' hL' h' => spliced_more (ldX hL' ma rfl NM.locA NM.dbgA (spliced_more (ldX hL' mb rfl NM.locB NM.dbgB (spliced_none h'))))) ⟨_, _, rfl, rfl, rfl⟩ rfl hup ?_
    intro h2 tk t1 k2 e2
    have hxL : s.heap.objs.size ≠ x := Nat.ne_of_gt (Heap.lt_size hx)
    have hn2 : h2.Ns s.heap.objs.size (fun y => List.lookup y [(b, u), (a, v), (("self" : Str), Value.ref x)]) := by
      obtain ⟨oL, es, ep, hL, r⟩ := hn'
      exact ⟨oL, es, ep, k2 _ _ hxL hL, r⟩
    have X2 : K.In h2 := fun b o e => k2 b o (fun z => by rw [z, hnx] at e; cases e) (X.keeps k b o e)
    refine wpAny_execs_cons (plainObj_wpAny_Assign_Attribute ?_)
    refine ldX hn2 ma rfl NM.locA NM.dbgA (ldX hn2 ms rfl rfl (by decide) ?_)
    refine set_plain X2 (ox := excO C t1) (od := none) ⟨e2, rfl, rfl, trivial⟩ T.sa ?_
    refine setNew xb X2 e2 hcl rfl rfl (T.no a (by simp)) fun h3 tk3 dx k3 dn dne e3 hn3 => ?_
    have z : s.heap.objs.size < h2.objs.size := hn2.lt
    have hdx : s.heap.objs.size ≤ dx := Nat.le_of_lt (Nat.lt_of_lt_of_le z dn)
    have hLd : s.heap.objs.size ≠ dx := Nat.ne_of_lt (Nat.lt_of_lt_of_le z dn)
    have hn3' : h3.Ns s.heap.objs.size (fun y => List.lookup y [(b, u), (a, v), (("self" : Str), Value.ref x)]) := by
      obtain ⟨oL, es, ep, hL, r⟩ := hn2
      exact ⟨oL, es, ep, k3 _ _ hxL hL, r⟩
    have X3 : K.In h3 := fun b o e => k3 b o (fun z => by rw [z, hnx] at e; cases e) (X2 b o e)
    refine wpAny_execs_cons (plainObj_wpAny_Assign_Attribute ?_)
    refine ldX hn3' mb rfl NM.locB NM.dbgB (ldX hn3' ms rfl rfl (by decide) ?_)
    refine set_plain X3 (ox := { cls := .ref C, dict := some dx, data := .fields #[.ref t1, .none, .none, .none, .bool false, .none] }) (od := h3.get? dx) ⟨e3, rfl, rfl, ?_⟩ T.sa ?_
    · obtain ⟨oD, _, _, hoD, _⟩ := hn3
      show (match some dx, h3.get? dx with | some dx, some o => h3.get? dx = some o | none, none => True | _, _ => False)
      rw [hoD]
      exact hoD
    refine setOld xb X3 e3 hn3 (nl := [a]) (Within.cons a v Within.nil) (by simp) hcl rfl rfl (T.no b (by simp)) fun h4 tk4 k4 hn4 => ?_
    exact wpAny_execs_nil (hq h4 tk4 dx ⟨fun b o hb e => k4 b o (fun z => absurd (Heap.lt_size e) (by rw [z]; exact Nat.not_lt.mpr hdx)) (k3 b o hb (k2 b o hb (k b o e))), ⟨t1, k4 _ _ (Ne.symm dne) e3⟩, hdx, dne, hn4⟩)
theorem x_init2 (xb : XB B nw it bm) (XT : XTop prog K mg) {a b : Str} (NM : Nm2 a b) {pa1 pa2 pa3 p0 p1 p2 p3 p4 p5 p6 q0 q1 q2 q3 r0 r1 r2 r3 : Pos}
    (T : XTxt prog K C fI B nw it bm [a, b] [aA "self" pa1, aA a pa2, aA b pa3] [sUp [.Name a p5, .Name b p6] p0 p1 p2 p3 p4, sFld a q0 q1 q2 q3, sFld b r0 r1 r2 r3]) (hup : UpOk [a, b] [.Name a p5, .Name b p6] p0 p1 p2 p3) {x t0 : Addr} {v u : Value} (X : K.In s.heap) (hnx : K.lookup x = none) (hlim : s.heap.NoLimit)
    (hg : s.heap.Ns mainGlobals mg) (hb : ∃ mb, s.heap.Ns builtinsNs mb ∧ mb "super" = some (.type "super")) (hx : s.heap.get? x = some (excO C t0)) (hroom : A.depth < recursionLimit)
    (hq : ∀ h' tk dx, IEnd s.heap h' x C dx [(b, u), (a, v)] → R (.ok (.ret .none)) { s with heap := h', toks := tk }) :
    codeAny (model prog w) A (.call (.ref fI) ⟨[.ref x, v, u], []⟩) R s :=
  x_init2A xb XT NM T hup (fun _ _ _ _ _ _ _ _ _ _ _ => NM.bnd _ _ _ _ _ _ _ _ _ _ _ _ _ _) X hnx hlim hg hb hx hroom hq
theorem x_init2K (xb : XB B nw it bm) (XT : XTop prog K mg) {a b : Str} (NM : Nm2 a b) {pa1 pa2 pa3 p0 p1 p2 p3 p4 p5 p6 q0 q1 q2 q3 r0 r1 r2 r3 : Pos}
    (T : XTxt prog K C fI B nw it bm [a, b] [aA "self" pa1, aA a pa2, aA b pa3] [sUp [.Name a p5, .Name b p6] p0 p1 p2 p3 p4, sFld a q0 q1 q2 q3, sFld b r0 r1 r2 r3]) (hup : UpOk [a, b] [.Name a p5, .Name b p6] p0 p1 p2 p3) {x t0 : Addr} {v u : Value} (X : K.In s.heap) (hnx : K.lookup x = none) (hlim : s.heap.NoLimit)
    (hg : s.heap.Ns mainGlobals mg) (hb : ∃ mb, s.heap.Ns builtinsNs mb ∧ mb "super" = some (.type "super")) (hx : s.heap.get? x = some (excO C t0)) (hroom : A.depth < recursionLimit)
    (hq : ∀ h' tk dx, IEnd s.heap h' x C dx [(b, u), (a, v)] → R (.ok (.ret .none)) { s with heap := h', toks := tk }) :
    codeAny (model prog w) A (.call (.ref fI) ⟨[.ref x], [(b, u), (a, v)]⟩) R s :=
  x_init2A xb XT NM T hup (fun _ _ _ _ _ _ _ _ _ _ _ => NM.bnk _ _ _ _ _ _ _ _ _ _ _ _ _ _) X hnx hlim hg hb hx hroom hq
end
/-- the class, called -/
def IniA (prog : Program) (w : World) (K : Frag) (mg : Str → Option Value) (C fI : Addr) (us : List Value) (kw : List (Str × Value)) (fv : List (Str × Value)) : Prop :=
  ∀ (A : Around) (R : Result → Shared → Prop) (s : Shared) (x t0 : Addr), K.In s.heap → K.lookup x = none → s.heap.NoLimit → s.heap.Ns mainGlobals mg → (∃ mb, s.heap.Ns builtinsNs mb ∧ mb "super" = some (.type "super")) →
    s.heap.get? x = some (excO C t0) → A.depth < recursionLimit → (∀ h' tk dx, IEnd s.heap h' x C dx fv → R (.ok (.ret .none)) { s with heap := h', toks := tk }) → codeAny (model prog w) A (.call (.ref fI) ⟨.ref x :: us, kw⟩) R s
abbrev Ini (prog : Program) (w : World) (K : Frag) (mg : Str → Option Value) (C fI : Addr) (us : List Value) (fv : List (Str × Value)) : Prop := IniA prog w K mg C fI us [] fv
section
variable {prog : Program} {w : World} {A : Around} {E : Value → Shared → Prop} {R : Result → Shared → Prop} {s : Shared} {K : Frag} {mg : Str → Option Value} {C fI : Addr} {B nw it : String} {bm : List Value} {fs : List Str} {as : List Arg} {body : List Stmt}
theorem x_madeA (xb : XB B nw it bm) (T : XTxt prog K C fI B nw it bm fs as body) {us : List Value} {kw : List (Str × Value)} {fv : List (Str × Value)} (hI : IniA prog w K mg C fI us kw fv) (X : K.In s.heap) (hlim : s.heap.NoLimit) (hg : s.heap.Ns mainGlobals mg) (hb : ∃ mb, s.heap.Ns builtinsNs mb ∧ mb "super" = some (.type "super")) (hz : us.length ≤ sizeLine) (hroom : A.depth + 1 < recursionLimit)
    (hq : ∀ h' tk e d, Made s.heap h' e C d fv → R (.ok (.ret (.ref e))) { s with heap := h', toks := tk }) :
    codeAny (model prog w) A (.call (.ref C) ⟨us, kw⟩) R s := by
  obtain ⟨nm, q, N, bs, sn, sub, ab, col, dd, k0, k1, k2, k3, k5, hC⟩ := T.cls
  obtain ⟨hp, g, dr, tk, os⟩ := s
  have k : ∀ b o, hp.get? b = some o → ((hp.push (kdv_tup us)).push (excO C hp.objs.size)).get? b = some o := fun b o e => Heap.get?_push_of_some _ (Heap.get?_push_of_some _ e)
  have hget : ((hp.push (kdv_tup us)).push (excO C hp.objs.size)).get? (hp.objs.size + 1) = some (excO C hp.objs.size) := by heap_get
  have hnx : K.lookup (hp.objs.size + 1) = none := by
    cases e : K.lookup (hp.objs.size + 1) with
    | none => rfl
    | some o =>
      have z : hp.get? (hp.objs.size + 1) = some o := X _ _ e
      exact absurd (Nat.lt_of_succ_lt (Heap.lt_size z)) (Nat.lt_irrefl _)
  refine ERK.call_kw xb.fb (fun _ => rfl) (X _ _ hC) (looks_findIn X T.iC) (fun self => bind_fn X self T.tC) hz ?_
  refine hI _ _ ⟨(hp.push (kdv_tup us)).push (excO C hp.objs.size), g, dr, tk, os⟩ _ _ (X.keeps k) hnx (hlim.keeps k) (hg.keeps k) (hb.elim fun mb z => ⟨mb, z.1.keeps k, z.2⟩) hget ?_ fun h' tk' dx ⟨k', ⟨t1, hx⟩, dn, dne, hns⟩ => ?_
  · show A.depth + 1 < recursionLimit
    exact hroom
  · have old : ∀ b o, hp.get? b = some o → h'.get? b = some o := fun b o e => k' b o (Nat.ne_of_lt (Nat.lt_succ_of_lt (Heap.lt_size e))) (k b o e)
    have z : hp.objs.size + 1 + 1 ≤ dx := by simpa only [Heap.size_push] using dn
    exact ⟨rfl, hq h' tk' (hp.objs.size + 1) dx ⟨old, Nat.le_succ _, ⟨_, _, hx, rfl, rfl, rfl, rfl⟩, Nat.le_trans (Nat.le_trans (Nat.le_succ _) (Nat.le_succ _)) z, dne, hns⟩⟩
end
end PX
end PySem
/-! PX1: raise of an own error -/
namespace PL
open PySem PySem.Spec PyProof.Rows L2 AB
open TL (tl)
/-- an own error class, as the layer needs it: its name, its fields -/
structure XCl (G : Gx) (x : Str) (fs : List Str) (C : Addr) : Prop where
  mgC : G.mg x = some (.ref C)
  kC : PySem.W.keepIn G.K (.ref C) = true
  exC : PySem.W.subIn G.K (.ref C) (.type "BaseException") = some true
  tyC : PySem.W.typeIn G.K (.ref C) = some (.type "type")
  ini : ∃ (fI : Addr) (B nw it : String) (bm : List Value) (as : List Arg) (body : List Stmt), PX.XB B nw it bm ∧ PX.XTxt G.prog G.K C fI B nw it bm fs as body ∧ (∀ us : List Value, us.length = fs.length → PX.Ini G.prog G.w G.K G.mg C fI us (fs.zip us)) ∧
    ∀ us : List Value, us.length = fs.length → PX.IniA G.prog G.w G.K G.mg C fI [] (fs.zip us).reverse (fs.zip us)
section
variable {G : Gx} {X : Cx} {W : WX} {k : Nat} {H : Hp} {F : Addr → Prop}
theorem fld_rel : ∀ {fs : List Str} {vs : List V} {us : List Value}, Vals vs us → ∀ f, RelO ((fs.zip vs).lookup f) (PX.fldM (fs.zip us) f)
  | [], vs, us, _, f => by cases vs <;> cases us <;> trivial
  | n :: fs, [], [], .nil, f => trivial
  | n :: fs, v :: vs, u :: us, .cons r rs, f => by
    show RelO (((n, v) :: fs.zip vs).lookup f) (PX.fldM ((n, u) :: fs.zip us) f)
    unfold List.lookup PX.fldM
    by_cases h : f = n
    · rw [if_pos h, show (f == n) = true from beq_iff_eq.mpr h]; exact r
    · rw [if_neg h, show (f == n) = false from beq_eq_false_iff_ne.mpr h]; exact fld_rel rs f
def raiseF (x : Str) (fs : List Str) (vs : List Fv) (ε : Ev) : Re Fl := match shr vs ε with
  | some (ds, ε') => if ds.length = fs.length then .exc ⟨x, fs.zip ds⟩ ε' else .no
  | none => .no
def sDRaise (x : Str) (fs : List Str) (da : Dn (List Fv)) : Dn Fl := fun ε => (da ε).bind (raiseF x fs)
theorem zip_fst {α β : Type} : ∀ {a : List α} {b : List β}, b.length = a.length → (a.zip b).map (·.1) = a
  | [], _, _ => rfl
  | x :: a, [], h => by simp at h
  | x :: a, y :: b, h => by rw [List.zip_cons_cons, List.map_cons, zip_fst (by simpa using h)]
theorem zip_snd {α β : Type} : ∀ {a : List α} {b : List β}, b.length = a.length → (a.zip b).map (·.2) = b
  | [], [], _ => rfl
  | [], _ :: _, h => by simp at h
  | x :: a, [], h => by simp at h
  | x :: a, y :: b, h => by rw [List.zip_cons_cons, List.map_cons, zip_snd (by simpa using h)]
end
end PL
/-! PX2: a lambda handed to a def that calls it, where no repr is under way -/
namespace PL
open PySem PySem.Spec PyProof.Rows L2 AB LamX
open TL (tl)
end PL
/-! PX3: a caught error -/
namespace PL
open PySem PySem.Spec PyProof.Rows L2 AB LamX
open TL (tl)
section
variable {G : Gx} {Z : Cx} {i : Nat} {a dd : Addr} {fs : List (Str × D)} {H : Hp} {F : Addr → Prop}
theorem lookup_rp : ∀ {xs : List (Str × V)} {fs : List (Str × D)} {f : Str} {d : D}, xs.map (·.1) = fs.map (·.1) → RpAll G H F (xs.map (·.2)) (fs.map (·.2)) → fs.lookup f = some d → ∃ v, xs.lookup f = some v ∧ Rp G H F v d
  | [], [], f, d, _, _, h => by cases h
  | [], _ :: _, f, d, h, _, _ => by cases h
  | _ :: _, [], f, d, h, _, _ => by cases h
  | (n, v) :: xs, (m, e) :: fs, f, d, h, r, l => by
    simp only [List.map_cons, List.cons.injEq] at h
    obtain ⟨rfl, h⟩ := h
    cases r with
    | cons r rs =>
      unfold List.lookup at l ⊢
      cases q : f == n with
      | true => rw [q] at l; cases l; exact ⟨v, rfl, r⟩
      | false => rw [q] at l; exact lookup_rp h rs l
end
/-- a class whose instances are caught -/
structure XHd (K : PySem.W.Frag) (C : Addr) : Prop where
  xf : XfC K C
  ec : ExcC K C
  cl : (PySem.W.clsIn K C).isSome = true
  me : PySem.W.exmOne K (.ref C) (.ref C) = some true
end PL
/-! PX4: a def that calls what it got and tells what came of it -/
namespace PL
open PySem PySem.Spec PyProof.Rows L2 AB LamX
open TL (tl)
end PL
/-! PX5: x(lambda: body), x a def that tells what came of it -/
namespace PL
open PySem PySem.Spec PyProof.Rows L2 AB LamX
open TL (tl)
def catE (hd : Xc → Option D) (x : Xc) (ε : Ev) : Re Fv := match hd x with
  | some d => .ok (.sh d) ε
  | none => .no
def catO (wrap : D → D) (fv : Fv) (ε : Ev) : Re Fv := match shr [fv.old] ε with
  | some ([d], ε2) => .ok (.sh (wrap d)) ε2
  | _ => .no
def catR (hd : Xc → Option D) (wrap : D → D) : Re Fv → Re Fv
  | .ok fv ε1 => catO wrap fv ε1
  | .exc x ε1 => catE hd x ε1
  | .no => .no
def dCatch (hd : Xc → Option D) (wrap : D → D) (den : Dn Fv) : Dn Fv := fun ε => catR hd wrap (den ε)
end PL
/-! PX6: isinstance and repr in an except suite -/
namespace PL
open PySem PySem.Spec PyProof.Rows L2 AB LamX
open TL (tl)
end PL
/-! PXT: the law's own call, with tables of code objects -/
namespace AB
open PySem PySem.Spec PyProof.Rows L2 LamX
/-- the law's promise, where the tables stand -/
def spLawT (K : PySem.W.Frag) (ts : List Addr) : Sp := fun vs H Q E => spLaw K vs H Q E ∧ ∀ t ∈ ts, H t = some (.tbl #[])
def tabO : Obj := { cls := .none, data := .fields #[] }
def scrT (K : PySem.W.Frag) (a : Addr) (vs : List Value) (ns : List Int) (ts : List Addr) : Hp := fun b =>
  if b = a ∧ K.lookup a = none then some (.frz (scrO vs) (.lst (ns.map V.int))) else if b ∈ ts then some (.tbl #[]) else none
section
variable {P : Program} {w : World} {K : PySem.W.Frag} {mg mb : Str → Option Value} {k : Nat} {fa a : Addr}
  {fd : FuncData} {x : Str} {sp : Sp} {s₁ : Shared} {vs : List Value} {ns : List Int} {ts : List Addr}
theorem scrT_some {b : Addr} {o : HO} (h : scrT K a vs ns ts b = some o) :
    (b = a ∧ K.lookup a = none ∧ o = .frz (scrO vs) (.lst (ns.map V.int))) ∨ (b ∈ ts ∧ o = .tbl #[]) := by
  unfold scrT at h
  by_cases c : b = a ∧ K.lookup a = none
  · rw [if_pos c] at h
    exact .inl ⟨c.1, c.2, (Option.some.inj h).symm⟩
  · rw [if_neg c] at h
    by_cases d : b ∈ ts
    · rw [if_pos d] at h
      exact .inr ⟨d, (Option.some.inj h).symm⟩
    · rw [if_neg d] at h
      cases h
theorem goes_tab {cs : List (Addr × Addr)} (KX : K.In s₁.heap) (hns : s₁.heap.Ns mainGlobals mg) (hb : s₁.heap.Ns builtinsNs mb)
    (hbb : ∀ x : Str, x ≠ "__name__" → mb x = bootBuiltins x) (hlim : s₁.heap.NoLimit) (hg : s₁.gens = #[])
    (hT : ∀ p ∈ cs, s₁.heap.get? p.2 = some tabO) (nT : ∀ p ∈ cs, K.lookup p.2 = none)
    (hC : ∀ p ∈ cs, PySem.W.CodeHd s₁.heap p.1 p.2)
    (hsys : ∃ m, s₁.heap.Ns sysModules m)
    (hbm : ∃ (bm : Addr) (ob : Obj), mg "__builtins__" = some (.ref bm) ∧ bm ≠ builtinsNs ∧ s₁.heap.get? bm = some ob ∧
      ob.cls = .type "module" ∧ ob.dict = some builtinsNs ∧ ob.data = .plain)
    (ha : s₁.heap.get? a = some (scrO vs)) (hi : IntsAre vs ns) (hl : ns.length ≤ sizeLine) (hr : Room k callerA)
    (F : ∀ base : Heap, K.In base → base.Ns mainGlobals mg → (∃ o, base.get? sysModules = some o) → (∀ p ∈ cs, TabB base mg p.1 p.2) → FnG True P w K mg base CX0 k fa fd [x] sp)
    (hbind : ∀ (s : Shared) (u : Value), BindsTo s fd ⟨[u], []⟩ [(x, u)])
    (hsp : ∀ H : Hp, (∀ p ∈ cs, H p.2 = some (.tbl #[])) → SqL K H a (ns.map V.int) →
      sp [.ref a] H (fun v _ => v = .bl true) fun _ _ _ => False) :
    codeAny (model P w) callerA (.call (.ref fa) ⟨[.ref a], []⟩)
      (fun r s' => r = .ok (.ret (.bool true)) ∧ OldK s₁.heap s'.heap ∧ s'.os = s₁.os ∧ AllBare s'.gens) s₁ := by
  have rv := vals_ints hi
  obtain ⟨ts, hts⟩ : ∃ ts, ts = cs.map (·.2) := ⟨_, rfl⟩
  let H : Hp := scrT K a vs ns ts
  have mem : ∀ b ∈ ts, ∃ p ∈ cs, p.2 = b := fun b hb => by
    rw [hts] at hb
    obtain ⟨p, hp, e⟩ := List.mem_map.mp hb
    exact ⟨p, hp, e⟩
  have isT : ∀ b ∈ ts, s₁.heap.get? b = some tabO := fun b hb => by
    obtain ⟨p, hp, rfl⟩ := mem b hb
    exact hT p hp
  have aT : a ∉ ts := fun z => by
    have := isT a z
    rw [ha] at this
    cases this
  have hH : ∀ p ∈ cs, H p.2 = some (.tbl #[]) := fun p hp => by
    have hm : p.2 ∈ ts := by rw [hts]; exact List.mem_map.mpr ⟨p, hp, rfl⟩
    show (if p.2 = a ∧ K.lookup a = none then _ else if p.2 ∈ ts then _ else _) = _
    rw [if_neg (show ¬(p.2 = a ∧ K.lookup a = none) from fun z => aT (z.1 ▸ hm)), if_pos hm]
  have toBase : ∀ {b : Addr} {o : Obj}, s₁.heap.get? b = some o → H b = none → (hidT s₁.heap H).get? b = some o :=
    fun e n => hidT_get e n
  -- what is tracked is the script or a table
  have only : ∀ {b : Addr} {o : Obj}, s₁.heap.get? b = some o → o ≠ scrO vs → o ≠ tabO → H b = none := by
    intro b o e h1 h2
    cases q : H b with
    | none => rfl
    | some u =>
      rcases scrT_some q with ⟨rfl, _, _⟩ | ⟨hb', _⟩
      · rw [ha] at e
        cases e
        exact absurd rfl h1
      · rw [isT b hb'] at e
        cases e
        exact absurd rfl h2
  have dictFree : ∀ {b : Addr} {o : Obj} {es : Array DictEntry} {ep : Nat}, s₁.heap.get? b = some o → o.data = .dict es ep → H b = none := by
    intro b o es ep e d
    refine only e (fun z => ?_) fun z => ?_
    · rw [z] at d
      exact nomatch (show Data.seq vs.toArray _ = Data.dict es ep from d)
    · rw [z] at d
      exact nomatch (show Data.fields #[] = Data.dict es ep from d)
  have nsB : ∀ {b : Addr} {m : Str → Option Value}, s₁.heap.Ns b m → (hidT s₁.heap H).Ns b m := by
    rintro b m ⟨o, es, ep, e, d, r⟩
    exact ⟨o, es, ep, toBase e (dictFree e d), d, r⟩
  have kinB : K.In (hidT s₁.heap H) := by
    intro b o e
    refine toBase (KX b o e) ?_
    cases q : H b with
    | none => rfl
    | some u =>
      rcases scrT_some q with ⟨rfl, z, _⟩ | ⟨hb', _⟩
      · rw [z] at e
        cases e
      · obtain ⟨p, hp, rfl⟩ := mem b hb'
        rw [nT p hp] at e
        cases e
  have hM : Mod K mg (hidT s₁.heap H) := ⟨kinB, nsB hns, ⟨mb, nsB hb, hbb⟩, by
    obtain ⟨mc, h1, h2⟩ := hlim
    exact ⟨mc, nsB h1, h2⟩⟩
  have hok : HOk P w H s₁.heap := by
    intro b u e
    rcases scrT_some e with ⟨rfl, z, rfl⟩ | ⟨hb', rfl⟩
    · exact ⟨ha, by rw [List.length_map]; exact hl, vs, _, rv, ha⟩
    · exact isT b hb'
  have sq : SqL K H a (ns.map V.int) := by
    cases q : K.lookup a with
    | none => exact .inl (.inr ⟨scrO vs, if_pos ⟨rfl, q⟩⟩)
    | some o =>
      have e := KX a o q
      rw [ha] at e
      cases e
      refine .inr ⟨_, vs.toArray, _, q, rfl, rfl, rfl, ?_, by simpa using rv⟩
      have := rv.length
      rw [List.length_map] at this
      rw [List.size_toArray]
      omega
  have TB : ∀ p ∈ cs, TabB (hidT s₁.heap H) mg p.1 p.2 := by
    intro p hp
    have tp := hT p hp
    have glb : mainGlobals ≠ p.2 := fun z => by
      obtain ⟨o, es, ep, e, d, _⟩ := hns
      rw [z, tp] at e
      cases e
      cases d
    refine ⟨?_, ?_, glb⟩
    · obtain ⟨o, us, file, tf, flags, tg, inF, text, tt, e1, r1, r2⟩ := hC p hp
      refine ⟨o, us, file, tf, flags, tg, inF, text, tt, toBase e1 (only e1 (fun z => ?_) fun z => ?_), r1, r2⟩
      · rw [z] at r1
        exact absurd (show Value.type "list" = Value.type "code" from r1) (by decide)
      · rw [z] at r1
        exact absurd (show Value.none = Value.type "code" from r1) (by decide)
    · obtain ⟨bm, ob, b1, b2, b3, b4, b5, b6⟩ := hbm
      refine ⟨bm, ob, b1, b2, fun z => ?_, fun z => ?_, toBase b3 (only b3 (fun z => ?_) fun z => ?_), b4, b5, b6⟩
      · obtain ⟨o, es, ep, e, d, _⟩ := hns
        rw [z, e] at b3
        cases b3
        rw [d] at b6
        cases b6
      · rw [z, tp] at b3
        cases b3
        cases b6
      · rw [z] at b6
        cases b6
      · rw [z] at b6
        cases b6
  have SY : ∃ o, (hidT s₁.heap H).get? sysModules = some o := by
    obtain ⟨m, hm⟩ := hsys
    obtain ⟨o, es, ep, e, _⟩ := nsB hm
    exact ⟨o, e⟩
  have e0 : Env0 P w K mg (hidT s₁.heap H) callerA [] s₁ H :=
    { frames := rfl, mod := hM, bs := fun b o e => of_hidT e, bsz := Nat.le_of_eq (hidT_size _ _), funs := trivial,
      frf := fun b z => absurd (show b ∈ ([] : List Addr) from z) (by simp), hok := hok, bare := .of_eq hg }
  refine codeAny_mono ((F _ kinB (nsB hns) SY TB).go callerA [] s₁ H ⟨[.ref a], []⟩ [.ref a] [.ref a] _ _ hr (fun _ => rfl) e0
    (hbind s₁ (.ref a)) (.cons rfl .nil) (hsp H hH sq)) ?_
  intro r s' h
  cases r with
  | error e => exact False.elim h
  | ok fl =>
    cases fl with
    | next => exact False.elim h
    | brk => exact False.elim h
    | cont => exact False.elim h
    | ret u =>
      obtain ⟨v, H', os, bare, un, hok', r', q⟩ := h
      have q1 : v = .bl true := q
      subst q1
      have q2 : u = Value.bool true := r'
      subst q2
      have grown : ∀ b ∈ ts, ∃ more : Array Value, s'.heap.get? b = some { cls := .none, data := .fields more } := fun b hb' => by
        obtain ⟨p, hp, rfl⟩ := mem b hb'
        obtain ⟨more, z⟩ := un.tbls p.2 #[] (hH p hp)
        exact ⟨_, hok' p.2 _ z⟩
      have key : ∀ b o, b ∉ ts → s₁.heap.get? b = some o → s'.heap.get? b = some o := by
        intro b o nb e
        cases q : H b with
        | none => exact un.keep b o e q (fun z => absurd (show b ∈ ([] : List Addr) from z) (by simp)) (by simp)
        | some u =>
          rcases scrT_some q with ⟨rfl, z, rfl⟩ | ⟨hb', _⟩
          · obtain ⟨e1, _⟩ := hok b _ q
            obtain ⟨e2, _⟩ := hok' b _ (un.frzs b _ _ q)
            rw [e] at e1
            cases e1
            exact e2
          · exact absurd hb' nb
      refine ⟨rfl, ⟨fun b o e => ?_, fun b o e => ?_⟩, os, bare⟩
      · by_cases hb' : b ∈ ts
        · obtain ⟨more, hm⟩ := grown b hb'
          obtain ⟨p, hp, rfl⟩ := mem b hb'
          rw [hT p hp] at e
          cases e
          exact .inr (.inl ⟨((hC p hp).tab (hT p hp)).isCodeTable, rfl, #[], more, rfl, by rw [Array.empty_append]; exact hm⟩)
        · exact .inl (key b o hb' e)
      · by_cases hb' : b ∈ ts
        · obtain ⟨more, hm⟩ := grown b hb'
          exact ⟨_, hm⟩
        · exact ⟨o, key b o hb' e⟩
theorem walk_tab {l : PySem.W.OpenLaw} {n k : Nat} {q : Program} {loose : List Str}
    {XP : (Str → Option Value) → Heap → Prop} {YP : World → Heap → Prop} {d : DefRec} {K : Params → PySem.W.Frag} {x : Str} {ts : List Addr}
    (hn : l.most = some n) (hn2 : n ≤ sizeLine) (h63 : n ≤ 63) (hdf : d.params.defaults = []) (hr : Room k callerA) (himp : importsNone q = true)
    (hY : ∀ (w : World) (h : Heap), YP w h → (K w.params).In h ∧ ∀ t ∈ ts, h.get? t = some (PySem.W.tabObj #[]))
    (F : ∀ (w : World) (mg : Str → Option Value) (fa : Addr) (h : Heap), (K w.params).In h → h.Ns mainGlobals mg →
      mg d.name = some (.ref fa) → ∃ (fd : FuncData) (cs : List (Addr × Addr)), (∀ p ∈ cs, p.2 ∈ ts) ∧ (∀ p ∈ cs, (K w.params).lookup p.2 = none) ∧
        (∀ p ∈ cs, PySem.W.codeHdIn (K w.params) p.1 p.2 = true) ∧ (∀ (s : Shared) (u : Value), BindsTo s fd ⟨[u], []⟩ [(x, u)]) ∧
        ∀ base : Heap, (K w.params).In base → base.Ns mainGlobals mg → (∃ o, base.get? sysModules = some o) → (∀ p ∈ cs, TabB base mg p.1 p.2) →
          FnG True l.prog w (K w.params) mg base CX0 k fa fd [x] (spLawT (K w.params) (cs.map (·.2)))) :
    PySem.W.WalkO q loose XP YP l.row.toRowW d [] (fun f vs => PySem.call f vs) := by
  refine Att.attach_call hn hdf ?_
  intro w s₀ s₁ mg mb fa o pm cd doc a vs ns G Y ho hd hcd hmg hobj hints hlen hg
  obtain ⟨KX, hT⟩ := hY w _ Y
  obtain ⟨fd, cs, c1, c2, c3, hb, hF⟩ := F w mg fa _ KX G.T.g hmg
  refine goes_tab KX G.T.g G.T.b G.T.builtins G.T.nolimit hg (fun p hp => hT _ (c1 p hp)) c2 (fun p hp => PySem.W.codeHd_of_K KX (c3 p hp)) (by obtain ⟨m, hm, _⟩ := (G.T.seer himp).mods; exact ⟨m, hm⟩) G.T.bmain hobj hints (Nat.le_trans hlen hn2) hr hF hb fun H hH hS => ?_
  refine ⟨⟨a, ns, rfl, hS, Nat.le_trans hlen h63, fun _ => rfl⟩, fun t ht => ?_⟩
  obtain ⟨p, hp, rfl⟩ := List.mem_map.mp ht
  exact hH p hp
end
end AB
namespace PL
open PySem PySem.Spec PyProof.Rows L2 AB LamX
open TL (tl)
section
variable {G : Gx}
theorem law_plainT {j : Nat} {f : Addr} {fd : FuncData} {x : Str} {den : List D → Rf} {ts : List Addr} (Fn : FnP G j f fd [x] [false] den) (h : ∀ ns : List Int, ns.length ≤ 63 → ∃ outs, den [.flz (ns.map .int)] = .ok (.sh (.bl true)) outs) (hT : ∀ p ∈ G.T, p.1 ∈ ts) : FnG True G.prog G.w G.K G.mg G.base CX0 j f fd [x] (spLawT G.K ts) := by
  refine (FnG.cx0 Fn ?_).tt
  rintro vs H Q E ⟨⟨a, ns, rfl, hS, hl, q⟩, hH⟩
  refine ⟨fun _ => False, [.flz (ns.map .int)], fun p z => z.elim, (fun p hp => TabS.nil (hH _ (hT p hp))), .val (.flz ?_ (RpAll.ints ns)) .nil, .nil, ?_⟩
  · rcases hS with h | h
    · exact .inl ⟨h, fun z => z⟩
    · exact .inr h
  · obtain ⟨outs, e⟩ := h ns hl
    rw [e]
    intro v H' kp rr
    obtain ⟨_, r⟩ := rr
    cases r
    exact q H'
end
end PL
/-! PX7: zip of two lists, of two tuples -/
namespace PL
open PySem PySem.Spec PyProof.Rows L2 AB RZ
open TL (tl)
section
variable {G : Gx} {X : Cx} {W : WX} {H : Hp} {F : Addr → Prop} {k : Nat}
def zipD (xs ys : List D) : List D := List.zipWith (fun x y => D.tup [x, y]) xs ys
theorem zipD_len (xs ys : List D) : (zipD xs ys).length = min xs.length ys.length := by simp [zipD]
theorem zipD_get {xs ys : List D} {i : Nat} {d : D} (h : (zipD xs ys)[i]? = some d) : ∃ x y, xs[i]? = some x ∧ ys[i]? = some y ∧ d = .tup [x, y] := by
  unfold zipD at h
  rw [List.getElem?_zipWith] at h
  cases e1 : xs[i]? with
  | none => rw [e1] at h; cases h
  | some x =>
    cases e2 : ys[i]? with
    | none => rw [e1, e2] at h; cases h
    | some y => rw [e1, e2] at h; cases h; exact ⟨x, y, rfl, rfl, rfl⟩
theorem ylds_zip {a b : Addr} {vs ws : List V} {ds es : List D} (s : SL G H F a vs) (r : RpAll G H F vs ds) (s' : SL G H F b ws) (r' : RpAll G H F ws es) : Ylds G H F (Itz G.K a b) (zipD ds es) := by
  intro i H1 F1 m fo
  have s1 := s.mv m
  have r1 := r.mv m
  have s2 := s'.mv m
  have r2 := r'.mv m
  refine ⟨fun d e => ?_, fun e => ⟨vs, ws, s1.sq, s2.sq, by rw [r.length, r'.length, e, zipD_len]; omega⟩⟩
  obtain ⟨x, y, ex, ey, rfl⟩ := zipD_get e
  obtain ⟨v, ev, rv⟩ := r1.get' ex
  obtain ⟨w, ew, rw'⟩ := r2.get' ey
  refine ⟨⟨vs, ws, v, w, s1.sq, s2.sq, ev, ew⟩, fun x H2 hy => ?_⟩
  obtain ⟨T, v', w', rfl, nT, rfl, hx, hy⟩ := hy
  have hx := hx vs s1.sq
  have hy := hy ws s2.sq
  rw [ev] at hx; cases hx
  rw [ew] at hy; cases hy
  exact ⟨grow_new nT, .tup (.inl ⟨.inl upd_same, fo.n nT⟩) (.cons (rv.mv (mv_old nT)) (.cons (rw'.mv (mv_old nT)) .nil))⟩
theorem ylds_zipT {a b : Addr} {vs ws : List V} {ds es : List D} (s : ST G H F a vs) (r : RpAll G H F vs ds) (s' : ST G H F b ws) (r' : RpAll G H F ws es) : Ylds G H F (ItzT G.K a b) (zipD ds es) := by
  intro i H1 F1 m fo
  have s1 := s.mv m
  have r1 := r.mv m
  have s2 := s'.mv m
  have r2 := r'.mv m
  refine ⟨fun d e => ?_, fun e => ⟨vs, ws, s1.sq, s2.sq, by rw [r.length, r'.length, e, zipD_len]; omega⟩⟩
  obtain ⟨x, y, ex, ey, rfl⟩ := zipD_get e
  obtain ⟨v, ev, rv⟩ := r1.get' ex
  obtain ⟨w, ew, rw'⟩ := r2.get' ey
  refine ⟨⟨vs, ws, v, w, s1.sq, s2.sq, ev, ew⟩, fun x H2 hy => ?_⟩
  obtain ⟨T, v', w', rfl, nT, rfl, hx, hy⟩ := hy
  have hx := hx vs s1.sq
  have hy := hy ws s2.sq
  rw [ev] at hx; cases hx
  rw [ew] at hy; cases hy
  exact ⟨grow_new nT, .tup (.inl ⟨.inl upd_same, fo.n nT⟩) (.cons (rv.mv (mv_old nT)) (.cons (rw'.mv (mv_old nT)) .nil))⟩
def zpF : Option (List D × Ev) → Re (List D)
  | some ([.lst xs, .lst ys], ε') => .ok (zipD xs ys) ε'
  | some ([.tup xs, .tup ys], ε') => .ok (zipD xs ys) ε'
  | _ => .no
def zipF (fs : List Fv) (ε : Ev) : Re (List D) := zpF (shr fs ε)
theorem zipK {e e2 : Expr} {ta : TA} {p pos tpos : Pos} {elts : List Expr} {kk : Nat} {K : PySem.W.Frag} (h : X.K = K) (hg : Gl X "zip") (hm : X.mg "zip" = none) (ha : PA X [e, e2] ta)
    (hs : starEach [e, e2] X.env = (false, eval e X.env) :: starEach [e2] X.env := by rfl) (hpl : (backTo pos (starEach [e2] X.env)).any (·.1) = false := by rfl) :
    PI X (.Tuple elts kk tpos) (.Call (.Name "zip" p) [e, e2] [] pos) (iZipA K ta) := h ▸ pi_zipA hg hm ha hs hpl
theorem iZ {e e2 : Expr} {da : Dn (List Fv)} {p pos tpos : Pos} {elts : List Expr} {kk : Nat} (c : Cok G X W k) (hg : Gl X "zip") (hm : G.mg "zip" = none) (ha : PAp G X W [e, e2] da)
    (hs : starEach [e, e2] X.env = (false, eval e X.env) :: starEach [e2] X.env := by rfl) (hpl : (backTo pos (starEach [e2] X.env)).any (·.1) = false := by rfl) :
    PIp G X W (.Tuple elts kk tpos) (.Call (.Name "zip" p) [e, e2] [] pos) (fun ε => (da ε).bind zipF) := by
  refine PI.imp (zipK (K := G.K) c.hK hg (by rw [c.hm]; exact hm) ha hs hpl) ?_
  rintro σ H R ⟨C, ε, ok, post⟩
  refine wA_bind (P := PostI G W C σ ε H R) ok post (fun _ _ h => h) id fun fs ε1 vs H1 st1 ok1 vr p => ?_
  unfold zipF at p
  cases q : shr fs ε1 with
  | none => rw [q] at p; exact p.elim
  | some r =>
    obtain ⟨ds, ε2⟩ := r
    rw [q] at p
    obtain ⟨k2, r2, o⟩ := shr_sound ok1 vr q
    unfold zpF at p
    split at p
    · rename_i xs ys ε' hq
      cases hq
      cases r2 with
      | cons ra rr =>
        cases rr with
        | cons rb rr =>
          cases rr
          cases ra with
          | lst e1 n1 s1 =>
            cases rb with
            | lst e2 n2 s2 => exact ⟨_, _, _, _, rfl, .inl ⟨SqL.of e1, SqL.of e2, p _ H1 (st1.trans (Stp.less o)) k2 (ylds_zip (.inl ⟨.inl e1, n1⟩) s1 (.inl ⟨.inl e2, n2⟩) s2)⟩⟩
    · rename_i xs ys ε' hq
      cases hq
      cases r2 with
      | cons ra rr =>
        cases rr with
        | cons rb rr =>
          cases rr
          cases ra with
          | tup e1 s1 =>
            cases rb with
            | tup e2 s2 => exact ⟨_, _, _, _, rfl, .inr ⟨e1.sq, e2.sq, p _ H1 (st1.trans (Stp.less o)) k2 (ylds_zipT e1 s1 e2 s2)⟩⟩
    · exact p.elim
end
end PL
/-! PX8: enumerate over a tuple -/
namespace AB
open PySem PySem.Spec PyProof.Rows L2
open TL (tl)
end AB
namespace PL
open PySem PySem.Spec PyProof.Rows L2 AB
open TL (tl)
section
variable {G : Gx} {X : Cx} {W : WX} {H : Hp} {F : Addr → Prop} {k : Nat}
def enF3 : Option (List D × Ev) → Re (List D)
  | some ([.lst ds], ε') => .ok (enumD ds) ε'
  | some ([.str l], ε') => .ok (enumD (chrsD l)) ε'
  | some ([.tup ds], ε') => .ok (enumD ds) ε'
  | _ => .no
def enumF3 (fs : List Fv) (ε : Ev) : Re (List D) := enF3 (shr fs ε)
end
end PL
/-! PX9: a call that only reads what it gets, and hands back nothing that holds other values: what is owned stays owned -/
namespace PL
open PySem PySem.Spec PyProof.Rows L2 AB LamX
open TL (tl)
def noIns : D → Bool
  | .ins _ _ => false
  | _ => true
def callRk (m : Nat) (f : List D → Rf) (ε : Ev) : Option (List D) → Re Fv
  | some ds => if ds.length = m ∧ ds.all noIns = true then (match f ds with
      | .ok (.sh d) [] => if flatD d = true then .ok (.sh d) ε else .no
      | .exc x [] => if x.fs.all (fun p => flatD p.2) = true then .exc x ε else .no
      | _ => .no) else .no
  | none => .no
def callRF (m : Nat) (f : List D → Rf) (fs : List Fv) (ε : Ev) : Re Fv := callRk m f ε (rds ε fs)
def dCallR (m : Nat) (f : List D → Rf) (da : Dn (List Fv)) : Dn Fv := fun ε => (da ε).bind (callRF m f)
section
variable {G : Gx} {X : Cx} {W : WX} {C : Fr} {σ : L2.St} {ε : Ev} {H H1 : Hp} {F F' : Addr → Prop} {k : Nat}
/-- what is read, leaning on nothing -/
theorem Rt.free {v : V} {d : D} (r : Rt G H F v d) (h : noIns d = true) : Rp G H (fun _ => False) v d := by
  have m : Mv H H F (fun _ => False) := Mv.less fun _ z => z.elim
  cases d with
  | lst ds => obtain ⟨a, vs, rfl, e, r⟩ := r; exact .lst e (fun z => z) (r.mv m)
  | dct es => obtain ⟨a, vs, rfl, e, q, r⟩ := r; exact .dct e (fun z => z) q (r.mv m)
  | dcT es => exact Rp.mv m r
  | ins c es => cases h
  | non => exact Rp.mv m r
  | bl b => exact Rp.mv m r
  | int i => exact Rp.mv m r
  | str l => exact Rp.mv m r
  | tup xs => exact Rp.mv m r
  | ty n => exact Rp.mv m r
  | ref a => exact Rp.mv m r
  | flz xs => exact Rp.mv m r
end
end PL
/-! PXA: a call that leaves values to their defaults (numbers) -/
namespace PL
open PySem PySem.Spec PyProof.Rows L2 AB
open TL (tl)
section
variable {G : Gx} {X : Cx} {W : WX} {C : Fr} {σ : L2.St} {ε : Ev} {H H' : Hp} {F : Addr → Prop} {k : Nat}
section
variable {j : Nat} {f : Addr} {fd : FuncData} {ps : List Str} {mask : List Bool} {den : List D → Rf} {x : Str} {p pos : Pos} {e : Expr} {es : List Expr} {da : Dn (List Fv)}
def dCallD (mask : List Bool) (f : List D → Rf) (v : Int) (da : Dn (List Fv)) : Dn Fv := fun ε => (da ε).bind fun fs ε1 => callF mask f (fs ++ [.sh (.int v)]) ε1
end
end
end PL
/-! PXR: a tuple, turned round -/
namespace PL
open PySem PySem.Spec PyProof.Rows L2 AB
open TL (tl)
section
variable {G : Gx} {X : Cx} {W : WX} {k : Nat} {H : Hp} {F : Addr → Prop}
theorem RpAll.rev : ∀ {vs : List V} {ds : List D}, RpAll G H F vs ds → RpAll G H F vs.reverse ds.reverse
  | _, _, .nil => .nil
  | _, _, .cons r rs => by
    rw [List.reverse_cons, List.reverse_cons]
    exact RpAll.app (RpAll.rev rs) (.cons r .nil)
end
end PL
/-! PXC: what the end must say of an own error class -/
namespace PL
open PySem PySem.Spec PySem.W PySem.Calls PyProof.Rows L2 AB LamX
open TL (tl)
/-- the code object at cda is of the program's file -/
def fileB (P : Program) (K : PySem.W.Frag) (cda : Addr) : Bool := match K.lookup cda with
  | some ⟨_, _, .fields vs, _⟩ => (match (vs[2]? : Option Value) with | some (.str f _) => (P.main.file : Str) == f | _ => false)
  | _ => false
theorem fileB_ok {P : Program} {K : PySem.W.Frag} {cda : Addr} (h : fileB P K cda = true) : ∃ ccl cdd vs ccs file tf, K.lookup cda = some ⟨ccl, cdd, .fields vs, ccs⟩ ∧ vs[2]? = some (.str file tf) ∧ ((P.main.file : Str) == file) = true := by
  unfold fileB at h
  split at h
  · rename_i a b vs d e
    split at h
    · rename_i f t e2
      exact ⟨_, _, _, _, f, t, e, e2, h⟩
    · cases h
  · cases h
def cellB (K : PySem.W.Frag) (cc C : Addr) : Bool := match K.lookup cc with
  | some ⟨_, _, .cell (some (.ref D)), _⟩ => D == C
  | _ => false
theorem cellB_ok {K : PySem.W.Frag} {cc C : Addr} (h : cellB K cc C = true) : ∃ cl cld csl, K.lookup cc = some ⟨cl, cld, .cell (some (.ref C)), csl⟩ := by
  unfold cellB at h
  split at h
  · rename_i a b D d e
    exact ⟨_, _, _, by rw [e, beq_iff_eq.mp h]⟩
  · cases h
def xhdB (K : PySem.W.Frag) (C : Addr) : Bool := xfB K C && (decide (PySem.W.findIn K (.ref C) "__class__" = some (some (.builtin "object.__class__"))) && (decide (PySem.W.specialIn K (.builtin "object.__class__") "__get__" = some (some (.builtin "getset_descriptor.__get__"))) &&
  (decide (PySem.W.takesIn K (.builtin "object.__class__") = some true) && (decide (PySem.W.mroIn K C (.type "object") = some true) && ((PySem.W.clsIn K C).isSome && decide (PySem.W.exmOne K (.ref C) (.ref C) = some true))))))
theorem xhdB_ok {K : PySem.W.Frag} {C : Addr} (h : xhdB K C = true) : XHd K C := by
  obtain ⟨h1, h⟩ := Bool.and_eq_true_iff.mp h
  obtain ⟨h2, h⟩ := Bool.and_eq_true_iff.mp h
  obtain ⟨h3, h⟩ := Bool.and_eq_true_iff.mp h
  obtain ⟨h4, h⟩ := Bool.and_eq_true_iff.mp h
  obtain ⟨h5, h⟩ := Bool.and_eq_true_iff.mp h
  obtain ⟨h6, h7⟩ := Bool.and_eq_true_iff.mp h
  have x := xfB_ok h1
  exact ⟨x, ⟨x.ga, x.gg, x.exC, x.hdC, of_decide_eq_true h2, of_decide_eq_true h3, of_decide_eq_true h4, of_decide_eq_true h5⟩, h6, of_decide_eq_true h7⟩
section
variable {G : Gx} {x : Str} {C fI : Addr} {B nw it : String} {bm : List Value} {nm q : Str} {N : Addr} {bs : List Value} {sn : List Str} {sub : List Value} {ab : Bool} {col : Option Bool} {dd : Option Addr} {k0 k1 k2 k3 k5 : Option Value}
variable {qn : Str} {oc : Value} {od : Option Addr} {doc pm : Value} {an : Option Addr} {cda cc : Addr} {ct : Value} {osl : Array (Option Value)}
theorem xcl1 {a : Str} {pa1 pa2 p0 p1 p2 p3 p4 p5 q0 q1 q2 q3 : Pos} (xb : PX.XB B nw it bm) (NM : PX.Nm1 a) (XT : PX.XTop G.prog G.K G.mg) (gC : G.mg x = some (.ref C))
    (xL : G.K.lookup C = some (excClassObj nm q C N bs bm true sn sub ab col dd k0 k1 k2 k3 k5 nw)) (sa : PySem.W.findIn G.K (.ref C) "__setattr__" = some (some (.builtin "object.__setattr__"))) (na : PySem.W.findIn G.K (.ref C) a = some none)
    (iC : PySem.W.findIn G.K (.ref C) "__init__" = some (some (.ref fI))) (tC : PySem.W.typeIn G.K (.ref fI) = some (.type "function"))
    (l : G.K.lookup fI = some ⟨oc, od, .func (ksFn "__init__" qn (PX.iA [PX.aA "self" pa1, PX.aA a pa2]) [PX.sUp [.Name a p5] p0 p1 p2 p3 p4, PX.sFld a q0 q1 q2 q3] (PX.iS [a]) .none .none doc pm an (.ref cda) ct cc), osl⟩)
    (cI : PySem.W.codeIn G.K (.ref cda) qn = true) (fi : fileB G.prog G.K cda = true) (ce : cellB G.K cc C = true)
    (kC : PySem.W.keepIn G.K (.ref C) = true) (exC : PySem.W.subIn G.K (.ref C) (.type "BaseException") = some true) (tyC : PySem.W.typeIn G.K (.ref C) = some (.type "type")) (hup : PX.UpOk [a] [.Name a p5] p0 p1 p2 p3) : XCl G x [a] C := by
  have T : PX.XTxt G.prog G.K C fI B nw it bm [a] [PX.aA "self" pa1, PX.aA a pa2] [PX.sUp [.Name a p5] p0 p1 p2 p3 p4, PX.sFld a q0 q1 q2 q3] :=
    ⟨⟨_, _, _, _, _, _, _, _, _, _, _, _, _, _, xL⟩, sa, fun n hn => by rw [List.mem_singleton.mp hn]; exact na, iC, tC, ⟨_, _, _, _, _, _, _, _, _, _, l, cI, fileB_ok fi, cellB_ok ce⟩⟩
  refine ⟨gC, kC, exC, tyC, fI, B, nw, it, bm, _, _, xb, T, fun us hu => ?_, fun us hu => ?_⟩
  · match us, hu with
    | [v], _ => exact fun A R s x0 t0 X hnx hlim hg hb hx hroom hq => PX.x_init1 xb XT NM T hup X hnx hlim hg hb hx hroom hq
  · match us, hu with
    | [v], _ => exact fun A R s x0 t0 X hnx hlim hg hb hx hroom hq => PX.x_init1K xb XT NM T hup X hnx hlim hg hb hx hroom hq
theorem fldM_swap {a b : Str} {v u : Value} (h : (a == b) = false) : PX.fldM [(b, u), (a, v)] = PX.fldM [(a, v), (b, u)] := by
  funext y
  have hne : a ≠ b := fun z => by rw [z] at h; simp at h
  unfold PX.fldM PX.fldM PX.fldM
  by_cases e1 : y = b
  · rw [if_pos e1, if_neg (fun z => hne (z.symm.trans e1)), if_pos e1]
  · rw [if_neg e1]
    by_cases e2 : y = a
    · rw [if_pos e2, if_pos e2]
    · rw [if_neg e2, if_neg e2, if_neg e1]
theorem xcl2 {a b : Str} {pa1 pa2 pa3 p0 p1 p2 p3 p4 p5 p6 q0 q1 q2 q3 r0 r1 r2 r3 : Pos} (xb : PX.XB B nw it bm) (NM : PX.Nm2 a b) (XT : PX.XTop G.prog G.K G.mg) (gC : G.mg x = some (.ref C))
    (xL : G.K.lookup C = some (excClassObj nm q C N bs bm true sn sub ab col dd k0 k1 k2 k3 k5 nw)) (sa : PySem.W.findIn G.K (.ref C) "__setattr__" = some (some (.builtin "object.__setattr__"))) (na : PySem.W.findIn G.K (.ref C) a = some none) (nb : PySem.W.findIn G.K (.ref C) b = some none)
    (iC : PySem.W.findIn G.K (.ref C) "__init__" = some (some (.ref fI))) (tC : PySem.W.typeIn G.K (.ref fI) = some (.type "function"))
    (l : G.K.lookup fI = some ⟨oc, od, .func (ksFn "__init__" qn (PX.iA [PX.aA "self" pa1, PX.aA a pa2, PX.aA b pa3]) [PX.sUp [.Name a p5, .Name b p6] p0 p1 p2 p3 p4, PX.sFld a q0 q1 q2 q3, PX.sFld b r0 r1 r2 r3] (PX.iS [a, b]) .none .none doc pm an (.ref cda) ct cc), osl⟩)
    (cI : PySem.W.codeIn G.K (.ref cda) qn = true) (fi : fileB G.prog G.K cda = true) (ce : cellB G.K cc C = true)
    (kC : PySem.W.keepIn G.K (.ref C) = true) (exC : PySem.W.subIn G.K (.ref C) (.type "BaseException") = some true) (tyC : PySem.W.typeIn G.K (.ref C) = some (.type "type")) (hup : PX.UpOk [a, b] [.Name a p5, .Name b p6] p0 p1 p2 p3) : XCl G x [a, b] C := by
  have T : PX.XTxt G.prog G.K C fI B nw it bm [a, b] [PX.aA "self" pa1, PX.aA a pa2, PX.aA b pa3] [PX.sUp [.Name a p5, .Name b p6] p0 p1 p2 p3 p4, PX.sFld a q0 q1 q2 q3, PX.sFld b r0 r1 r2 r3] :=
    ⟨⟨_, _, _, _, _, _, _, _, _, _, _, _, _, _, xL⟩, sa, fun n hn => by
      rcases List.mem_cons.mp hn with rfl | hn
      · exact na
      · rw [List.mem_singleton.mp hn]; exact nb, iC, tC, ⟨_, _, _, _, _, _, _, _, _, _, l, cI, fileB_ok fi, cellB_ok ce⟩⟩
  have sw : ∀ {h h' : Heap} {x0 dx : Addr} {v u : Value}, PX.IEnd h h' x0 C dx [(b, u), (a, v)] → PX.IEnd h h' x0 C dx [(a, v), (b, u)] := fun e => ⟨e.keep, e.obj, e.dbig, e.dne, by
      have := e.ns
      rw [fldM_swap NM.ab] at this
      exact this⟩
  refine ⟨gC, kC, exC, tyC, fI, B, nw, it, bm, _, _, xb, T, fun us hu => ?_, fun us hu => ?_⟩
  · match us, hu with
    | [v, u], _ => exact fun A R s x0 t0 X hnx hlim hg hb hx hroom hq => PX.x_init2 xb XT NM T hup X hnx hlim hg hb hx hroom fun h' tk dx e => hq h' tk dx (sw e)
  · match us, hu with
    | [v, u], _ => exact fun A R s x0 t0 X hnx hlim hg hb hx hroom hq => PX.x_init2K xb XT NM T hup X hnx hlim hg hb hx hroom fun h' tk dx e => hq h' tk dx (sw e)
end
end PL
namespace PL
open PySem PySem.Spec PyProof.Rows L2 AB
open TL (tl)
/-! evaluation: the equations by which what a def computes is read; the rest of a computation is a named function, so that it is not looked at before its first part is there -/
section
variable {α β γ : Type}
@[simp] theorem bind_ok (a : α) (ε : Ev) (k : α → Ev → Re β) : (Re.ok a ε).bind k = k a ε := rfl
@[simp] theorem bind_no (k : α → Ev → Re β) : (Re.no : Re α).bind k = .no := rfl
@[simp] theorem bind_exc (x : Xc) (ε : Ev) (k : α → Ev → Re β) : (Re.exc x ε : Re α).bind k = .exc x ε := rfl
@[simp] theorem bind_ite (c : Prop) [Decidable c] (a b : Re α) (k : α → Ev → Re β) : (if c then a else b).bind k = if c then a.bind k else b.bind k := by split <;> rfl
@[simp] theorem old_sh (d : D) : (Fv.sh d).old = .sh d := rfl
@[simp] theorem old_fr (d : D) : (Fv.fr d).old = .sh d := rfl
@[simp] theorem old_at (i : Nat) : (Fv.at i).old = .at i := rfl
@[simp] theorem rd_sh (ε : Ev) (d : D) : rd ε (.sh d) = some d := rfl
@[simp] theorem rd_fr (ε : Ev) (d : D) : rd ε (.fr d) = some d := rfl
@[simp] theorem rd_at (ε : Ev) (i : Nat) : rd ε (.at i) = ε.at i := rfl
@[simp] theorem at_nil (i : Nat) : Ev.at [] i = none := rfl
@[simp] theorem at_0sh (d : D) (ε : Ev) : Ev.at (.sh d :: ε) 0 = some d := rfl
@[simp] theorem at_0ow (d : D) (ε : Ev) : Ev.at (.ow d :: ε) 0 = some d := rfl
@[simp] theorem at_0io (d : D) (ε : Ev) : Ev.at (.io d :: ε) 0 = some d := rfl
@[simp] theorem at_0no (ε : Ev) : Ev.at (.no :: ε) 0 = none := rfl
@[simp] theorem at_s (s : Sl) (ε : Ev) (i : Nat) : Ev.at (s :: ε) (i + 1) = Ev.at ε i := rfl
def consO : Option D → Option (List D) → Option (List D)
  | some d, some ds => some (d :: ds)
  | _, _ => none
@[simp] theorem consO_some (d : D) (ds : List D) : consO (some d) (some ds) = some (d :: ds) := rfl
@[simp] theorem rds_nil (ε : Ev) : rds ε [] = some [] := rfl
@[simp] theorem rds_cons (ε : Ev) (f : Fv) (fs : List Fv) : rds ε (f :: fs) = consO (rd ε f) (rds ε fs) := by
  conv => lhs; unfold rds
  cases rd ε f with
  | none => rfl
  | some d => cases rds ε fs <;> rfl
/-- a value is taken out of a slot -/
def resJ (ε : Ev) (j : Nat) : Option (D × Ev) := match ε[j]? with
  | some (.sh d) => some (d, ε)
  | some (.ow d) => some (d, ε.set j (.sh d))
  | _ => none
def consR (s : Sl) : Option (D × Ev) → Option (D × Ev)
  | some (d, ε) => some (d, s :: ε)
  | none => none
@[simp] theorem consR_some (s : Sl) (d : D) (ε : Ev) : consR s (some (d, ε)) = some (d, s :: ε) := rfl
@[simp] theorem resJ_sh (d : D) (ε : Ev) : resJ (.sh d :: ε) 0 = some (d, .sh d :: ε) := rfl
@[simp] theorem resJ_ow (d : D) (ε : Ev) : resJ (.ow d :: ε) 0 = some (d, .sh d :: ε) := rfl
@[simp] theorem resJ_s (s : Sl) (ε : Ev) (j : Nat) : resJ (s :: ε) (j + 1) = consR s (resJ ε j) := by
  unfold resJ
  rw [List.getElem?_cons_succ]
  cases ε[j]? with
  | none => rfl
  | some t => cases t <;> rfl
def consS (d : D) : Option (List D × Ev) → Option (List D × Ev)
  | some (ds, ε) => some (d :: ds, ε)
  | none => none
@[simp] theorem consS_some (d : D) (ds : List D) (ε : Ev) : consS d (some (ds, ε)) = some (d :: ds, ε) := rfl
@[simp] theorem shr_nil (ε : Ev) : shr [] ε = some ([], ε) := rfl
@[simp] theorem shr_sh (d : D) (fs : List Fv) (ε : Ev) : shr (.sh d :: fs) ε = consS d (shr fs ε) := by
  conv => lhs; unfold shr
  cases shr fs ε <;> rfl
def shrK (fs : List Fv) : Option (D × Ev) → Option (List D × Ev)
  | some (d, ε) => consS d (shr fs ε)
  | none => none
@[simp] theorem shrK_some (fs : List Fv) (d : D) (ε : Ev) : shrK fs (some (d, ε)) = consS d (shr fs ε) := rfl
@[simp] theorem shr_at (j : Nat) (fs : List Fv) (ε : Ev) : shr (.at j :: fs) ε = shrK fs (resJ ε j) := by
  conv => lhs; unfold shr
  unfold resJ
  cases ε[j]? with
  | none => rfl
  | some t =>
    cases t with
    | no => rfl
    | io d => rfl
    | sh d => dsimp only [shrK]; cases shr fs ε <;> rfl
    | ow d => dsimp only [shrK]; cases shr fs (ε.set j (.sh d)) <;> rfl
/-- an owned content -/
def getM (ε : Ev) (j : Nat) : Option D := match ε[j]? with
  | some (.ow d) => some d
  | some (.io d) => some d
  | _ => none
def setM (ε : Ev) (j : Nat) (d : D) : Ev := match ε[j]? with
  | some s => ε.set j (s.with d)
  | none => ε
@[simp] theorem getM_ow (d : D) (ε : Ev) : getM (.ow d :: ε) 0 = some d := rfl
@[simp] theorem getM_io (d : D) (ε : Ev) : getM (.io d :: ε) 0 = some d := rfl
@[simp] theorem getM_s (s : Sl) (ε : Ev) (j : Nat) : getM (s :: ε) (j + 1) = getM ε j := rfl
@[simp] theorem setM_io (e d : D) (ε : Ev) : setM (.io e :: ε) 0 d = .io d :: ε := rfl
@[simp] theorem setM_ow (e d : D) (ε : Ev) : setM (.ow e :: ε) 0 d = .ow d :: ε := rfl
@[simp] theorem setM_s (s : Sl) (d : D) (ε : Ev) (j : Nat) : setM (s :: ε) (j + 1) d = s :: setM ε j d := by
  unfold setM
  rw [List.getElem?_cons_succ]
  cases ε[j]? <;> rfl
def mutK3 (j : Nat) (ε : Ev) : Option (D × D) → Re Fv
  | some (d', r) => .ok (.sh r) (setM ε j d')
  | none => .no
def mutK2 (f : D → List D → Option (D × D)) (j : Nat) (ds : List D) (ε : Ev) : Option D → Re Fv
  | some d => mutK3 j ε (f d ds)
  | none => .no
def mutK1 (f : D → List D → Option (D × D)) (j : Nat) : Option (List D × Ev) → Re Fv
  | some (ds, ε) => mutK2 f j ds ε (getM ε j)
  | none => .no
@[simp] theorem mutK3_some (j : Nat) (ε : Ev) (d r : D) : mutK3 j ε (some (d, r)) = .ok (.sh r) (setM ε j d) := rfl
@[simp] theorem mutK2_some (f : D → List D → Option (D × D)) (j : Nat) (ds : List D) (ε : Ev) (d : D) : mutK2 f j ds ε (some d) = mutK3 j ε (f d ds) := rfl
@[simp] theorem mutK1_some (f : D → List D → Option (D × D)) (j : Nat) (ds : List D) (ε : Ev) : mutK1 f j (some (ds, ε)) = mutK2 f j ds ε (getM ε j) := rfl
@[simp] theorem mutF_ev (f : D → List D → Option (D × D)) (j : Nat) (fs : List Fv) (ε : Ev) : mutF f j fs ε = mutK1 f j (shr fs ε) := by
  unfold mutF
  cases shr fs ε with
  | none => rfl
  | some r =>
    obtain ⟨ds, ε1⟩ := r
    dsimp only [mutK1]
    unfold getM
    cases q : ε1[j]? with
    | none => rfl
    | some t =>
      cases t with
      | no => rfl
      | sh d => rfl
      | ow d => dsimp only [mutK2]; cases f d ds <;> simp [mutK3, setM, q, Sl.with]
      | io d => dsimp only [mutK2]; cases f d ds <;> simp [mutK3, setM, q, Sl.with]
def consE (s : Sl) : Option Ev → Option Ev
  | some ε => some (s :: ε)
  | none => none
@[simp] theorem consE_some (s : Sl) (ε : Ev) : consE s (some ε) = some (s :: ε) := rfl
@[simp] theorem setS_nil (i : Nat) (fv : Fv) : setS [] i fv = none := rfl
@[simp] theorem setS_no_sh (d : D) (ε : Ev) : setS (.no :: ε) 0 (.sh d) = some (.sh d :: ε) := rfl
@[simp] theorem setS_sh_sh (e d : D) (ε : Ev) : setS (.sh e :: ε) 0 (.sh d) = some (.sh d :: ε) := rfl
@[simp] theorem setS_ow_sh (e d : D) (ε : Ev) : setS (.ow e :: ε) 0 (.sh d) = some (.sh d :: ε) := rfl
@[simp] theorem setS_no_fr (d : D) (ε : Ev) : setS (.no :: ε) 0 (.fr d) = some (.ow d :: ε) := rfl
@[simp] theorem setS_sh_fr (e d : D) (ε : Ev) : setS (.sh e :: ε) 0 (.fr d) = some (.ow d :: ε) := rfl
@[simp] theorem setS_ow_fr (e d : D) (ε : Ev) : setS (.ow e :: ε) 0 (.fr d) = some (.ow d :: ε) := rfl
@[simp] theorem setS_s_sh (s : Sl) (d : D) (ε : Ev) (i : Nat) : setS (s :: ε) (i + 1) (.sh d) = consE s (setS ε i (.sh d)) := by
  unfold setS setV
  rw [List.getElem?_cons_succ]
  cases ε[i]? with
  | none => rfl
  | some t => cases t <;> rfl
@[simp] theorem setS_s_fr (s : Sl) (d : D) (ε : Ev) (i : Nat) : setS (s :: ε) (i + 1) (.fr d) = consE s (setS ε i (.fr d)) := by
  unfold setS setV
  rw [List.getElem?_cons_succ]
  cases ε[i]? with
  | none => rfl
  | some t => cases t <;> rfl
def setAt (i : Nat) : Option (D × Ev) → Option Ev
  | some (d, ε) => setS ε i (.sh d)
  | none => none
@[simp] theorem setAt_some (i : Nat) (d : D) (ε : Ev) : setAt i (some (d, ε)) = setS ε i (.sh d) := rfl
@[simp] theorem setS_at (ε : Ev) (i j : Nat) : setS ε i (.at j) = setAt i (resJ ε j) := by
  unfold resJ setS setV
  cases q : ε[j]? with
  | none => cases ε[i]? with
    | none => rfl
    | some s => cases s <;> simp [q, setAt]
  | some t =>
    cases t with
    | no => cases ε[i]? with
      | none => rfl
      | some s => cases s <;> simp [q, setAt]
    | io d => cases ε[i]? with
      | none => rfl
      | some s => cases s <;> simp [q, setAt]
    | sh d => simp only [setAt, setS, setV, q]
    | ow d =>
      simp only [setAt, setS, setV]
      by_cases c : j = i
      · subst c
        rw [q, List.getElem?_set_self (List.getElem?_eq_some_iff.mp q).1]
      · rw [List.getElem?_set_ne c, q]
/-! expressions -/
def dVK (i : Nat) (ε : Ev) : Option D → Re Fv
  | some _ => .ok (.at i) ε
  | none => .no
@[simp] theorem dVK_some (i : Nat) (ε : Ev) (d : D) : dVK i ε (some d) = .ok (.at i) ε := rfl
@[simp] theorem dV_ev (i : Nat) (ε : Ev) : dV i ε = dVK i ε (ε.at i) := by unfold dV; cases ε.at i <;> rfl
@[simp] theorem dC_ev (d : D) (ε : Ev) : dC d ε = .ok (.sh d) ε := rfl
def finV (ε : Ev) : Option Fv → Re Fv
  | some (.sh d) => .ok (.sh d) ε
  | some (.fr d) => .ok (.fr d) ε
  | _ => .no
@[simp] theorem finV_sh (d : D) (ε : Ev) : finV ε (some (.sh d)) = .ok (.sh d) ε := rfl
@[simp] theorem finV_fr (d : D) (ε : Ev) : finV ε (some (.fr d)) = .ok (.fr d) ε := rfl
def o2K (f : D → D → Option Fv) (ε : Ev) : Option D → Option D → Re Fv
  | some d, some e => finV ε (f d e)
  | _, _ => .no
@[simp] theorem o2K_some (f : D → D → Option Fv) (ε : Ev) (d e : D) : o2K f ε (some d) (some e) = finV ε (f d e) := rfl
@[simp] theorem o2_ev (ε : Ev) (f : D → D → Option Fv) (x y : Fv) : o2 ε f x y = o2K f ε (rd ε x) (rd ε y) := by
  unfold o2
  cases rd ε x with
  | none => rfl
  | some d => cases rd ε y with
    | none => rfl
    | some e =>
      dsimp only [o2K]
      cases f d e with
      | none => rfl
      | some fv => cases fv <;> rfl
def kD2b (f : D → D → Option Fv) (x : Fv) (y : Fv) (ε : Ev) : Re Fv := o2 ε f x.old y.old
@[simp] theorem kD2b_ev (f : D → D → Option Fv) (x : Fv) (y : Fv) (ε : Ev) : kD2b f x y ε = o2 ε f x.old y.old := rfl
def kD2a (f : D → D → Option Fv) (db : Dn Fv) (x : Fv) (ε : Ev) : Re Fv := (db ε).bind (kD2b f x)
@[simp] theorem kD2a_ev (f : D → D → Option Fv) (db : Dn Fv) (x : Fv) (ε : Ev) : kD2a f db x ε = (db ε).bind (kD2b f x) := rfl
@[simp] theorem d2_ev (f : D → D → Option Fv) (da db : Dn Fv) (ε : Ev) : d2 f da db ε = (da ε).bind (kD2a f db) := rfl
def o1K (f : D → Option Fv) (ε : Ev) : Option D → Re Fv
  | some d => finV ε (f d)
  | none => .no
@[simp] theorem o1K_some (f : D → Option Fv) (ε : Ev) (d : D) : o1K f ε (some d) = finV ε (f d) := rfl
@[simp] theorem o1_ev (ε : Ev) (f : D → Option Fv) (x : Fv) : o1 ε f x = o1K f ε (rd ε x) := by
  unfold o1
  cases rd ε x <;> rfl
def kD1 (f : D → Option Fv) (x : Fv) (ε : Ev) : Re Fv := o1 ε f x.old
@[simp] theorem kD1_ev (f : D → Option Fv) (x : Fv) (ε : Ev) : kD1 f x ε = o1 ε f x.old := rfl
@[simp] theorem d1_ev (f : D → Option Fv) (da : Dn Fv) (ε : Ev) : d1 f da ε = (da ε).bind (kD1 f) := rfl
def oNK (f : List D → Option Fv) (ε : Ev) : Option (List D) → Re Fv
  | some ds => finV ε (f ds)
  | none => .no
@[simp] theorem oNK_some (f : List D → Option Fv) (ε : Ev) (ds : List D) : oNK f ε (some ds) = finV ε (f ds) := rfl
@[simp] theorem oN_ev (ε : Ev) (f : List D → Option Fv) (fs : List Fv) : oN ε f fs = oNK f ε (rds ε fs) := by
  unfold oN
  cases rds ε fs <;> rfl
def kDN (f : List D → Option Fv) (fs : List Fv) (ε : Ev) : Re Fv := oN ε f fs
@[simp] theorem kDN_ev (f : List D → Option Fv) (fs : List Fv) (ε : Ev) : kDN f fs ε = oN ε f fs := rfl
@[simp] theorem dN_ev (f : List D → Option Fv) (da : Dn (List Fv)) (ε : Ev) : dN f da ε = (da ε).bind (kDN f) := rfl
@[simp] theorem aNil_ev (ε : Ev) : aNil ε = .ok [] ε := rfl
def kACb (x : Fv) (xs : List Fv) (ε : Ev) : Re (List Fv) := .ok (x.old :: xs) ε
@[simp] theorem kACb_ev (x : Fv) (xs : List Fv) (ε : Ev) : kACb x xs ε = .ok (x.old :: xs) ε := rfl
def kACa (db : Dn (List Fv)) (x : Fv) (ε : Ev) : Re (List Fv) := (db ε).bind (kACb x)
@[simp] theorem kACa_ev (db : Dn (List Fv)) (x : Fv) (ε : Ev) : kACa db x ε = (db ε).bind (kACb x) := rfl
@[simp] theorem aCons_ev (da : Dn Fv) (db : Dn (List Fv)) (ε : Ev) : aCons da db ε = (da ε).bind (kACa db) := rfl
def mkLK : Option (List D × Ev) → Re Fv
  | some (ds, ε) => if ds.length ≤ 16000000 then .ok (.fr (.lst ds)) ε else .no
  | none => .no
def mkTK : Option (List D × Ev) → Re Fv
  | some (ds, ε) => if ds.length ≤ 16000000 then .ok (.sh (.tup ds)) ε else .no
  | none => .no
@[simp] theorem mkLK_some (ds : List D) (ε : Ev) : mkLK (some (ds, ε)) = if ds.length ≤ 16000000 then .ok (.fr (.lst ds)) ε else .no := rfl
@[simp] theorem mkTK_some (ds : List D) (ε : Ev) : mkTK (some (ds, ε)) = if ds.length ≤ 16000000 then .ok (.sh (.tup ds)) ε else .no := rfl
def kLst  (fs : List Fv) (ε : Ev) : Re Fv := mkLK (shr fs ε)
@[simp] theorem kLst_ev  (fs : List Fv) (ε : Ev) : kLst fs ε = mkLK (shr fs ε) := rfl
def kTupl  (fs : List Fv) (ε : Ev) : Re Fv := mkTK (shr fs ε)
@[simp] theorem kTupl_ev  (fs : List Fv) (ε : Ev) : kTupl fs ε = mkTK (shr fs ε) := rfl
@[simp] theorem dLst_ev (da : Dn (List Fv)) (ε : Ev) : dLst da ε = (da ε).bind kLst := by
  rfl
@[simp] theorem dTup_ev (da : Dn (List Fv)) (ε : Ev) : dTup da ε = (da ε).bind kTupl := by
  rfl
def trK2 (ε : Ev) : Option Bool → Re Bool
  | some b => .ok b ε
  | none => .no
def trK (ε : Ev) : Option D → Re Bool
  | some d => trK2 ε (tru d)
  | none => .no
@[simp] theorem trK2_some (ε : Ev) (b : Bool) : trK2 ε (some b) = .ok b ε := rfl
@[simp] theorem trK_some (ε : Ev) (d : D) : trK ε (some d) = trK2 ε (tru d) := rfl
@[simp] theorem trF_ev (fv : Fv) (ε : Ev) : trF fv ε = trK ε (rd ε fv) := by
  unfold trF
  cases rd ε fv with
  | none => rfl
  | some d => dsimp only [trK]; cases tru d <;> rfl
def kTv  (fv : Fv) (ε : Ev) : Re Bool := trF fv.old ε
@[simp] theorem kTv_ev  (fv : Fv) (ε : Ev) : kTv fv ε = trF fv.old ε := rfl
@[simp] theorem tDV_ev (de : Dn Fv) (ε : Ev) : tDV de ε = (de ε).bind kTv := rfl
def asB (fv : Fv) (ε : Ev) : Re Bool := match fv with
  | .sh (.bl b) => .ok b ε
  | _ => .no
@[simp] theorem asB_bl (b : Bool) (ε : Ev) : asB (.sh (.bl b)) ε = .ok b ε := rfl
@[simp] theorem bT_ev (d : Dn Fv) (ε : Ev) : bT d ε = (d ε).bind asB := rfl
def kNt  (b : Bool) (ε : Ev) : Re Bool := .ok (!b) ε
@[simp] theorem kNt_ev  (b : Bool) (ε : Ev) : kNt b ε = .ok (!b) ε := rfl
@[simp] theorem tDN_ev (d : Dn Bool) (ε : Ev) : tDN d ε = (d ε).bind kNt := rfl
def kTA (b : Dn Bool) (c : Bool) (ε : Ev) : Re Bool := if c = true then b ε else .ok false ε
@[simp] theorem kTA_ev (b : Dn Bool) (c : Bool) (ε : Ev) : kTA b c ε = if c = true then b ε else .ok false ε := rfl
@[simp] theorem tDA_ev (a b : Dn Bool) (ε : Ev) : tDA a b ε = (a ε).bind (kTA b) := rfl
def kTO (b : Dn Bool) (c : Bool) (ε : Ev) : Re Bool := if c = true then .ok true ε else b ε
@[simp] theorem kTO_ev (b : Dn Bool) (c : Bool) (ε : Ev) : kTO b c ε = if c = true then .ok true ε else b ε := rfl
@[simp] theorem tDO_ev (a b : Dn Bool) (ε : Ev) : tDO a b ε = (a ε).bind (kTO b) := rfl
def kEA2 (b : Dn Fv) (x : Fv) (c : Bool) (ε : Ev) : Re Fv := if c = true then b ε else .ok x ε
@[simp] theorem kEA2_ev (b : Dn Fv) (x : Fv) (c : Bool) (ε : Ev) : kEA2 b x c ε = if c = true then b ε else .ok x ε := rfl
def kEA (b : Dn Fv) (x : Fv) (ε : Ev) : Re Fv := (trF x.old ε).bind (kEA2 b x)
@[simp] theorem kEA_ev (b : Dn Fv) (x : Fv) (ε : Ev) : kEA b x ε = (trF x.old ε).bind (kEA2 b x) := rfl
@[simp] theorem eDA_ev (a b : Dn Fv) (ε : Ev) : eDA a b ε = (a ε).bind (kEA b) := rfl
def kEO2 (b : Dn Fv) (x : Fv) (c : Bool) (ε : Ev) : Re Fv := if c = true then .ok x ε else b ε
@[simp] theorem kEO2_ev (b : Dn Fv) (x : Fv) (c : Bool) (ε : Ev) : kEO2 b x c ε = if c = true then .ok x ε else b ε := rfl
def kEO (b : Dn Fv) (x : Fv) (ε : Ev) : Re Fv := (trF x.old ε).bind (kEO2 b x)
@[simp] theorem kEO_ev (b : Dn Fv) (x : Fv) (ε : Ev) : kEO b x ε = (trF x.old ε).bind (kEO2 b x) := rfl
@[simp] theorem eDO_ev (a b : Dn Fv) (ε : Ev) : eDO a b ε = (a ε).bind (kEO b) := rfl
def kEN2  (c : Bool) (ε : Ev) : Re Fv := .ok (.sh (.bl (!c))) ε
@[simp] theorem kEN2_ev  (c : Bool) (ε : Ev) : kEN2 c ε = .ok (.sh (.bl (!c))) ε := rfl
def kEN  (x : Fv) (ε : Ev) : Re Fv := (trF x.old ε).bind kEN2
@[simp] theorem kEN_ev  (x : Fv) (ε : Ev) : kEN x ε = (trF x.old ε).bind kEN2 := rfl
@[simp] theorem eDNt_ev (a : Dn Fv) (ε : Ev) : eDNt a ε = (a ε).bind kEN := rfl
def kEI (a : Dn Fv) (b : Dn Fv) (t : Bool) (ε : Ev) : Re Fv := if t = true then a ε else b ε
@[simp] theorem kEI_ev (a : Dn Fv) (b : Dn Fv) (t : Bool) (ε : Ev) : kEI a b t ε = if t = true then a ε else b ε := rfl
@[simp] theorem eDIf_ev (c : Dn Bool) (a b : Dn Fv) (ε : Ev) : eDIf c a b ε = (c ε).bind (kEI a b) := rfl
def kCh4 (g : D → D → Option Fv) (y : Fv) (w : Fv) (ε : Ev) : Re Fv := o2 ε g y.old w.old
@[simp] theorem kCh4_ev (g : D → D → Option Fv) (y : Fv) (w : Fv) (ε : Ev) : kCh4 g y w ε = o2 ε g y.old w.old := rfl
def kCh3 (g : D → D → Option Fv) (dc : Dn Fv) (y : Fv) (z : Fv) (ε : Ev) : Re Fv := match z with
  | .sh (.bl true) => (dc ε).bind (kCh4 g y)
  | .sh (.bl false) => .ok (.sh (.bl false)) ε
  | _ => .no
@[simp] theorem kCh3_bl (g : D → D → Option Fv) (dc : Dn Fv) (y : Fv) (b : Bool) (ε : Ev) : kCh3 g dc y (.sh (.bl b)) ε = if b = true then (dc ε).bind (kCh4 g y) else .ok (.sh (.bl false)) ε := by cases b <;> rfl
def kCh2 (f : D → D → Option Fv) (g : D → D → Option Fv) (dc : Dn Fv) (x : Fv) (y : Fv) (ε : Ev) : Re Fv := (o2 ε f x.old y.old).bind (kCh3 g dc y)
@[simp] theorem kCh2_ev (f : D → D → Option Fv) (g : D → D → Option Fv) (dc : Dn Fv) (x : Fv) (y : Fv) (ε : Ev) : kCh2 f g dc x y ε = (o2 ε f x.old y.old).bind (kCh3 g dc y) := rfl
def kCh1 (f : D → D → Option Fv) (g : D → D → Option Fv) (db : Dn Fv) (dc : Dn Fv) (x : Fv) (ε : Ev) : Re Fv := (db ε).bind (kCh2 f g dc x)
@[simp] theorem kCh1_ev (f : D → D → Option Fv) (g : D → D → Option Fv) (db : Dn Fv) (dc : Dn Fv) (x : Fv) (ε : Ev) : kCh1 f g db dc x ε = (db ε).bind (kCh2 f g dc x) := rfl
@[simp] theorem dChain_ev (f g : D → D → Option Fv) (da db dc : Dn Fv) (ε : Ev) : dChain f g da db dc ε = (da ε).bind (kCh1 f g db dc) := rfl
@[simp] theorem partF_none (ε : Ev) : partF none ε = .ok none ε := rfl
def asI (ε : Ev) : Option D → Re (Option Int)
  | some (.int i) => .ok (some i) ε
  | _ => .no
@[simp] theorem asI_int (i : Int) (ε : Ev) : asI ε (some (.int i)) = .ok (some i) ε := rfl
def kPt  (fv : Fv) (ε : Ev) : Re (Option Int) := asI ε (rd ε fv)
@[simp] theorem kPt_ev  (fv : Fv) (ε : Ev) : kPt fv ε = asI ε (rd ε fv) := rfl
@[simp] theorem partF_some (d : Dn Fv) (ε : Ev) : partF (some d) ε = (d ε).bind kPt := rfl
def slO (l : Option Int) (u : Option Int) (d : D) : Option Fv := slD d l u
def kSl3 (x : Fv) (l : Option Int) (u : Option Int) (ε : Ev) : Re Fv := o1 ε (slO l u) x.old
@[simp] theorem kSl3_ev (x : Fv) (l : Option Int) (u : Option Int) (ε : Ev) : kSl3 x l u ε = o1 ε (slO l u) x.old := rfl
def kSl2 (hi : Option (Dn Fv)) (x : Fv) (l : Option Int) (ε : Ev) : Re Fv := (partF hi ε).bind (kSl3 x l)
@[simp] theorem kSl2_ev (hi : Option (Dn Fv)) (x : Fv) (l : Option Int) (ε : Ev) : kSl2 hi x l ε = (partF hi ε).bind (kSl3 x l) := rfl
def kSl1 (lo : Option (Dn Fv)) (hi : Option (Dn Fv)) (x : Fv) (ε : Ev) : Re Fv := (partF lo ε).bind (kSl2 hi x)
@[simp] theorem kSl1_ev (lo : Option (Dn Fv)) (hi : Option (Dn Fv)) (x : Fv) (ε : Ev) : kSl1 lo hi x ε = (partF lo ε).bind (kSl2 hi x) := rfl
@[simp] theorem dSl_ev (de : Dn Fv) (lo hi : Option (Dn Fv)) (ε : Ev) : dSl de lo hi ε = (de ε).bind (kSl1 lo hi) := rfl
theorem slO_flz (ds : List D) (l u : Option Int) : slO l u (.flz ds) = some (.fr (.lst (cutL ds l u))) := rfl
def asS (f : List Nat → List D → Option Fv) (da : Dn (List Fv)) (ε : Ev) : Option D → Re Fv
  | some (.str l) => (da ε).bind (kDN (f l))
  | _ => .no
@[simp] theorem asS_str (f : List Nat → List D → Option Fv) (da : Dn (List Fv)) (ε : Ev) (l : List Nat) : asS f da ε (some (.str l)) = (da ε).bind (kDN (f l)) := rfl
def kMs (f : List Nat → List D → Option Fv) (da : Dn (List Fv)) (x : Fv) (ε : Ev) : Re Fv := asS f da ε (rd ε x.old)
@[simp] theorem kMs_ev (f : List Nat → List D → Option Fv) (da : Dn (List Fv)) (x : Fv) (ε : Ev) : kMs f da x ε = asS f da ε (rd ε x.old) := rfl
@[simp] theorem dMs_ev (f : List Nat → List D → Option Fv) (do_ : Dn Fv) (da : Dn (List Fv)) (ε : Ev) : dMs f do_ da ε = (do_ ε).bind (kMs f da) := rfl
def recvK (isT : D → Bool) (j : Nat) : Option D → Option Nat
  | some d => if isT d = true then some j else none
  | none => none
@[simp] theorem recvK_some (isT : D → Bool) (j : Nat) (d : D) : recvK isT j (some d) = if isT d = true then some j else none := rfl
@[simp] theorem recv_at (isT : D → Bool) (j : Nat) (ε : Ev) : recv isT (.at j) ε = recvK isT j (ε.at j) := by
  unfold recv
  dsimp only
  cases ε.at j <;> rfl
def kMut2 (f : D → List D → Option (D × D)) (da : Dn (List Fv)) (ε : Ev) : Option Nat → Re Fv
  | some j => (da ε).bind (mutF f j)
  | none => .no
@[simp] theorem kMut2_some (f : D → List D → Option (D × D)) (da : Dn (List Fv)) (ε : Ev) (j : Nat) : kMut2 f da ε (some j) = (da ε).bind (mutF f j) := rfl
def kMut (isT : D → Bool) (f : D → List D → Option (D × D)) (da : Dn (List Fv)) (x : Fv) (ε : Ev) : Re Fv := kMut2 f da ε (recv isT x ε)
@[simp] theorem kMut_ev (isT : D → Bool) (f : D → List D → Option (D × D)) (da : Dn (List Fv)) (x : Fv) (ε : Ev) : kMut isT f da x ε = kMut2 f da ε (recv isT x ε) := rfl
@[simp] theorem dMut_ev (isT : D → Bool) (f : D → List D → Option (D × D)) (do_ : Dn Fv) (da : Dn (List Fv)) (ε : Ev) : dMut isT f do_ da ε = (do_ ε).bind (kMut isT f da) := by
  rfl
@[simp] theorem isLst_lst (ds : List D) : isLst (.lst ds) = true := rfl
/-! calls -/
abbrev Pa := List D × List Nat × Ev
def consP (d : D) : Option Pa → Option Pa
  | some (ds, js, ε) => some (d :: ds, js, ε)
  | none => none
@[simp] theorem consP_some (d : D) (ds : List D) (js : List Nat) (ε : Ev) : consP d (some (ds, js, ε)) = some (d :: ds, js, ε) := rfl
def passK (m : List Bool) (fs : List Fv) : Option (D × Ev) → Option Pa
  | some (d, ε) => consP d (passA m fs ε)
  | none => none
@[simp] theorem passK_some (m : List Bool) (fs : List Fv) (d : D) (ε : Ev) : passK m fs (some (d, ε)) = consP d (passA m fs ε) := rfl
def passI2 (j : Nat) (ds : List D) (js : List Nat) (ε : Ev) : Option D → Option Pa
  | some d => if j ∈ js then none else some (d :: ds, j :: js, ε)
  | none => none
@[simp] theorem passI2_some (j : Nat) (ds : List D) (js : List Nat) (ε : Ev) (d : D) : passI2 j ds js ε (some d) = if j ∈ js then none else some (d :: ds, j :: js, ε) := rfl
def passI (j : Nat) : Option Pa → Option Pa
  | some (ds, js, ε) => passI2 j ds js ε (getM ε j)
  | none => none
@[simp] theorem passI_some (j : Nat) (ds : List D) (js : List Nat) (ε : Ev) : passI j (some (ds, js, ε)) = passI2 j ds js ε (getM ε j) := rfl
@[simp] theorem passA_nil (ε : Ev) : passA [] [] ε = some ([], [], ε) := rfl
@[simp] theorem passA_sh (m : List Bool) (d : D) (fs : List Fv) (ε : Ev) : passA (false :: m) (.sh d :: fs) ε = consP d (passA m fs ε) := by
  conv => lhs; unfold passA
  cases passA m fs ε <;> rfl
@[simp] theorem passA_at (m : List Bool) (j : Nat) (fs : List Fv) (ε : Ev) : passA (false :: m) (.at j :: fs) ε = passK m fs (resJ ε j) := by
  conv => lhs; unfold passA
  unfold resJ
  cases ε[j]? with
  | none => rfl
  | some t =>
    cases t with
    | no => rfl
    | io d => rfl
    | sh d => dsimp only [passK]; cases passA m fs ε <;> rfl
    | ow d => dsimp only [passK]; cases passA m fs (ε.set j (.sh d)) <;> rfl
@[simp] theorem passA_io (m : List Bool) (j : Nat) (fs : List Fv) (ε : Ev) : passA (true :: m) (.at j :: fs) ε = passI j (passA m fs ε) := by
  conv => lhs; unfold passA
  cases passA m fs ε with
  | none => rfl
  | some r =>
    obtain ⟨ds, js, ε1⟩ := r
    simp only [Option.bind_some, passI]
    unfold getM
    cases ε1[j]? with
    | none => rfl
    | some t => cases t <;> rfl
def endR (js : List Nat) (ε : Ev) : Rf → Re Fv
  | .ok r outs => .ok r (putIo ε js outs)
  | .exc x outs => .exc x (putIo ε js outs)
  | .no => .no
@[simp] theorem endR_ok (r : Fv) (outs : List D) (js : List Nat) (ε : Ev) : endR js ε (.ok r outs) = .ok r (putIo ε js outs) := rfl
@[simp] theorem endR_exc (x : Xc) (outs : List D) (js : List Nat) (ε : Ev) : endR js ε (.exc x outs) = .exc x (putIo ε js outs) := rfl
def callK (f : List D → Rf) : Option Pa → Re Fv
  | some (ds, js, ε) => endR js ε (f ds)
  | none => .no
@[simp] theorem callK_some (f : List D → Rf) (ds : List D) (js : List Nat) (ε : Ev) : callK f (some (ds, js, ε)) = endR js ε (f ds) := rfl
@[simp] theorem callF_ev (mask : List Bool) (f : List D → Rf) (fs : List Fv) (ε : Ev) : callF mask f fs ε = callK f (passA mask fs ε) := by
  unfold callF
  cases passA mask fs ε with
  | none => rfl
  | some r => obtain ⟨ds, js, ε1⟩ := r; dsimp only [callK]; cases f ds <;> rfl
@[simp] theorem dCall_ev (mask : List Bool) (f : List D → Rf) (da : Dn (List Fv)) (ε : Ev) : dCall mask f da ε = (da ε).bind (callF mask f) := rfl
def kCK2 (n : Nat) (m : Nat) (idx : List Nat) (mask : List Bool) (f : List D → Rf) (fs : List Fv) (gs : List Fv) (ε : Ev) : Re Fv := callF mask f (kperm n m idx fs gs) ε
@[simp] theorem kCK2_ev (n : Nat) (m : Nat) (idx : List Nat) (mask : List Bool) (f : List D → Rf) (fs : List Fv) (gs : List Fv) (ε : Ev) : kCK2 n m idx mask f fs gs ε = callF mask f (kperm n m idx fs gs) ε := rfl
def kCK1 (n : Nat) (m : Nat) (idx : List Nat) (mask : List Bool) (f : List D → Rf) (dk : Dn (List Fv)) (fs : List Fv) (ε : Ev) : Re Fv := (dk ε).bind (kCK2 n m idx mask f fs)
@[simp] theorem kCK1_ev (n : Nat) (m : Nat) (idx : List Nat) (mask : List Bool) (f : List D → Rf) (dk : Dn (List Fv)) (fs : List Fv) (ε : Ev) : kCK1 n m idx mask f dk fs ε = (dk ε).bind (kCK2 n m idx mask f fs) := rfl
@[simp] theorem dCallK_ev (n m : Nat) (idx : List Nat) (mask : List Bool) (den : List D → Rf) (da dk : Dn (List Fv)) (ε : Ev) : dCallK n m idx mask den da dk ε = (da ε).bind (kCK1 n m idx mask den dk) := rfl
@[simp] theorem putIo_n (ε : Ev) : putIo ε [] [] = ε := rfl
@[simp] theorem putIo_c (ε : Ev) (j : Nat) (js : List Nat) (d : D) (ds : List D) : putIo ε (j :: js) (d :: ds) = putIo (setM ε j d) js ds := rfl
/-! statements -/
@[simp] theorem thenF_nx (k : Dn Fl) (ε : Ev) : thenF k .nx ε = k ε := rfl
@[simp] theorem thenF_rt (k : Dn Fl) (v : Fv) (ε : Ev) : thenF k (.rt v) ε = .ok (.rt v) ε := rfl
@[simp] theorem thenF_bk (k : Dn Fl) (ε : Ev) : thenF k .bk ε = .ok .bk ε := rfl
@[simp] theorem thenF_ct (k : Dn Fl) (ε : Ev) : thenF k .ct ε = .ok .ct ε := rfl
@[simp] theorem bDC_ev (a b : Dn Fl) (ε : Ev) : bDC a b ε = (a ε).bind (thenF b) := rfl
@[simp] theorem bDN_ev (ε : Ev) : bDN ε = .ok .nx ε := rfl
def kIf (a : Dn Fl) (b : Dn Fl) (t : Bool) (ε : Ev) : Re Fl := if t = true then a ε else b ε
@[simp] theorem kIf_ev (a : Dn Fl) (b : Dn Fl) (t : Bool) (ε : Ev) : kIf a b t ε = if t = true then a ε else b ε := rfl
@[simp] theorem sDIf_ev (c : Dn Bool) (a b : Dn Fl) (ε : Ev) : sDIf c a b ε = (c ε).bind (kIf a b) := rfl
def nxO : Option Ev → Re Fl
  | some ε => .ok .nx ε
  | none => .no
@[simp] theorem nxO_some (ε : Ev) : nxO (some ε) = .ok .nx ε := rfl
def kSet (i : Nat) (fv : Fv) (ε : Ev) : Re Fl := nxO (setS ε i fv)
@[simp] theorem kSet_ev (i : Nat) (fv : Fv) (ε : Ev) : kSet i fv ε = nxO (setS ε i fv) := rfl
@[simp] theorem sDSet_ev (i : Nat) (de : Dn Fv) (ε : Ev) : sDSet i de ε = (de ε).bind (kSet i) := by
  rfl
def kX  (fv : Fv) (ε : Ev) : Re Fl := .ok .nx ε
@[simp] theorem kX_ev  (fv : Fv) (ε : Ev) : kX fv ε = .ok .nx ε := rfl
@[simp] theorem sDX_ev (de : Dn Fv) (ε : Ev) : sDX de ε = (de ε).bind kX := rfl
def leaveJ (ε : Ev) (j : Nat) : Option (Fl × Ev) := match ε[j]? with
  | some (.sh d) => some (.rt (.sh d), ε)
  | some (.ow d) => some (.rt (.fr d), ε.set j .no)
  | _ => none
def consL (s : Sl) : Option (Fl × Ev) → Option (Fl × Ev)
  | some (f, ε) => some (f, s :: ε)
  | none => none
@[simp] theorem consL_some (s : Sl) (f : Fl) (ε : Ev) : consL s (some (f, ε)) = some (f, s :: ε) := rfl
@[simp] theorem leaveJ_sh (d : D) (ε : Ev) : leaveJ (.sh d :: ε) 0 = some (.rt (.sh d), .sh d :: ε) := rfl
@[simp] theorem leaveJ_ow (d : D) (ε : Ev) : leaveJ (.ow d :: ε) 0 = some (.rt (.fr d), .no :: ε) := rfl
@[simp] theorem leaveJ_s (s : Sl) (ε : Ev) (j : Nat) : leaveJ (s :: ε) (j + 1) = consL s (leaveJ ε j) := by
  unfold leaveJ
  rw [List.getElem?_cons_succ]
  cases ε[j]? with
  | none => rfl
  | some t => cases t <;> rfl
def flO : Option (Fl × Ev) → Re Fl
  | some (f, ε) => .ok f ε
  | none => .no
@[simp] theorem flO_some (f : Fl) (ε : Ev) : flO (some (f, ε)) = .ok f ε := rfl
@[simp] theorem retF_at (j : Nat) (ε : Ev) : retF ε (.at j) = flO (leaveJ ε j) := by
  unfold retF leaveJ
  dsimp only
  cases ε[j]? with
  | none => rfl
  | some t => cases t <;> rfl
@[simp] theorem retF_sh (d : D) (ε : Ev) : retF ε (.sh d) = .ok (.rt (.sh d)) ε := rfl
@[simp] theorem retF_fr (d : D) (ε : Ev) : retF ε (.fr d) = .ok (.rt (.fr d)) ε := rfl
def kRet  (fv : Fv) (ε : Ev) : Re Fl := retF ε fv
@[simp] theorem kRet_ev  (fv : Fv) (ε : Ev) : kRet fv ε = retF ε fv := rfl
@[simp] theorem sDR_ev (de : Dn Fv) (ε : Ev) : sDR de ε = (de ε).bind kRet := rfl
@[simp] theorem sDRN_ev (ε : Ev) : sDRN ε = .ok (.rt (.sh .non)) ε := rfl
def shO : Option (D × Ev) → Re Fv
  | some (d, ε) => .ok (.sh d) ε
  | none => .no
@[simp] theorem shO_some (d : D) (ε : Ev) : shO (some (d, ε)) = .ok (.sh d) ε := rfl
@[simp] theorem resF_at (j : Nat) (ε : Ev) : resF (.at j) ε = shO (resJ ε j) := by
  unfold resF resJ
  dsimp only
  cases ε[j]? with
  | none => rfl
  | some t => cases t <;> rfl
@[simp] theorem resF_sh (d : D) (ε : Ev) : resF (.sh d) ε = .ok (.sh d) ε := rfl
@[simp] theorem resF_fr (d : D) (ε : Ev) : resF (.fr d) ε = .ok (.fr d) ε := rfl
@[simp] theorem afN_ev (ε : Ev) : afN ε = .ok [] ε := rfl
def kAF3 (x : Fv) (xs : List Fv) (ε : Ev) : Re (List Fv) := .ok (x :: xs) ε
@[simp] theorem kAF3_ev (x : Fv) (xs : List Fv) (ε : Ev) : kAF3 x xs ε = .ok (x :: xs) ε := rfl
def kAF2 (db : Dn (List Fv)) (x : Fv) (ε : Ev) : Re (List Fv) := (db ε).bind (kAF3 x)
@[simp] theorem kAF2_ev (db : Dn (List Fv)) (x : Fv) (ε : Ev) : kAF2 db x ε = (db ε).bind (kAF3 x) := rfl
def kAF1 (db : Dn (List Fv)) (x : Fv) (ε : Ev) : Re (List Fv) := (resF x ε).bind (kAF2 db)
@[simp] theorem kAF1_ev (db : Dn (List Fv)) (x : Fv) (ε : Ev) : kAF1 db x ε = (resF x ε).bind (kAF2 db) := rfl
@[simp] theorem afC_ev (da : Dn Fv) (db : Dn (List Fv)) (ε : Ev) : afC da db ε = (da ε).bind (kAF1 db) := rfl
def setLK (is : List Nat) (fs : List Fv) : Option Ev → Option Ev
  | some ε => setL ε is fs
  | none => none
@[simp] theorem setLK_some (is : List Nat) (fs : List Fv) (ε : Ev) : setLK is fs (some ε) = setL ε is fs := rfl
@[simp] theorem setL_n (ε : Ev) : setL ε [] [] = some ε := rfl
@[simp] theorem setL_c (ε : Ev) (i : Nat) (is : List Nat) (f : Fv) (fs : List Fv) : setL ε (i :: is) (f :: fs) = setLK is fs (setS ε i f) := by
  conv => lhs; unfold setL
  cases setS ε i f <;> rfl
def kPar (is : List Nat) (fs : List Fv) (ε : Ev) : Re Fl := nxO (setL ε is fs)
@[simp] theorem kPar_ev (is : List Nat) (fs : List Fv) (ε : Ev) : kPar is fs ε = nxO (setL ε is fs) := rfl
@[simp] theorem sDPar_ev (is : List Nat) (da : Dn (List Fv)) (ε : Ev) : sDPar is da ε = (da ε).bind (kPar is) := by
  rfl
@[simp] theorem tgN_ev (i : Nat) (d : D) (ε : Ev) : tgN i d ε = setS ε i (.sh d) := rfl
@[simp] theorem tgsN_ev (ε : Ev) : tgsN [] ε = some ε := rfl
def tgK (gs : List D → Ev → Option Ev) (ds : List D) : Option Ev → Option Ev
  | some ε => gs ds ε
  | none => none
@[simp] theorem tgK_some (gs : List D → Ev → Option Ev) (ds : List D) (ε : Ev) : tgK gs ds (some ε) = gs ds ε := rfl
@[simp] theorem tgsC_ev (g : Tg) (gs : List D → Ev → Option Ev) (d : D) (ds : List D) (ε : Ev) : tgsC g gs (d :: ds) ε = tgK gs ds (g d ε) := by
  unfold tgsC
  dsimp only
  cases g d ε <;> rfl
@[simp] theorem tgT_ev (n : Nat) (gs : List D → Ev → Option Ev) (ds : List D) (ε : Ev) : tgT n gs (.tup ds) ε = if ds.length = n then gs ds ε else none := rfl
def asgF (g : Tg) (fv : Fv) (ε : Ev) : Re Fl := match fv with
  | .sh d => nxO (g d ε)
  | .fr d => nxO (g d ε)
  | .at j => match ε[j]? with
    | some (.sh d) => nxO (g d ε)
    | _ => .no
@[simp] theorem asgF_sh (g : Tg) (d : D) (ε : Ev) : asgF g (.sh d) ε = nxO (g d ε) := rfl
@[simp] theorem asgF_fr (g : Tg) (d : D) (ε : Ev) : asgF g (.fr d) ε = nxO (g d ε) := rfl
def asgJ (g : Tg) (ε : Ev) : Option Sl → Re Fl
  | some (.sh d) => nxO (g d ε)
  | _ => .no
@[simp] theorem asgJ_sh (g : Tg) (ε : Ev) (d : D) : asgJ g ε (some (.sh d)) = nxO (g d ε) := rfl
@[simp] theorem asgF_at (g : Tg) (j : Nat) (ε : Ev) : asgF g (.at j) ε = asgJ g ε ε[j]? := by
  unfold asgF asgJ
  rfl
@[simp] theorem sDAsg_ev (de : Dn Fv) (g : Tg) (ε : Ev) : sDAsg de g ε = (de ε).bind (asgF g) := by
  rfl
def kPut3  (x : Fv) (ε : Ev) : Re Fl := .ok .nx ε
@[simp] theorem kPut3_ev  (x : Fv) (ε : Ev) : kPut3 x ε = .ok .nx ε := rfl
def kPut2 (v : Fv) (j : Nat) (y : Fv) (ε : Ev) : Re Fl := (mutF setD j [v.old, y.old] ε).bind kPut3
@[simp] theorem kPut2_ev (v : Fv) (j : Nat) (y : Fv) (ε : Ev) : kPut2 v j y ε = (mutF setD j [v.old, y.old] ε).bind kPut3 := rfl
def kPut1 (dk : Dn Fv) (v : Fv) (x : Fv) (ε : Ev) : Re Fl := match x with
  | .at j => (dk ε).bind (kPut2 v j)
  | _ => .no
@[simp] theorem kPut1_at (dk : Dn Fv) (v : Fv) (j : Nat) (ε : Ev) : kPut1 dk v (.at j) ε = (dk ε).bind (kPut2 v j) := rfl
def kPut0 (do_ : Dn Fv) (dk : Dn Fv) (v : Fv) (ε : Ev) : Re Fl := (do_ ε).bind (kPut1 dk v)
@[simp] theorem kPut0_ev (do_ : Dn Fv) (dk : Dn Fv) (v : Fv) (ε : Ev) : kPut0 do_ dk v ε = (do_ ε).bind (kPut1 dk v) := rfl
@[simp] theorem sDDput_ev (do_ dk dv : Dn Fv) (ε : Ev) : sDDput do_ dk dv ε = (dv ε).bind (kPut0 do_ dk) := rfl
def kAug3 (i : Nat) (z : Fv) (ε : Ev) : Re Fl := nxO (setS ε i z.old)
@[simp] theorem kAug3_ev (i : Nat) (z : Fv) (ε : Ev) : kAug3 i z ε = nxO (setS ε i z.old) := rfl
def kAug2 (i : Nat) (f : D → D → Option Fv) (d : D) (ε : Ev) : Option D → Re Fl
  | some e => (finV ε (f d e)).bind (kAug3 i)
  | none => .no
@[simp] theorem kAug2_some (i : Nat) (f : D → D → Option Fv) (d : D) (ε : Ev) (e : D) : kAug2 i f d ε (some e) = (finV ε (f d e)).bind (kAug3 i) := rfl
def kAug1 (i : Nat) (f : D → D → Option Fv) (d : D) (fv : Fv) (ε : Ev) : Re Fl := kAug2 i f d ε (rd ε fv.old)
@[simp] theorem kAug1_ev (i : Nat) (f : D → D → Option Fv) (d : D) (fv : Fv) (ε : Ev) : kAug1 i f d fv ε = kAug2 i f d ε (rd ε fv.old) := rfl
def kAug0 (i : Nat) (f : D → D → Option Fv) (de : Dn Fv) (ε : Ev) : Option Sl → Re Fl
  | some (.sh d) => (de ε).bind (kAug1 i f d)
  | _ => .no
@[simp] theorem kAug0_sh (i : Nat) (f : D → D → Option Fv) (de : Dn Fv) (ε : Ev) (d : D) : kAug0 i f de ε (some (.sh d)) = (de ε).bind (kAug1 i f d) := rfl
theorem sDAug_ev (i : Nat) (f : D → D → Option Fv) (hf : ∀ d e z, f d e ≠ some (.fr z)) (de : Dn Fv) (ε : Ev) : sDAug i f de ε = kAug0 i f de ε ε[i]? := by
  unfold sDAug kAug0
  cases ε[i]? with
  | none => rfl
  | some s =>
    cases s with
    | sh d =>
      dsimp only
      congr 1
      funext fv ε1
      unfold kAug1 kAug2
      cases rd ε1 fv.old with
      | none => rfl
      | some e =>
        dsimp only
        cases q : f d e with
        | none => rfl
        | some z =>
          cases z with
          | sh z => dsimp only [finV, kAug3, bind_ok, Fv.old]; cases setS ε1 i (.sh z) <;> rfl
          | fr z => exact absurd q (hf d e z)
          | «at» z => rfl
    | _ => rfl
@[simp] theorem augAdd_ev (i : Nat) (de : Dn Fv) (ε : Ev) : sDAug i augD de ε = kAug0 i augD de ε ε[i]? := sDAug_ev i _ (fun d e z h => by
  unfold augD at h
  split at h
  · cases h
  · split at h <;> cases h
  · cases h) de ε
@[simp] theorem augSub_ev (i : Nat) (de : Dn Fv) (ε : Ev) : sDAug i augSubD de ε = kAug0 i augSubD de ε ε[i]? := sDAug_ev i _ (fun d e z h => by
  unfold augSubD at h
  split at h <;> cases h) de ε
def kFor (g : Tg) (b : Dn Fl) (ds : List D) (ε : Ev) : Re Fl := forD g b ds ε
@[simp] theorem kFor_ev (g : Tg) (b : Dn Fl) (ds : List D) (ε : Ev) : kFor g b ds ε = forD g b ds ε := rfl
@[simp] theorem sDF_ev (di : Dn (List D)) (g : Tg) (b : Dn Fl) (ε : Ev) : sDF di g b ε = (di ε).bind (kFor g b) := rfl
@[simp] theorem forD_nil (g : Tg) (b : Dn Fl) (ε : Ev) : forD g b [] ε = .ok .nx ε := rfl
@[simp] theorem loopF_nx (k : Dn Fl) (ε : Ev) : loopF k .nx ε = k ε := rfl
@[simp] theorem loopF_ct (k : Dn Fl) (ε : Ev) : loopF k .ct ε = k ε := rfl
@[simp] theorem loopF_bk (k : Dn Fl) (ε : Ev) : loopF k .bk ε = .ok .nx ε := rfl
@[simp] theorem loopF_rt (k : Dn Fl) (v : Fv) (ε : Ev) : loopF k (.rt v) ε = .ok (.rt v) ε := rfl
def forK (g : Tg) (b : Dn Fl) (ds : List D) : Option Ev → Re Fl
  | some ε => (b ε).bind (loopF (forD g b ds))
  | none => .no
@[simp] theorem forK_some (g : Tg) (b : Dn Fl) (ds : List D) (ε : Ev) : forK g b ds (some ε) = (b ε).bind (loopF (forD g b ds)) := rfl
theorem forD_cons (g : Tg) (b : Dn Fl) (d : D) (ds : List D) (ε : Ev) : forD g b (d :: ds) ε = forK g b ds (g d ε) := by
  conv => lhs; unfold forD
  cases g d ε <;> rfl
def itF : Option (List D × Ev) → Re (List D)
  | some ([.lst ds], ε') => .ok ds ε'
  | some ([.tup ds], ε') => .ok ds ε'
  | some ([.str l], ε') => .ok (chrsD l) ε'
  | _ => .no
@[simp] theorem itF_lst (ds : List D) (ε : Ev) : itF (some ([.lst ds], ε)) = .ok ds ε := rfl
@[simp] theorem itF_tup (ds : List D) (ε : Ev) : itF (some ([.tup ds], ε)) = .ok ds ε := rfl
@[simp] theorem itF_str (l : List Nat) (ε : Ev) : itF (some ([.str l], ε)) = .ok (chrsD l) ε := rfl
def kIt  (fv : Fv) (ε : Ev) : Re (List D) := itF (shr [fv.old] ε)
@[simp] theorem kIt_ev  (fv : Fv) (ε : Ev) : kIt fv ε = itF (shr [fv.old] ε) := rfl
@[simp] theorem dI_ev (de : Dn Fv) (ε : Ev) : dI de ε = (de ε).bind kIt := rfl
def rgF1 (ε : Ev) : Option (List D) → Re (List D)
  | some [.int j] => if -(2 ^ 62) ≤ j ∧ j < 2 ^ 62 then .ok (rngD 0 j.toNat) ε else .no
  | _ => .no
@[simp] theorem rgF1_int (j : Int) (ε : Ev) : rgF1 ε (some [.int j]) = if -(2 ^ 62) ≤ j ∧ j < 2 ^ 62 then .ok (rngD 0 j.toNat) ε else .no := rfl
@[simp] theorem rng1_ev (fs : List Fv) (ε : Ev) : rng1 fs ε = rgF1 ε (rds ε fs) := rfl
def rgF2 (ε : Ev) : Option (List D) → Re (List D)
  | some [.int i, .int j] => if -(2 ^ 62) ≤ i ∧ i < 2 ^ 62 ∧ -(2 ^ 62) ≤ j ∧ j < 2 ^ 62 then .ok (rngD i (j - i).toNat) ε else .no
  | _ => .no
@[simp] theorem rgF2_int (i j : Int) (ε : Ev) : rgF2 ε (some [.int i, .int j]) = if -(2 ^ 62) ≤ i ∧ i < 2 ^ 62 ∧ -(2 ^ 62) ≤ j ∧ j < 2 ^ 62 then .ok (rngD i (j - i).toNat) ε else .no := rfl
@[simp] theorem rng2_ev (fs : List Fv) (ε : Ev) : rng2 fs ε = rgF2 ε (rds ε fs) := rfl
def enF : Option (List D × Ev) → Re (List D)
  | some ([.lst ds], ε') => .ok (enumD ds) ε'
  | some ([.str l], ε') => .ok (enumD (chrsD l)) ε'
  | _ => .no
@[simp] theorem enF_lst (ds : List D) (ε : Ev) : enF (some ([.lst ds], ε)) = .ok (enumD ds) ε := rfl
@[simp] theorem enF_str (l : List Nat) (ε : Ev) : enF (some ([.str l], ε)) = .ok (enumD (chrsD l)) ε := rfl
@[simp] theorem enumF_ev (fs : List Fv) (ε : Ev) : enumF fs ε = enF (shr fs ε) := rfl
def lrF (ε : Ev) : Option D → Re Fv
  | some (.int n) => if -(2 ^ 62) ≤ n ∧ n ≤ 16000000 then .ok (.fr (.lst (rngD 0 n.toNat))) ε else .no
  | _ => .no
@[simp] theorem lrF_int (n : Int) (ε : Ev) : lrF ε (some (.int n)) = if -(2 ^ 62) ≤ n ∧ n ≤ 16000000 then .ok (.fr (.lst (rngD 0 n.toNat))) ε else .no := rfl
@[simp] theorem lrng1_ev (fv : Fv) (ε : Ev) : lrng1 fv ε = lrF ε (rd ε fv) := rfl
/-! a def -/
@[simp] theorem startE_n : startE [] [] = [] := rfl
@[simp] theorem startE_t (m : List Bool) (d : D) (ds : List D) : startE (true :: m) (d :: ds) = .io d :: startE m ds := rfl
@[simp] theorem startE_f (m : List Bool) (d : D) (ds : List D) : startE (false :: m) (d :: ds) = .sh d :: startE m ds := rfl
def consOut (d : D) : Option (List D) → Option (List D)
  | some r => some (d :: r)
  | none => none
@[simp] theorem consOut_some (d : D) (r : List D) : consOut d (some r) = some (d :: r) := rfl
@[simp] theorem outsE_n (ε : Ev) : outsE [] ε = some [] := rfl
@[simp] theorem outsE_t (m : List Bool) (d : D) (ε : Ev) : outsE (true :: m) (.io d :: ε) = consOut d (outsE m ε) := by
  conv => lhs; unfold outsE
  cases outsE m ε <;> rfl
@[simp] theorem outsE_f (m : List Bool) (s : Sl) (ε : Ev) : outsE (false :: m) (s :: ε) = outsE m ε := rfl
def excO (x : Xc) : Option (List D) → Rf
  | some outs => .exc x outs
  | none => .no
def endO (r : Fv) : Option (List D) → Rf
  | some outs => .ok r outs
  | none => .no
@[simp] theorem endO_some (outs : List D) (r : Fv) : endO r (some outs) = .ok r outs := rfl
@[simp] theorem excO_some (outs : List D) (x : Xc) : excO x (some outs) = .exc x outs := rfl
def fnE (mask : List Bool) : Re Fl → Rf
  | .ok fl ε => endF mask fl ε
  | .exc x ε => excO x (outsE mask ε)
  | .no => .no
@[simp] theorem fnE_exc (mask : List Bool) (x : Xc) (ε : Ev) : fnE mask (.exc x ε) = excO x (outsE mask ε) := rfl
@[simp] theorem fnE_nx (mask : List Bool) (ε : Ev) : fnE mask (.ok .nx ε) = endO (.sh .non) (outsE mask ε) := by
  unfold fnE endF endO
  dsimp only
  all_goals (cases outsE mask ε <;> rfl)
@[simp] theorem fnE_sh (mask : List Bool) (d : D) (ε : Ev) : fnE mask (.ok (.rt (.sh d)) ε) = endO (.sh d) (outsE mask ε) := by
  unfold fnE endF endO
  dsimp only
  all_goals (cases outsE mask ε <;> rfl)
@[simp] theorem fnE_fr (mask : List Bool) (d : D) (ε : Ev) : fnE mask (.ok (.rt (.fr d)) ε) = endO (.fr d) (outsE mask ε) := by
  unfold fnE endF endO
  dsimp only
  all_goals (cases outsE mask ε <;> rfl)
theorem body_ev (mask : List Bool) (n : Nat) (den : Dn Fl) (ds : List D) : bodyF mask n den ds = fnE mask (den (startE mask ds ++ List.replicate (n - mask.length) .no)) := by
  unfold bodyF fnE excO
  rfl
end
end PL
/-! PXE: evaluation of raise, catch, zip -/
namespace PL
open PySem PySem.Spec PyProof.Rows L2 AB
open TL (tl)
@[simp] theorem zpF_lst (xs ys : List D) (ε : Ev) : zpF (some ([.lst xs, .lst ys], ε)) = .ok (zipD xs ys) ε := rfl
@[simp] theorem zpF_tup (xs ys : List D) (ε : Ev) : zpF (some ([.tup xs, .tup ys], ε)) = .ok (zipD xs ys) ε := rfl
@[simp] theorem zipF_ev (fs : List Fv) (ε : Ev) : zipF fs ε = zpF (shr fs ε) := rfl
@[simp] theorem enF3_lst (ds : List D) (ε : Ev) : enF3 (some ([.lst ds], ε)) = .ok (enumD ds) ε := rfl
@[simp] theorem enF3_tup (ds : List D) (ε : Ev) : enF3 (some ([.tup ds], ε)) = .ok (enumD ds) ε := rfl
@[simp] theorem enF3_str (l : List Nat) (ε : Ev) : enF3 (some ([.str l], ε)) = .ok (enumD (chrsD l)) ε := rfl
@[simp] theorem enumF3_ev (fs : List Fv) (ε : Ev) : enumF3 fs ε = enF3 (shr fs ε) := rfl
def kCD (mask : List Bool) (f : List D → Rf) (v : Int) (fs : List Fv) (ε : Ev) : Re Fv := callF mask f (fs ++ [.sh (.int v)]) ε
@[simp] theorem kCD_ev (mask : List Bool) (f : List D → Rf) (v : Int) (fs : List Fv) (ε : Ev) : kCD mask f v fs ε = callF mask f (fs ++ [.sh (.int v)]) ε := rfl
@[simp] theorem dCallD_ev (mask : List Bool) (f : List D → Rf) (v : Int) (da : Dn (List Fv)) (ε : Ev) : dCallD mask f v da ε = (da ε).bind (kCD mask f v) := rfl
def cr3 (ε : Ev) : Rf → Re Fv
  | .ok (.sh d) [] => if flatD d = true then .ok (.sh d) ε else .no
  | .exc x [] => if x.fs.all (fun p => flatD p.2) = true then .exc x ε else .no
  | _ => .no
@[simp] theorem cr3_ok (d : D) (ε : Ev) : cr3 ε (.ok (.sh d) []) = if flatD d = true then .ok (.sh d) ε else .no := rfl
@[simp] theorem cr3_exc (x : Xc) (ε : Ev) : cr3 ε (.exc x []) = if x.fs.all (fun p => flatD p.2) = true then .exc x ε else .no := rfl
@[simp] theorem callRk_some (m : Nat) (f : List D → Rf) (ε : Ev) (ds : List D) : callRk m f ε (some ds) = if ds.length = m ∧ ds.all noIns = true then cr3 ε (f ds) else .no := by
  show (if _ then _ else _) = _
  split
  · unfold cr3
    cases f ds with
    | no => rfl
    | exc x o => cases o <;> rfl
    | ok r o => cases r <;> cases o <;> rfl
  · rfl
@[simp] theorem callRF_ev (m : Nat) (f : List D → Rf) (fs : List Fv) (ε : Ev) : callRF m f fs ε = callRk m f ε (rds ε fs) := rfl
@[simp] theorem dCallR_ev (m : Nat) (f : List D → Rf) (da : Dn (List Fv)) (ε : Ev) : dCallR m f da ε = (da ε).bind (callRF m f) := rfl
@[simp] theorem flatD_non : flatD .non = true := rfl
@[simp] theorem flatD_bl (b : Bool) : flatD (.bl b) = true := rfl
@[simp] theorem flatD_int (i : Int) : flatD (.int i) = true := rfl
@[simp] theorem flatD_str (l : List Nat) : flatD (.str l) = true := rfl
@[simp] theorem noIns_lst (l : List D) : noIns (.lst l) = true := rfl
@[simp] theorem noIns_tup (l : List D) : noIns (.tup l) = true := rfl
@[simp] theorem noIns_str (l : List Nat) : noIns (.str l) = true := rfl
@[simp] theorem noIns_int (i : Int) : noIns (.int i) = true := rfl
@[simp] theorem noIns_bl (b : Bool) : noIns (.bl b) = true := rfl
@[simp] theorem noIns_non : noIns .non = true := rfl
@[simp] theorem noIns_dct (l : List (Key × D)) : noIns (.dct l) = true := rfl
def rsF (x : Str) (fs : List Str) : Option (List D × Ev) → Re Fl
  | some (ds, ε') => if ds.length = fs.length then .exc ⟨x, fs.zip ds⟩ ε' else .no
  | none => .no
@[simp] theorem rsF_some (x : Str) (fs : List Str) (ds : List D) (ε : Ev) : rsF x fs (some (ds, ε)) = if ds.length = fs.length then .exc ⟨x, fs.zip ds⟩ ε else .no := rfl
@[simp] theorem raiseF_ev (x : Str) (fs : List Str) (vs : List Fv) (ε : Ev) : raiseF x fs vs ε = rsF x fs (shr vs ε) := by
  unfold raiseF rsF
  cases shr vs ε with
  | none => rfl
  | some r => rfl
@[simp] theorem sDRaise_ev (x : Str) (fs : List Str) (da : Dn (List Fv)) (ε : Ev) : sDRaise x fs da ε = (da ε).bind (raiseF x fs) := rfl
def ctO (wrap : D → D) : Option (List D × Ev) → Re Fv
  | some ([d], ε2) => .ok (.sh (wrap d)) ε2
  | _ => .no
@[simp] theorem ctO_some (wrap : D → D) (d : D) (ε : Ev) : ctO wrap (some ([d], ε)) = .ok (.sh (wrap d)) ε := rfl
def ctE (ε : Ev) : Option D → Re Fv
  | some d => .ok (.sh d) ε
  | none => .no
@[simp] theorem ctE_some (d : D) (ε : Ev) : ctE ε (some d) = .ok (.sh d) ε := rfl
@[simp] theorem catR_ok (hd : Xc → Option D) (wrap : D → D) (fv : Fv) (ε : Ev) : catR hd wrap (.ok fv ε) = ctO wrap (shr [fv.old] ε) := by
  show catO wrap fv ε = _
  unfold catO ctO
  rfl
@[simp] theorem catR_exc (hd : Xc → Option D) (wrap : D → D) (x : Xc) (ε : Ev) : catR hd wrap (.exc x ε) = ctE ε (hd x) := by
  show catE hd x ε = _
  unfold catE ctE
  rfl
@[simp] theorem dCatch_ev (hd : Xc → Option D) (wrap : D → D) (den : Dn Fv) (ε : Ev) : dCatch hd wrap den ε = catR hd wrap (den ε) := rfl
end PL
/-! PM0: objects of an own class, made -/
namespace PL
open PySem PySem.Spec PyProof.Rows L2 AB
open TL (tl)
section
variable {G : Gx} {X : Cx} {W : WX} {C : Fr} {σ : L2.St} {ε : Ev} {H H' : Hp} {F : Addr → Prop} {k : Nat}
section
variable {j : Nat} {f Ca : Addr} {fd : FuncData} {ps : List Str} {mask : List Bool} {den : List D → Rf} {x : Str} {p pos : Pos} {e : Expr} {es : List Expr} {da : Dn (List Fv)}
/-- C(..): what its __init__ makes of an object with no fields -/
def makeF (n : Str) (mask : List Bool) (f : List D → Rf) (fs : List Fv) (ε : Ev) : Re Fv := match passA mask fs ε with
  | some (ds, [], ε1) => match f (.ins n [] :: ds) with
    | .ok (.sh .non) [o] => .ok (.fr o) ε1
    | .exc x [_] => .exc x ε1
    | _ => .no
  | _ => .no
def dMake (n : Str) (mask : List Bool) (f : List D → Rf) (da : Dn (List Fv)) : Dn Fv := fun ε => (da ε).bind (makeF n mask f)
end
end
end PL
/-! PM1: fields of objects, read and set; methods and properties, found by the object's class -/
namespace PL
open PySem PySem.Spec PyProof.Rows L2 AB
open TL (tl)
section
variable {G : Gx} {X : Cx} {W : WX} {C : Fr} {σ : L2.St} {ε : Ev} {H H' : Hp} {F : Addr → Prop} {k : Nat}
/-- the classes ns, with f a field of theirs -/
def ClsAll (G : Gx) (ns : List Str) (f : Str) : Prop := ∀ n ∈ ns, ∀ Ca, G.mg n = some (.ref Ca) → Cls G.K Ca ∧ NoAttr G.K Ca f
theorem ClsAll.nil {f : Str} : ClsAll G [] f := fun _ h => by cases h
theorem ClsAll.cons {n : Str} {ns : List Str} {f : Str} {Ca : Addr} (g : G.mg n = some (.ref Ca)) (c : Cls G.K Ca) (na : NoAttr G.K Ca f) (h : ClsAll G ns f) : ClsAll G (n :: ns) f := fun m hm Cb gb => by
  rcases List.mem_cons.mp hm with rfl | hm
  · rw [g] at gb; cases gb; exact ⟨c, na⟩
  · exact h m hm Cb gb
/-! ### o.f -/
def fldD (ns : List Str) (f : Str) : D → Option Fv
  | .ins n fs => if n ∈ ns then (fs.lookup f).map .sh else none
  | _ => none
/-! ### o.f = v -/
def putFD (f : Str) (d : D) : List (Str × D) → List (Str × D)
  | [] => [(f, d)]
  | (g, x) :: r => if g = f then (g, d) :: r else (g, x) :: putFD f d r
def setFD (ns : List Str) (f : Str) (d : D) (ds : List D) : Option (D × D) := match d, ds with
  | .ins n es, [v] => if n ∈ ns ∧ es.length < 1000 then some (.ins n (putFD f v es), .non) else none
  | _, _ => none
def sDFld (ns : List Str) (f : Str) (do_ dv : Dn Fv) : Dn Fl := fun ε => (dv ε).bind fun v ε1 => (do_ ε1).bind fun x ε2 => match x with
  | .at j => (mutF (setFD ns f) j [v.old] ε2).bind fun _ ε4 => .ok .nx ε4
  | _ => .no
end
end PL
/-! PM2: methods and properties, found by the object's class -/
namespace PL
open PySem PySem.Spec PyProof.Rows L2 AB
open TL (tl)
section
variable {G : Gx} {X : Cx} {W : WX} {C : Fr} {σ : L2.St} {ε : Ev} {H H' : Hp} {F : Addr → Prop} {k : Nat}
/-- what the classes of the table have as m -/
def MTab (G : Gx) (k : Nat) (m : Str) (mask : List Bool) (tab : List (Str × (List D → Rf))) : Prop := ∀ n den, tab.lookup n = some den → ∀ Ca, G.mg n = some (.ref Ca) →
  Cls G.K Ca ∧ ∃ j f fd ps, j ≤ k ∧ Meth G.K Ca m f ∧ FnP G j f fd ps mask den ∧ Binds G.K fd ps []
theorem MTab.nil {m : Str} {mask : List Bool} : MTab G k m mask [] := fun _ _ h => by cases h
theorem MTab.cons {m n : Str} {mask : List Bool} {den : List D → Rf} {tab : List (Str × (List D → Rf))} {Ca f : Addr} {j : Nat} {fd : FuncData} {ps : List Str} (g : G.mg n = some (.ref Ca)) (c : Cls G.K Ca) (hm : Meth G.K Ca m f) (F : FnP G j f fd ps mask den) (hb : Binds G.K fd ps []) (hj : j ≤ k) (h : MTab G k m mask tab) : MTab G k m mask ((n, den) :: tab) := fun n' den' hl Cb gb => by
  unfold List.lookup at hl
  cases q : n' == n with
  | true =>
    rw [q] at hl
    cases hl
    obtain rfl : n' = n := eq_of_beq q
    rw [g] at gb
    cases gb
    exact ⟨c, j, f, fd, ps, hj, hm, F, hb⟩
  | false => rw [q] at hl; exact h n' den' hl Cb gb
/-! ### o.m(..) -/
def dMeth (m : Str) (mask : List Bool) (tab : List (Str × (List D → Rf))) (do_ : Dn Fv) (da : Dn (List Fv)) : Dn Fv := fun ε => (do_ ε).bind fun x ε1 => match rd ε1 x with
  | some (.ins n fs) => if (fs.lookup m).isNone = true then match tab.lookup n with
    | some den => (da ε1).bind fun as ε2 => callF mask den (x.old :: as) ε2
    | none => .no
    else .no
  | _ => .no
end
end PL
/-! PM3: properties, found by the object's class; methods without arguments -/
namespace PL
open PySem PySem.Spec PyProof.Rows L2 AB
open TL (tl)
section
variable {G : Gx} {X : Cx} {W : WX} {C : Fr} {σ : L2.St} {ε : Ev} {H H' : Hp} {F : Addr → Prop} {k : Nat}
def PTab (G : Gx) (k : Nat) (f : Str) (tab : List (Str × (List D → Rf))) : Prop := ∀ n den, tab.lookup n = some den → ∀ Ca, G.mg n = some (.ref Ca) →
  Cls G.K Ca ∧ ∃ j p g fd ps, j + 1 ≤ k ∧ PropOf G.K Ca f p g ∧ FnP G j g fd ps [false] den ∧ Binds G.K fd ps []
theorem PTab.nil {f : Str} : PTab G k f [] := fun _ _ h => by cases h
theorem PTab.cons {f n : Str} {den : List D → Rf} {tab : List (Str × (List D → Rf))} {Ca p g : Addr} {j : Nat} {fd : FuncData} {ps : List Str} (gC : G.mg n = some (.ref Ca)) (c : Cls G.K Ca) (hp : PropOf G.K Ca f p g) (F : FnP G j g fd ps [false] den) (hb : Binds G.K fd ps []) (hj : j + 1 ≤ k) (h : PTab G k f tab) : PTab G k f ((n, den) :: tab) := fun n' den' hl Cb gb => by
  unfold List.lookup at hl
  cases q : n' == n with
  | true =>
    rw [q] at hl
    cases hl
    obtain rfl : n' = n := eq_of_beq q
    rw [gC] at gb
    cases gb
    exact ⟨c, j, p, g, fd, ps, hj, hp, F, hb⟩
  | false => rw [q] at hl; exact h n' den' hl Cb gb
def propF (den : List D → Rf) (x : Fv) (ε : Ev) : Re Fv := match callF [false] den [x.old] ε with
  | .ok r ε' => .ok r ε'
  | _ => .no
def dProp (tab : List (Str × (List D → Rf))) (do_ : Dn Fv) : Dn Fv := fun ε => (do_ ε).bind fun x ε1 => match rd ε1 x with
  | some (.ins n _) => match tab.lookup n with
    | some den => propF den x ε1
    | none => .no
  | _ => .no
/-! ### o.m() -/
end
end PL
/-! PM4: isinstance with an own class -/
namespace PL
open PySem PySem.Spec PyProof.Rows L2 AB
open TL (tl)
section
variable {G : Gx} {X : Cx} {W : WX} {C : Fr} {σ : L2.St} {ε : Ev} {H H' : Hp} {F : Addr → Prop} {k : Nat}
structure InsC (K : PySem.W.Frag) (C : Addr) : Prop where
  cl : Cls K C
  ha : PySem.W.findIn K (.ref C) "__class__" = some (some (.builtin "object.__class__"))
  hn : PySem.W.specialIn K (.builtin "object.__class__") "__get__" = some (some (.builtin "getset_descriptor.__get__"))
  htk : PySem.W.takesIn K (.builtin "object.__class__") = some true
  hm : PySem.W.mroIn K C (.type "object") = some true
structure ITab (G : Gx) (Cq : Addr) (tab : List (Str × Bool)) : Prop where
  own : ∀ n b, tab.lookup n = some b → ∀ Ca, G.mg n = some (.ref Ca) → InsC G.K Ca ∧ PySem.W.kitOne G.K (.ref Ca) (.ref Cq) = some b
  blt : ∀ t ∈ kindsD, PySem.W.kitOne G.K (.type t) (.ref Cq) = some false
theorem ITab.nil {Cq : Addr} (h : ∀ t ∈ kindsD, PySem.W.kitOne G.K (.type t) (.ref Cq) = some false) : ITab G Cq [] := ⟨fun _ _ h => (by cases h), h⟩
theorem ITab.cons {Cq Ca : Addr} {n : Str} {b : Bool} {tab : List (Str × Bool)} (g : G.mg n = some (.ref Ca)) (c : InsC G.K Ca) (hk : PySem.W.kitOne G.K (.ref Ca) (.ref Cq) = some b) (h : ITab G Cq tab) : ITab G Cq ((n, b) :: tab) := ⟨fun n' b' hl Cb gb => by
  unfold List.lookup at hl
  cases q : n' == n with
  | true =>
    rw [q] at hl
    cases hl
    obtain rfl : n' = n := eq_of_beq q
    rw [g] at gb
    cases gb
    exact ⟨c, hk⟩
  | false => rw [q] at hl; exact h.own n' b' hl Cb gb, h.blt⟩
def isiCD (tab : List (Str × Bool)) (d : D) : Option Fv := match d with
  | .ins n _ => (tab.lookup n).map fun b => .sh (.bl b)
  | d => (tyN d).map fun _ => .sh (.bl false)
end
end PL
/-! PM5: an __init__ that calls its base's __init__ by super() -/
namespace PL
open PySem PySem.Spec PyProof.Rows L2 AB
open PySem.W (ksEnv ksFn)
open TL (tl)
end PL
/-! PM6: super().__init__(..) of an own class, as a statement of the plain layer -/
namespace PL
open PySem PySem.Spec PyProof.Rows L2 AB
open PySem.W (ksEnv ksFn)
open TL (tl)
open ClX (met_new callwith_cm base_none pin_at unpinE)
structure PSa (X : Cx) (all : List Stmt) (st : List Stmt) (t : TS) : Prop where
  run : ∀ (pins : List (Addr × Obj)) (s : Shared) (σ : L2.St) (H : Hp) (D : Ends), L2.Inv X pins σ H s → t D σ H → _root_.PySem.wpAt (model X.prog X.w) X.A (.func all X.env) (execs st X.env) (SP X pins D) X.xe s
theorem PSa.imp {X : Cx} {all st : List Stmt} {t t' : TS} (h : PSa X all st t) (k : ∀ D σ H, t' D σ H → t D σ H) : PSa X all st t' := ⟨fun pins s σ H D I z => h.run pins s σ H D I (k D σ H z)⟩
/-- the object's class, under Dd: the next __init__ behind Dd is f2 -/
structure SupC (K : PySem.W.Frag) (Dd Ca f2 : Addr) : Prop where
  sub : PySem.W.mroIn K Ca (.ref Dd) = some true
  nxt : PySem.W.ks_superIn K Ca Dd "__init__" = some (some (.ref f2))
  ty : PySem.W.typeIn K (.ref f2) = some (.type "function")
  fi : PySem.W.fnIn K f2 = true
end PL
/-! PM7: super().__init__(..), in the plain layer -/
namespace PL
open PySem PySem.Spec PyProof.Rows L2 AB
open PySem.W (ksEnv ksFn)
open TL (tl)
section
variable {G : Gx} {W : WX} {k : Nat}
def supF (mask : List Bool) (den : List D → Rf) (fs : List Fv) (ε1 : Ev) : Re Fl := (callF (true :: mask) den (.at 0 :: fs) ε1).bind fun _ ε2 => .ok .nx ε2
def sDSup (ns : List Str) (mask : List Bool) (den : List D → Rf) (da : Dn (List Fv)) : Dn Fl := fun ε => match ε[(0 : Nat)]? with
  | some (.io (.ins n _)) => if n ∈ ns then (da ε).bind (supF mask den) else .no
  | _ => .no
end
end PL
/-! PM8: a method's promise -/
namespace PL
open PySem PySem.Spec PyProof.Rows L2 AB
open TL (tl)
end PL
/-! PME: evaluation of objects: made, fields, methods, properties, isinstance, super -/
namespace PL
open PySem PySem.Spec PyProof.Rows L2 AB
open TL (tl)
def mk3 (ε : Ev) : Rf → Re Fv
  | .ok (.sh .non) [o] => .ok (.fr o) ε
  | .exc x [_] => .exc x ε
  | _ => .no
@[simp] theorem mk3_ok (o : D) (ε : Ev) : mk3 ε (.ok (.sh .non) [o]) = .ok (.fr o) ε := rfl
@[simp] theorem mk3_exc (x : Xc) (o : D) (ε : Ev) : mk3 ε (.exc x [o]) = .exc x ε := rfl
def mk2 (n : Str) (f : List D → Rf) : Option (List D × List Nat × Ev) → Re Fv
  | some (ds, [], ε1) => mk3 ε1 (f (.ins n [] :: ds))
  | _ => .no
@[simp] theorem mk2_some (n : Str) (f : List D → Rf) (ds : List D) (ε : Ev) : mk2 n f (some (ds, [], ε)) = mk3 ε (f (.ins n [] :: ds)) := rfl
@[simp] theorem makeF_ev (n : Str) (mask : List Bool) (f : List D → Rf) (fs : List Fv) (ε : Ev) : makeF n mask f fs ε = mk2 n f (passA mask fs ε) := by
  unfold makeF
  cases passA mask fs ε with
  | none => rfl
  | some r =>
    obtain ⟨ds, js, ε1⟩ := r
    cases js with
    | cons => rfl
    | nil =>
      show _ = mk3 ε1 (f (.ins n [] :: ds))
      dsimp only
      cases f (.ins n [] :: ds) with
      | no => rfl
      | exc x o =>
        match o with
        | [] => rfl
        | [_] => rfl
        | _ :: _ :: _ => rfl
      | ok r o =>
        match r, o with
        | .sh .non, [_] => rfl
        | .sh .non, [] => rfl
        | .sh .non, _ :: _ :: _ => rfl
        | .sh (.bl _), _ => rfl
        | .sh (.int _), _ => rfl
        | .sh (.str _), _ => rfl
        | .sh (.tup _), _ => rfl
        | .sh (.lst _), _ => rfl
        | .sh (.dct _), _ => rfl
        | .sh (.dcT _), _ => rfl
        | .sh (.ins _ _), _ => rfl
        | .sh (.ty _), _ => rfl
        | .sh (.ref _), _ => rfl
        | .sh (.flz _), _ => rfl
        | .fr _, _ => rfl
        | .at _, _ => rfl
@[simp] theorem dMake_ev (n : Str) (mask : List Bool) (f : List D → Rf) (da : Dn (List Fv)) (ε : Ev) : dMake n mask f da ε = (da ε).bind (makeF n mask f) := rfl
/-! fields -/
@[simp] theorem fldD_ins (ns : List Str) (f n : Str) (fs : List (Str × D)) : fldD ns f (.ins n fs) = if n ∈ ns then (fs.lookup f).map .sh else none := rfl
@[simp] theorem setFD_ins (ns : List Str) (f n : Str) (es : List (Str × D)) (v : D) : setFD ns f (.ins n es) [v] = if n ∈ ns ∧ es.length < 1000 then some (.ins n (putFD f v es), .non) else none := rfl
@[simp] theorem putFD_nil (f : Str) (d : D) : putFD f d [] = [(f, d)] := rfl
@[simp] theorem putFD_cons (f g : Str) (d x : D) (r : List (Str × D)) : putFD f d ((g, x) :: r) = if g = f then (g, d) :: r else (g, x) :: putFD f d r := rfl
def kFs3 (_ : Fv) (ε : Ev) : Re Fl := .ok .nx ε
@[simp] theorem kFs3_ev (x : Fv) (ε : Ev) : kFs3 x ε = .ok .nx ε := rfl
def kFs2 (ns : List Str) (f : Str) (v : Fv) (x : Fv) (ε : Ev) : Re Fl := match x with
  | .at j => (mutF (setFD ns f) j [v.old] ε).bind kFs3
  | _ => .no
@[simp] theorem kFs2_at (ns : List Str) (f : Str) (v : Fv) (j : Nat) (ε : Ev) : kFs2 ns f v (.at j) ε = (mutF (setFD ns f) j [v.old] ε).bind kFs3 := rfl
def kFs1 (ns : List Str) (f : Str) (do_ : Dn Fv) (v : Fv) (ε : Ev) : Re Fl := (do_ ε).bind (kFs2 ns f v)
@[simp] theorem kFs1_ev (ns : List Str) (f : Str) (do_ : Dn Fv) (v : Fv) (ε : Ev) : kFs1 ns f do_ v ε = (do_ ε).bind (kFs2 ns f v) := rfl
@[simp] theorem sDFld_ev (ns : List Str) (f : Str) (do_ dv : Dn Fv) (ε : Ev) : sDFld ns f do_ dv ε = (dv ε).bind (kFs1 ns f do_) := by
  unfold sDFld
  congr 1
/-! methods -/
def kMt4 (mask : List Bool) (den : List D → Rf) (x : Fv) (as : List Fv) (ε : Ev) : Re Fv := callF mask den (x.old :: as) ε
@[simp] theorem kMt4_ev (mask : List Bool) (den : List D → Rf) (x : Fv) (as : List Fv) (ε : Ev) : kMt4 mask den x as ε = callF mask den (x.old :: as) ε := rfl
def kMt3 (mask : List Bool) (da : Dn (List Fv)) (x : Fv) (ε : Ev) : Option (List D → Rf) → Re Fv
  | some den => (da ε).bind (kMt4 mask den x)
  | none => .no
@[simp] theorem kMt3_some (mask : List Bool) (da : Dn (List Fv)) (x : Fv) (ε : Ev) (den : List D → Rf) : kMt3 mask da x ε (some den) = (da ε).bind (kMt4 mask den x) := rfl
def kMt2 (m : Str) (mask : List Bool) (tab : List (Str × (List D → Rf))) (da : Dn (List Fv)) (x : Fv) (ε : Ev) : Option D → Re Fv
  | some (.ins n fs) => if (fs.lookup m).isNone = true then kMt3 mask da x ε (tab.lookup n) else .no
  | _ => .no
@[simp] theorem kMt2_ins (m : Str) (mask : List Bool) (tab : List (Str × (List D → Rf))) (da : Dn (List Fv)) (x : Fv) (ε : Ev) (n : Str) (fs : List (Str × D)) : kMt2 m mask tab da x ε (some (.ins n fs)) = if (fs.lookup m).isNone = true then kMt3 mask da x ε (tab.lookup n) else .no := rfl
def kMt1 (m : Str) (mask : List Bool) (tab : List (Str × (List D → Rf))) (da : Dn (List Fv)) (x : Fv) (ε : Ev) : Re Fv := kMt2 m mask tab da x ε (rd ε x)
@[simp] theorem kMt1_ev (m : Str) (mask : List Bool) (tab : List (Str × (List D → Rf))) (da : Dn (List Fv)) (x : Fv) (ε : Ev) : kMt1 m mask tab da x ε = kMt2 m mask tab da x ε (rd ε x) := rfl
@[simp] theorem dMeth_ev (m : Str) (mask : List Bool) (tab : List (Str × (List D → Rf))) (do_ : Dn Fv) (da : Dn (List Fv)) (ε : Ev) : dMeth m mask tab do_ da ε = (do_ ε).bind (kMt1 m mask tab da) := by
  have e : ∀ (x : Fv) (ε1 : Ev), (match rd ε1 x with
    | some (.ins n fs) => if (fs.lookup m).isNone = true then match tab.lookup n with
      | some den => (da ε1).bind fun as ε2 => callF mask den (x.old :: as) ε2
      | none => .no
      else .no
    | _ => .no) = kMt1 m mask tab da x ε1 := fun x ε1 => by
    rw [kMt1_ev]
    cases rd ε1 x with
    | none => rfl
    | some d =>
      cases d with
      | ins n fs =>
        rw [kMt2_ins]
        dsimp only
        cases tab.lookup n <;> rfl
      | _ => rfl
  unfold dMeth
  exact congrArg (fun k => (do_ ε).bind k) (funext fun x => funext fun ε1 => e x ε1)
/-! properties -/
def kPr3 : Re Fv → Re Fv
  | .ok r ε => .ok r ε
  | _ => .no
@[simp] theorem kPr3_ok (r : Fv) (ε : Ev) : kPr3 (.ok r ε) = .ok r ε := rfl
@[simp] theorem propF_ev (den : List D → Rf) (x : Fv) (ε : Ev) : propF den x ε = kPr3 (callF [false] den [x.old] ε) := by
  unfold propF
  cases callF [false] den [x.old] ε <;> rfl
def kPr2 (x : Fv) (ε : Ev) : Option (List D → Rf) → Re Fv
  | some den => propF den x ε
  | none => .no
@[simp] theorem kPr2_some (x : Fv) (ε : Ev) (den : List D → Rf) : kPr2 x ε (some den) = propF den x ε := rfl
def kPr1 (tab : List (Str × (List D → Rf))) (x : Fv) (ε : Ev) : Option D → Re Fv
  | some (.ins n _) => kPr2 x ε (tab.lookup n)
  | _ => .no
@[simp] theorem kPr1_ins (tab : List (Str × (List D → Rf))) (x : Fv) (ε : Ev) (n : Str) (fs : List (Str × D)) : kPr1 tab x ε (some (.ins n fs)) = kPr2 x ε (tab.lookup n) := rfl
def kPr0 (tab : List (Str × (List D → Rf))) (x : Fv) (ε : Ev) : Re Fv := kPr1 tab x ε (rd ε x)
@[simp] theorem kPr0_ev (tab : List (Str × (List D → Rf))) (x : Fv) (ε : Ev) : kPr0 tab x ε = kPr1 tab x ε (rd ε x) := rfl
@[simp] theorem dProp_ev (tab : List (Str × (List D → Rf))) (do_ : Dn Fv) (ε : Ev) : dProp tab do_ ε = (do_ ε).bind (kPr0 tab) := by
  have e : ∀ (x : Fv) (ε1 : Ev), (match rd ε1 x with
    | some (.ins n _) => match tab.lookup n with
      | some den => propF den x ε1
      | none => .no
    | _ => .no) = kPr0 tab x ε1 := fun x ε1 => by
    rw [kPr0_ev]
    cases rd ε1 x with
    | none => rfl
    | some d =>
      cases d with
      | ins n fs =>
        rw [kPr1_ins]
        dsimp only
        cases tab.lookup n <;> rfl
      | _ => rfl
  unfold dProp
  exact congrArg (fun k => (do_ ε).bind k) (funext fun x => funext fun ε1 => e x ε1)
/-! isinstance -/
@[simp] theorem isiCD_ins (tab : List (Str × Bool)) (n : Str) (fs : List (Str × D)) : isiCD tab (.ins n fs) = (tab.lookup n).map fun b => .sh (.bl b) := rfl
@[simp] theorem isiCD_non (tab : List (Str × Bool)) : isiCD tab .non = some (.sh (.bl false)) := rfl
@[simp] theorem isiCD_bl (tab : List (Str × Bool)) (b : Bool) : isiCD tab (.bl b) = some (.sh (.bl false)) := rfl
@[simp] theorem isiCD_int (tab : List (Str × Bool)) (i : Int) : isiCD tab (.int i) = some (.sh (.bl false)) := rfl
@[simp] theorem isiCD_str (tab : List (Str × Bool)) (l : List Nat) : isiCD tab (.str l) = some (.sh (.bl false)) := rfl
@[simp] theorem isiCD_tup (tab : List (Str × Bool)) (l : List D) : isiCD tab (.tup l) = some (.sh (.bl false)) := rfl
@[simp] theorem isiCD_lst (tab : List (Str × Bool)) (l : List D) : isiCD tab (.lst l) = some (.sh (.bl false)) := rfl
/-! super -/
def kSu3 (_ : Fv) (ε : Ev) : Re Fl := .ok .nx ε
@[simp] theorem kSu3_ev (x : Fv) (ε : Ev) : kSu3 x ε = .ok .nx ε := rfl
@[simp] theorem supF_ev (mask : List Bool) (den : List D → Rf) (fs : List Fv) (ε : Ev) : supF mask den fs ε = (callF (true :: mask) den (.at 0 :: fs) ε).bind kSu3 := rfl
@[simp] theorem sDSup_io (ns : List Str) (mask : List Bool) (den : List D → Rf) (da : Dn (List Fv)) (n : Str) (fs : List (Str × D)) (ε : Ev) : sDSup ns mask den da (.io (.ins n fs) :: ε) = if n ∈ ns then (da (.io (.ins n fs) :: ε)).bind (supF mask den) else .no := rfl
end PL
/-! PS0: sorted of tuples of numbers -/
namespace PL
open PySem PySem.Spec PyProof.Rows L2 AB
open TL (tl)
end PL
/-! PS1: a def with one parameter and a star parameter; objects made by such an __init__ -/
namespace PL
open PySem PySem.Spec PyProof.Rows L2 AB
open TL (tl)
abbrev tupO (ur : List Value) : Obj := { cls := .type "tuple", data := .seq ur.toArray }
abbrev withT (s : Shared) (ur : List Value) : Shared := { s with heap := s.heap.push (tupO ur) }
/-- what such a def promises, told from the state in which its tuple lies (the caller shows that state) -/
def FnS (q : Prop) (P : Program) (w : World) (K : PySem.W.Frag) (mg : Str → Option Value) (base : Heap) (CX : CXT) (k : Nat) (f : Addr) (sp : Sp) : Prop :=
  ∀ (A : Around) (outer : List Env) (s : Shared) (H3 : Hp) (u : Value) (ur : List Value) (v : V) (Q : VK) (E : XK), Room k A → (q → A.guards = some []) → K.In s.heap → s.heap.NoLimit → ur.length ≤ 50 → RelV v u →
    Env0 P w K mg base A outer (withT s ur) H3 → sp [v, .ref s.heap.objs.size] H3 Q E → codeAny (model P w) A (.call (.ref f) ⟨u :: ur, []⟩) (CR CX outer P w H3 (withT s ur) Q E) s
end PL
/-! PS2: C(a, ..) where C's __init__ has a star parameter, in the plain layer -/
namespace PL
open PySem PySem.Spec PyProof.Rows L2 AB
open TL (tl)
section
variable {G : Gx} {X : Cx} {W : WX} {C : Fr} {σ : L2.St} {ε : Ev} {H H' : Hp} {F : Addr → Prop} {k : Nat}
def makeVF (n : Str) (f : List D → Rf) (fs : List Fv) (ε : Ev) : Re Fv := match shr fs ε with
  | some (ds, ε1) => if ds.length ≤ 50 then match f [.ins n [], .tup ds] with
    | .ok (.sh .non) [o] => .ok (.fr o) ε1
    | .exc x [_] => .exc x ε1
    | _ => .no
    else .no
  | none => .no
def dMakeV (n : Str) (f : List D → Rf) (da : Dn (List Fv)) : Dn Fv := fun ε => (da ε).bind (makeVF n f)
end
end PL
/-! PS3: what of the text the classes must have, as checks -/
namespace PL
open PySem PySem.Spec PyProof.Rows L2 AB
open TL (tl)
/-- the next __init__ behind Dd, for all these classes -/
def SupAll (G : Gx) (Dd f2 : Addr) (ns : List Str) : Prop := ∀ n ∈ ns, ∀ Ca, G.mg n = some (.ref Ca) → SupC G.K Dd Ca f2
theorem SupAll.nil {G : Gx} {Dd f2 : Addr} : SupAll G Dd f2 [] := fun _ h => by cases h
theorem SupAll.cons {G : Gx} {Dd f2 Ca : Addr} {n : Str} {ns : List Str} (g : G.mg n = some (.ref Ca)) (c : SupC G.K Dd Ca f2) (h : SupAll G Dd f2 ns) : SupAll G Dd f2 (n :: ns) := fun m hm Cb gb => by
  rcases List.mem_cons.mp hm with rfl | hm
  · rw [g] at gb; cases gb; exact c
  · exact h m hm Cb gb
end PL
/-! PS4: sorted of tuples (number, number, text, text) whose numbers tell them apart -/
namespace PL
open PySem PySem.Spec PyProof.Rows L2 AB SrtO
open TL (tl)
section
variable {prog : Program} {w : World} {A : Around} {E : Value → Shared → Prop} {s : Shared}
def IsQd (h : Heap) (v : Value) (x y : Int) (p q : Str) : Prop := ∃ a o t u t1 t2 n, v = .ref a ∧ h.get? a = some o ∧ o.cls = .type "tuple" ∧ o.data = .seq #[.int x t, .int y u, .str p t1, .str q t2] n
theorem IsQd.keeps {h h' : Heap} {v : Value} {x y : Int} {p q : Str} (z : IsQd h v x y p q) (k : ∀ b o, h.get? b = some o → o.cls = .type "tuple" → h'.get? b = some o) : IsQd h' v x y p q := by
  obtain ⟨a, o, t, u, t1, t2, n, e, ho, hc, hd⟩ := z
  exact ⟨a, o, t, u, t1, t2, n, e, k _ _ ho hc, hc, hd⟩
def kOf (h : Heap) : Value → Int × Int
  | .ref a => match h.get? a with
    | some o => (match o.data with
      | .seq xs _ => (match xs.toList with | .int x _ :: .int y _ :: _ => (x, y) | _ => (0, 0))
      | _ => (0, 0))
    | none => (0, 0)
  | _ => (0, 0)
def fOf (h : Heap) : Value → Str × Str
  | .ref a => match h.get? a with
    | some o => (match o.data with
      | .seq xs _ => (match xs.toList with | _ :: _ :: .str x _ :: .str y _ :: _ => (x, y) | _ => (Str.empty, Str.empty))
      | _ => (Str.empty, Str.empty))
    | none => (Str.empty, Str.empty)
  | _ => (Str.empty, Str.empty)
theorem IsQd.k {h : Heap} {v : Value} {x y : Int} {p q : Str} (z : IsQd h v x y p q) : kOf h v = (x, y) ∧ fOf h v = (p, q) := by
  obtain ⟨a, o, t, u, t1, t2, n, rfl, ho, hc, hd⟩ := z
  constructor
  · unfold kOf; simp only [ho, hd]
  · unfold fOf; simp only [ho, hd]
end
end PL
/-! PS5: sorted of such tuples, in the plain layer -/
namespace PL
open PySem PySem.Spec PyProof.Rows L2 AB SrtO
open TL (tl)
end PL
/-! PT0: try with several clauses, of one class or of two, named or not -/
namespace PL
open PySem PySem.Spec PyProof.Rows L2 AB
end PL
/-! PT1: try, in the plain layer -/
namespace PL
open PySem PySem.Spec PyProof.Rows L2 AB LamX
open TL (tl)
/-- a clause: the classes' names, and what its suite hands back for an error's fields -/
abbrev ClD := List Str × (List (Str × D) → Option D)
def pickC : List ClD → Str → Option (List (Str × D) → Option D)
  | [], _ => none
  | (ns, h) :: r, n => if n ∈ ns then some h else pickC r n
/-- of which of the clauses' classes an error is -/
def ExF (G : Gx) (xs : List Str) (n : Str) (C : Addr) : Prop := ∀ x ∈ xs, ∀ cv, G.mg x = some cv → PySem.W.exmOne G.K cv (.ref C) = some (x == n)
def hdlK (x : Xc) (ε : Ev) : Option (List (Str × D) → Option D) → Re Fl
  | none => .exc x ε
  | some h => match h x.fs with
    | some d => .ok (.rt (.sh d)) ε
    | none => .no
def hdlF (cs : List ClD) (xs : List Str) (x : Xc) (ε : Ev) : Re Fl := if x.cls ∈ xs then hdlK x ε (pickC cs x.cls) else .no
def tryR (cs : List ClD) (xs : List Str) : Re Fl → Re Fl
  | .ok f ε => .ok f ε
  | .exc x ε => hdlF cs xs x ε
  | .no => .no
def sDTry (cs : List ClD) (xs : List Str) (db : Dn Fl) : Dn Fl := fun ε => tryR cs xs (db ε)
end PL
/-! PT2: a def that calls what it got, with several clauses -/
namespace PL
open PySem PySem.Spec PyProof.Rows L2 AB LamX
open TL (tl)
end PL
/-! PT3: a catcher of several clauses by its own record; facts of error classes; C() with a star parameter -/
namespace PL
open PySem PySem.Spec PyProof.Rows L2 AB LamX
open TL (tl)
theorem MTab.mono {G : Gx} {k j : Nat} {m : Str} {mask : List Bool} {tab : List (Str × (List D → Rf))} (h : MTab G j m mask tab) (hk : j ≤ k) : MTab G k m mask tab := fun n den hl Ca g => by
  obtain ⟨c, i, f, fd, ps, hi, r⟩ := h n den hl Ca g
  exact ⟨c, i, f, fd, ps, Nat.le_trans hi hk, r⟩
theorem PTab.mono {G : Gx} {k j : Nat} {m : Str} {tab : List (Str × (List D → Rf))} (h : PTab G j m tab) (hk : j ≤ k) : PTab G k m tab := fun n den hl Ca g => by
  obtain ⟨c, i, p, f, fd, ps, hi, r⟩ := h n den hl Ca g
  exact ⟨c, i, p, f, fd, ps, Nat.le_trans hi hk, r⟩
theorem ExF.nil {G : Gx} {n : Str} {C : Addr} : ExF G [] n C := fun _ h => by cases h
theorem ExF.cons {G : Gx} {xs : List Str} {x n : Str} {C Cx : Addr} (g : G.mg x = some (.ref Cx)) (h : PySem.W.exmOne G.K (.ref Cx) (.ref C) = some (x == n)) (r : ExF G xs n C) : ExF G (x :: xs) n C := fun y hy cv e => by
  rcases List.mem_cons.mp hy with rfl | hy
  · rw [g] at e; cases e; exact h
  · exact r y hy cv e
end PL
/-! PT4: an __init__ with a star parameter that calls its base's __init__ by super() -/
namespace PL
open PySem PySem.Spec PyProof.Rows L2 AB
open PySem.W (ksEnv ksFn)
open TL (tl)
end PL
/-! PQ0: names are told apart by simp -/
namespace PL
open PySem PySem.Spec PyProof.Rows L2 AB
theorem toNat_inj' {a b : Char} (h : a.toNat = b.toNat) : a = b := by
  apply Char.ext
  exact UInt32.toNat_inj.mp h
theorem map_toNat_inj : ∀ {a b : List Char}, a.map Char.toNat = b.map Char.toNat → a = b
  | [], [], _ => rfl
  | [], _ :: _, h => by cases h
  | _ :: _, [], h => by cases h
  | x :: a, y :: b, h => by
    simp only [List.map_cons, List.cons.injEq] at h
    rw [toNat_inj' h.1, map_toNat_inj h.2]
@[simp] theorem str_lit (a b : String) : (Str.ofString a = Str.ofString b) ↔ a = b := by
  constructor
  · intro h
    rw [Str.ofString_eq_toList, Str.ofString_eq_toList] at h
    have h2 : (a.toList.map Char.toNat).toArray = (b.toList.map Char.toNat).toArray := by
      injection h
    have h3 : a.toList.map Char.toNat = b.toList.map Char.toNat := by
      have := congrArg Array.toList h2
      simpa using this
    exact String.ext (map_toNat_inj h3)
  · intro h; rw [h]
theorem lk_same {α : Type} (a : Str) (v : α) (es : List (Str × α)) : List.lookup a ((a, v) :: es) = some v := by
  unfold List.lookup
  rw [beq_self_eq_true]
theorem lk_next {α : Type} {a b : Str} (v : α) (es : List (Str × α)) (h : a ≠ b) : List.lookup a ((b, v) :: es) = List.lookup a es := by
  conv => lhs; unfold List.lookup
  have : (a == b) = false := beq_eq_false_iff_ne.mpr h
  rw [this]
@[simp] theorem lk_lit {α : Type} (a b : String) (v : α) (es : List (Str × α)) : List.lookup (Str.ofString a) ((Str.ofString b, v) :: es) = if a = b then some v else List.lookup (Str.ofString a) es := by
  by_cases h : a = b
  · subst h; rw [if_pos rfl, lk_same]
  · rw [if_neg h, lk_next _ _ (fun z => h ((str_lit a b).mp z))]
@[simp] theorem lk_lit0 {α : Type} (a : Str) : List.lookup a ([] : List (Str × α)) = none := rfl
/-! objects made with a star parameter -/
def mk2V (n : Str) (f : List D → Rf) : Option (List D × Ev) → Re Fv
  | some (ds, ε) => if ds.length ≤ 50 then mk3 ε (f [.ins n [], .tup ds]) else .no
  | none => .no
@[simp] theorem mk2V_some (n : Str) (f : List D → Rf) (ds : List D) (ε : Ev) : mk2V n f (some (ds, ε)) = if ds.length ≤ 50 then mk3 ε (f [.ins n [], .tup ds]) else .no := rfl
theorem mk3_of (ε : Ev) (r : Rf) : (match r with
      | .ok (.sh .non) [o] => Re.ok (Fv.fr o) ε
      | .exc x [_] => .exc x ε
      | _ => .no) = mk3 ε r := by
  cases r with
  | no => rfl
  | exc x o =>
    match o with
    | [] => rfl
    | [_] => rfl
    | _ :: _ :: _ => rfl
  | ok r o =>
    match r, o with
    | .sh .non, [_] => rfl
    | .sh .non, [] => rfl
    | .sh .non, _ :: _ :: _ => rfl
    | .sh (.bl _), _ => rfl
    | .sh (.int _), _ => rfl
    | .sh (.str _), _ => rfl
    | .sh (.tup _), _ => rfl
    | .sh (.lst _), _ => rfl
    | .sh (.dct _), _ => rfl
    | .sh (.dcT _), _ => rfl
    | .sh (.ins _ _), _ => rfl
    | .sh (.ty _), _ => rfl
    | .sh (.ref _), _ => rfl
    | .sh (.flz _), _ => rfl
    | .fr _, _ => rfl
    | .at _, _ => rfl
@[simp] theorem makeVF_ev (n : Str) (f : List D → Rf) (fs : List Fv) (ε : Ev) : makeVF n f fs ε = mk2V n f (shr fs ε) := by
  unfold makeVF mk2V
  cases shr fs ε with
  | none => rfl
  | some r =>
    obtain ⟨ds, ε1⟩ := r
    dsimp only
    by_cases h : ds.length ≤ 50
    · rw [if_pos h, if_pos h]; exact mk3_of _ _
    · rw [if_neg h, if_neg h]
@[simp] theorem dMakeV_ev (n : Str) (f : List D → Rf) (da : Dn (List Fv)) (ε : Ev) : dMakeV n f da ε = (da ε).bind (makeVF n f) := rfl
end PL
/-! PQ1: evaluation of try and of catchers of several clauses -/
namespace PL
open PySem PySem.Spec PyProof.Rows L2 AB
@[simp] theorem tryR_ok (cs : List ClD) (xs : List Str) (f : Fl) (ε : Ev) : tryR cs xs (.ok f ε) = .ok f ε := rfl
@[simp] theorem tryR_exc (cs : List ClD) (xs : List Str) (x : Xc) (ε : Ev) : tryR cs xs (.exc x ε) = hdlF cs xs x ε := rfl
@[simp] theorem sDTry_ev (cs : List ClD) (xs : List Str) (db : Dn Fl) (ε : Ev) : sDTry cs xs db ε = tryR cs xs (db ε) := rfl
@[simp] theorem pickC_nil (n : Str) : pickC [] n = none := rfl
@[simp] theorem pickC_cons (ns : List Str) (h : List (Str × D) → Option D) (r : List ClD) (n : Str) : pickC ((ns, h) :: r) n = if n ∈ ns then some h else pickC r n := rfl
def hdlD (ε : Ev) : Option D → Re Fl
  | some d => .ok (.rt (.sh d)) ε
  | none => .no
@[simp] theorem hdlD_some (ε : Ev) (d : D) : hdlD ε (some d) = .ok (.rt (.sh d)) ε := rfl
@[simp] theorem hdlK_none (x : Xc) (ε : Ev) : hdlK x ε none = .exc x ε := rfl
@[simp] theorem hdlK_some (x : Xc) (ε : Ev) (h : List (Str × D) → Option D) : hdlK x ε (some h) = hdlD ε (h x.fs) := by
  show (match h x.fs with
    | some d => Re.ok (Fl.rt (Fv.sh d)) ε
    | none => .no) = _
  cases h x.fs <;> rfl
@[simp] theorem hdlF_ev (cs : List ClD) (xs : List Str) (x : Xc) (ε : Ev) : hdlF cs xs x ε = if x.cls ∈ xs then hdlK x ε (pickC cs x.cls) else .no := rfl
end PL
/-! PQ2: a comprehension over a list that a name owns, and goes on to own -/
namespace PL
open PySem PySem.Spec PyProof.Rows L2 AB
open TL (tl)
def isNo : Option Sl → Bool
  | some .no => true
  | _ => false
def lcK (i : Nat) (vs : List Nat) (ds : List D) (ε : Ev) (acc : List D) (ε2 : Ev) : Re Fv :=
  if isNo (resE ε2 (ε.set i .no) vs)[i]? = true then .ok (.fr (.lst acc)) ((resE ε2 (ε.set i .no) vs).set i (.ow (.lst ds))) else .no
def lcO (i : Nat) (vs : List Nat) (g : Tg) (c : Dn Bool) (e : Dn Fv) (ε : Ev) : Option Sl → Re Fv
  | some (.ow (.lst ds)) => if noMut (ε.set i .no) vs = true then (compD vs g c e ds [] (wipeE (ε.set i .no) vs)).bind (lcK i vs ds ε) else .no
  | _ => .no
def dLcO (i : Nat) (vs : List Nat) (g : Tg) (c : Dn Bool) (e : Dn Fv) : Dn Fv := fun ε => lcO i vs g c e ε ε[i]?
section
variable {G : Gx} {X : Cx} {W : WX} {C : Fr} {σ : L2.St} {ε : Ev} {H H' : Hp} {F : Addr → Prop} {k : Nat}
/-! evaluation -/
@[simp] theorem lcO_ow (i : Nat) (vs : List Nat) (g : Tg) (c : Dn Bool) (e : Dn Fv) (ε : Ev) (ds : List D) : lcO i vs g c e ε (some (.ow (.lst ds))) = if noMut (ε.set i .no) vs = true then (compD vs g c e ds [] (wipeE (ε.set i .no) vs)).bind (lcK i vs ds ε) else .no := rfl
@[simp] theorem lcK_ev (i : Nat) (vs : List Nat) (ds : List D) (ε : Ev) (acc : List D) (ε2 : Ev) : lcK i vs ds ε acc ε2 = if isNo (resE ε2 (ε.set i .no) vs)[i]? = true then .ok (.fr (.lst acc)) ((resE ε2 (ε.set i .no) vs).set i (.ow (.lst ds))) else .no := rfl
@[simp] theorem isNo_no : isNo (some .no) = true := rfl
@[simp] theorem dLcO_ev (i : Nat) (vs : List Nat) (g : Tg) (c : Dn Bool) (e : Dn Fv) (ε : Ev) : dLcO i vs g c e ε = lcO i vs g c e ε ε[i]? := rfl
end
end PL
/-! PT5: try with one named clause whose suite looks at another name of the def, too -/
namespace PL
open PySem PySem.Spec PyProof.Rows L2 AB LamX
open TL (tl)
def hdlV (n : Str) (hd : List (Str × D) → D → Option D) (xs : List Str) (j : Nat) (x : Xc) (ε : Ev) : Re Fl :=
  if x.cls ∈ xs then (if x.cls = n then (match ε[j]? with
    | some (.sh d) => (match hd x.fs d with
      | some r => .ok (.rt (.sh r)) ε
      | none => .no)
    | _ => .no) else .exc x ε) else .no
def tryV (n : Str) (hd : List (Str × D) → D → Option D) (xs : List Str) (j : Nat) : Re Fl → Re Fl
  | .ok f ε => .ok f ε
  | .exc x ε => hdlV n hd xs j x ε
  | .no => .no
def sDTryV (n : Str) (hd : List (Str × D) → D → Option D) (xs : List Str) (j : Nat) (db : Dn Fl) : Dn Fl := fun ε => tryV n hd xs j (db ε)
@[simp] theorem tryV_ok (n : Str) (hd : List (Str × D) → D → Option D) (xs : List Str) (j : Nat) (f : Fl) (ε : Ev) : tryV n hd xs j (.ok f ε) = .ok f ε := rfl
@[simp] theorem tryV_exc (n : Str) (hd : List (Str × D) → D → Option D) (xs : List Str) (j : Nat) (x : Xc) (ε : Ev) : tryV n hd xs j (.exc x ε) = hdlV n hd xs j x ε := rfl
@[simp] theorem sDTryV_ev (n : Str) (hd : List (Str × D) → D → Option D) (xs : List Str) (j : Nat) (db : Dn Fl) (ε : Ev) : sDTryV n hd xs j db ε = tryV n hd xs j (db ε) := rfl
end PL
/-! PT6: zip of a tuple and a text -/
namespace PL
open PySem PySem.Spec PyProof.Rows L2 AB RZ
open TL (tl)
section
variable {G : Gx} {X : Cx} {W : WX} {H : Hp} {F : Addr → Prop} {k : Nat}
def chrs (l : List Nat) : List D := l.map fun c => D.str [c]
def zpTS : Option (List D × Ev) → Re (List D)
  | some ([.tup xs, .str l], ε') => .ok (zipD xs (chrs l)) ε'
  | _ => .no
def zipTSF (fs : List Fv) (ε : Ev) : Re (List D) := zpTS (shr fs ε)
@[simp] theorem zpTS_ev (xs : List D) (l : List Nat) (ε : Ev) : zpTS (some ([.tup xs, .str l], ε)) = .ok (zipD xs (chrs l)) ε := rfl
@[simp] theorem zipTSF_ev (fs : List Fv) (ε : Ev) : zipTSF fs ε = zpTS (shr fs ε) := rfl
end
end PL
/-! PT7: C(*xs), C's __init__ with a star parameter -/
namespace PL
open PySem PySem.Spec PyProof.Rows L2 AB StX
open TL (tl)
section
variable {G : Gx} {X : Cx} {W : WX} {C : Fr} {σ : L2.St} {ε : Ev} {H H1 : Hp} {k : Nat}
def starR (n : Str) (f : List D → Rf) : Option (List D × Ev) → Re Fv
  | some ([.lst ds], ε1) => makeVF n f (ds.map Fv.sh) ε1
  | some ([.tup ds], ε1) => makeVF n f (ds.map Fv.sh) ε1
  | _ => .no
def starF (n : Str) (f : List D → Rf) (fv : Fv) (ε : Ev) : Re Fv := starR n f (shr [fv.old] ε)
def dMakeVS (n : Str) (f : List D → Rf) (da : Dn Fv) : Dn Fv := fun ε => (da ε).bind fun x ε1 => starF n f x ε1
@[simp] theorem starR_lst (n : Str) (f : List D → Rf) (ds : List D) (ε : Ev) : starR n f (some ([.lst ds], ε)) = makeVF n f (ds.map Fv.sh) ε := rfl
@[simp] theorem starR_tup (n : Str) (f : List D → Rf) (ds : List D) (ε : Ev) : starR n f (some ([.tup ds], ε)) = makeVF n f (ds.map Fv.sh) ε := rfl
@[simp] theorem dMakeVS_ev (n : Str) (f : List D → Rf) (da : Dn Fv) (ε : Ev) : dMakeVS n f da ε = (da ε).bind (starF n f) := rfl
@[simp] theorem starF_ev (n : Str) (f : List D → Rf) (fv : Fv) (ε : Ev) : starF n f fv ε = starR n f (shr [fv.old] ε) := rfl
end
end PL
/-! PT8: list(range(a, b)); a op b op c op d as a test -/
namespace PL
open PySem PySem.Spec PyProof.Rows L2 AB
open TL (tl)
section
variable {G : Gx} {X : Cx} {W : WX} {H : Hp} {k : Nat}
section
variable {a b c d : Expr} {da db dc dd : Dn Fv} {pos : Pos} {op op' op'' : CmpOp} {f g e : D → D → Option Fv}
def kC36 (e : D → D → Option Fv) (w v : Fv) (ε : Ev) : Re Fv := o2 ε e w.old v.old
def kC35 (e : D → D → Option Fv) (dd : Dn Fv) (w z : Fv) (ε : Ev) : Re Fv := match z with
  | .sh (.bl true) => (dd ε).bind (kC36 e w)
  | .sh (.bl false) => .ok (.sh (.bl false)) ε
  | _ => .no
def kC34 (g e : D → D → Option Fv) (dd : Dn Fv) (y w : Fv) (ε : Ev) : Re Fv := (o2 ε g y.old w.old).bind (kC35 e dd w)
def kC33 (g e : D → D → Option Fv) (dc dd : Dn Fv) (y z : Fv) (ε : Ev) : Re Fv := match z with
  | .sh (.bl true) => (dc ε).bind (kC34 g e dd y)
  | .sh (.bl false) => .ok (.sh (.bl false)) ε
  | _ => .no
def kC32 (f g e : D → D → Option Fv) (dc dd : Dn Fv) (x y : Fv) (ε : Ev) : Re Fv := (o2 ε f x.old y.old).bind (kC33 g e dc dd y)
def kC31 (f g e : D → D → Option Fv) (db dc dd : Dn Fv) (x : Fv) (ε : Ev) : Re Fv := (db ε).bind (kC32 f g e dc dd x)
def dChain3 (f g e : D → D → Option Fv) (da db dc dd : Dn Fv) : Dn Fv := fun ε => (da ε).bind (kC31 f g e db dc dd)
@[simp] theorem dChain3_ev (ε : Ev) : dChain3 f g e da db dc dd ε = (da ε).bind (kC31 f g e db dc dd) := rfl
@[simp] theorem kC31_ev (x : Fv) (ε : Ev) : kC31 f g e db dc dd x ε = (db ε).bind (kC32 f g e dc dd x) := rfl
@[simp] theorem kC32_ev (x y : Fv) (ε : Ev) : kC32 f g e dc dd x y ε = (o2 ε f x.old y.old).bind (kC33 g e dc dd y) := rfl
@[simp] theorem kC33_bl (y : Fv) (b : Bool) (ε : Ev) : kC33 g e dc dd y (.sh (.bl b)) ε = if b = true then (dc ε).bind (kC34 g e dd y) else .ok (.sh (.bl false)) ε := by cases b <;> rfl
@[simp] theorem kC34_ev (y w : Fv) (ε : Ev) : kC34 g e dd y w ε = (o2 ε g y.old w.old).bind (kC35 e dd w) := rfl
@[simp] theorem kC35_bl (w : Fv) (b : Bool) (ε : Ev) : kC35 e dd w (.sh (.bl b)) ε = if b = true then (dd ε).bind (kC36 e w) else .ok (.sh (.bl false)) ε := by cases b <;> rfl
@[simp] theorem kC36_ev (w v : Fv) (ε : Ev) : kC36 e w v ε = o2 ε e w.old v.old := rfl
end
end
end PL
/-! PT9: sum(lists, []) -/
namespace AB
open PySem PySem.Spec PyProof.Rows L2
open TL (tl)
end AB
namespace PL
open PySem PySem.Spec PyProof.Rows L2 AB
open TL (tl)
section
variable {G : Gx} {X : Cx} {W : WX} {C : Fr} {σ : L2.St} {ε : Ev} {H : Hp} {F : Addr → Prop} {k : Nat}
/-! operations of an argument list of shared values -/
def shs : List Fv → Option (List D)
  | [] => some []
  | .sh d :: r => (shs r).map (d :: ·)
  | _ => none
def oNS (ε : Ev) (f : List D → Option Fv) (fs : List Fv) : Re Fv :=
  match shs fs with
  | some ds => match f ds with
    | some (.sh d) => .ok (.sh d) ε
    | some (.fr d) => .ok (.fr d) ε
    | _ => .no
  | _ => .no
def dNS (f : List D → Option Fv) (da : Dn (List Fv)) : Dn Fv := fun ε => (da ε).bind fun fs ε1 => oNS ε1 f fs
end
def kDNS (f : List D → Option Fv) (fs : List Fv) (ε : Ev) : Re Fv := oNS ε f fs
@[simp] theorem kDNS_ev (f : List D → Option Fv) (fs : List Fv) (ε : Ev) : kDNS f fs ε = oNS ε f fs := rfl
@[simp] theorem dNS_ev (f : List D → Option Fv) (da : Dn (List Fv)) (ε : Ev) : dNS f da ε = (da ε).bind (kDNS f) := rfl
@[simp] theorem oNS_two (f : List D → Option Fv) (x y : D) (ε : Ev) : oNS ε f [.sh x, .sh y] = finV ε (f [x, y]) := rfl
end PL
/-! PT10: list[::-1] -/
namespace PL
open PySem PySem.Spec PyProof.Rows L2 AB
open TL (tl)
end PL
/-! PT11: sorted(text) -/
namespace AB
open PySem PySem.Spec PyProof.Rows L2
open TL (tl)
end AB
namespace PL
open PySem PySem.Spec PyProof.Rows L2 AB
open TL (tl)
end PL
/-! PT12: o.m(..) where m takes a star parameter alone -/
namespace PL
open PySem PySem.Spec PyProof.Rows L2 AB
open TL (tl)
section
variable {G : Gx} {X : Cx} {W : WX} {C : Fr} {σ : L2.St} {ε : Ev} {H H' : Hp} {F : Addr → Prop} {k : Nat}
abbrev FnSM (G : Gx) (mask : List Bool) (k : Nat) (f : Addr) (den : List D → Rf) : Prop := FnS G.q G.prog G.w G.K G.mg G.base (L2.CX G.prog G.w) k f (spP G mask den)
def MTabV (G : Gx) (k : Nat) (m : Str) (mask : List Bool) (tab : List (Str × (List D → Rf))) : Prop := ∀ n den, tab.lookup n = some den → ∀ Ca, G.mg n = some (.ref Ca) →
  Cls G.K Ca ∧ ∃ j f, j ≤ k ∧ Meth G.K Ca m f ∧ FnSM G mask j f den
theorem MTabV.nil {m : Str} {mask : List Bool} : MTabV G k m mask [] := fun _ _ h => by cases h
theorem MTabV.cons {m n : Str} {mask : List Bool} {den : List D → Rf} {tab : List (Str × (List D → Rf))} {Ca f : Addr} {j : Nat} (g : G.mg n = some (.ref Ca)) (c : Cls G.K Ca) (hm : Meth G.K Ca m f) (Fn : FnSM G mask j f den) (hj : j ≤ k) (h : MTabV G k m mask tab) : MTabV G k m mask ((n, den) :: tab) := fun n' den' hl Cb gb => by
  unfold List.lookup at hl
  cases q : n' == n with
  | true =>
    rw [q] at hl
    cases hl
    obtain rfl : n' = n := eq_of_beq q
    rw [g] at gb
    cases gb
    exact ⟨c, j, f, hj, hm, Fn⟩
  | false => rw [q] at hl; exact h n' den' hl Cb gb
theorem MTabV.mono {m : Str} {mask : List Bool} {tab : List (Str × (List D → Rf))} {k' : Nat} (h : MTabV G k m mask tab) (hk : k ≤ k') : MTabV G k' m mask tab := fun n den hl Ca g => by
  obtain ⟨c, j, f, hj, hm, Fn⟩ := h n den hl Ca g
  exact ⟨c, j, f, Nat.le_trans hj hk, hm, Fn⟩
def callV (mask : List Bool) (f : List D → Rf) (x : Fv) (fs : List Fv) (ε : Ev) : Re Fv := match shr fs ε with
  | some (ds, ε1) => if ds.length ≤ 50 then callF mask f [x, .sh (.tup ds)] ε1 else .no
  | none => .no
def dMethV (m : Str) (mask : List Bool) (tab : List (Str × (List D → Rf))) (do_ : Dn Fv) (da : Dn (List Fv)) : Dn Fv := fun ε => (do_ ε).bind fun x ε1 => match rd ε1 x with
  | some (.ins n fs) => if (fs.lookup m).isNone = true then match tab.lookup n with
    | some den => (da ε1).bind fun as ε2 => callV mask den x.old as ε2
    | none => .no
    else .no
  | _ => .no
end
end PL
/-! PT13: xs.extend(t) of a tuple; list(t) -/
namespace AB
open PySem PySem.Spec PyProof.Rows L2
open TL (tl)
end AB
namespace PL
open PySem PySem.Spec PyProof.Rows L2 AB
open TL (tl)
end PL
/-! PT14: sorted(set(xs)), xs a list of ints -/
namespace AB
open PySem PySem.Spec PyProof.Rows L2
open TL (tl)
end AB
/-! PT15: sorted(set(xs)) as a rule -/
namespace PL
open PySem PySem.Spec PyProof.Rows L2 AB
open TL (tl)
end PL
/-! PT16: evaluation of star methods; extend by a tuple -/
namespace PL
open PySem PySem.Spec PyProof.Rows L2 AB
open TL (tl)
def kMv5 (mask : List Bool) (den : List D → Rf) (x : Fv) : Option (List D × Ev) → Re Fv
  | some (ds, ε1) => if ds.length ≤ 50 then callF mask den [x, .sh (.tup ds)] ε1 else .no
  | none => .no
@[simp] theorem kMv5_some (mask : List Bool) (den : List D → Rf) (x : Fv) (ds : List D) (ε1 : Ev) : kMv5 mask den x (some (ds, ε1)) = if ds.length ≤ 50 then callF mask den [x, .sh (.tup ds)] ε1 else .no := rfl
@[simp] theorem callV_ev (mask : List Bool) (den : List D → Rf) (x : Fv) (fs : List Fv) (ε : Ev) : callV mask den x fs ε = kMv5 mask den x (shr fs ε) := by
  unfold callV
  cases shr fs ε <;> rfl
def kMv4 (mask : List Bool) (den : List D → Rf) (x : Fv) (as : List Fv) (ε : Ev) : Re Fv := callV mask den x.old as ε
@[simp] theorem kMv4_ev (mask : List Bool) (den : List D → Rf) (x : Fv) (as : List Fv) (ε : Ev) : kMv4 mask den x as ε = callV mask den x.old as ε := rfl
def kMv3 (mask : List Bool) (da : Dn (List Fv)) (x : Fv) (ε : Ev) : Option (List D → Rf) → Re Fv
  | some den => (da ε).bind (kMv4 mask den x)
  | none => .no
@[simp] theorem kMv3_some (mask : List Bool) (da : Dn (List Fv)) (x : Fv) (ε : Ev) (den : List D → Rf) : kMv3 mask da x ε (some den) = (da ε).bind (kMv4 mask den x) := rfl
def kMv2 (m : Str) (mask : List Bool) (tab : List (Str × (List D → Rf))) (da : Dn (List Fv)) (x : Fv) (ε : Ev) : Option D → Re Fv
  | some (.ins n fs) => if (fs.lookup m).isNone = true then kMv3 mask da x ε (tab.lookup n) else .no
  | _ => .no
@[simp] theorem kMv2_ins (m : Str) (mask : List Bool) (tab : List (Str × (List D → Rf))) (da : Dn (List Fv)) (x : Fv) (ε : Ev) (n : Str) (fs : List (Str × D)) : kMv2 m mask tab da x ε (some (.ins n fs)) = if (fs.lookup m).isNone = true then kMv3 mask da x ε (tab.lookup n) else .no := rfl
def kMv1 (m : Str) (mask : List Bool) (tab : List (Str × (List D → Rf))) (da : Dn (List Fv)) (x : Fv) (ε : Ev) : Re Fv := kMv2 m mask tab da x ε (rd ε x)
@[simp] theorem kMv1_ev (m : Str) (mask : List Bool) (tab : List (Str × (List D → Rf))) (da : Dn (List Fv)) (x : Fv) (ε : Ev) : kMv1 m mask tab da x ε = kMv2 m mask tab da x ε (rd ε x) := rfl
@[simp] theorem dMethV_ev (m : Str) (mask : List Bool) (tab : List (Str × (List D → Rf))) (do_ : Dn Fv) (da : Dn (List Fv)) (ε : Ev) : dMethV m mask tab do_ da ε = (do_ ε).bind (kMv1 m mask tab da) := by
  have e : ∀ (x : Fv) (ε1 : Ev), (match rd ε1 x with
    | some (.ins n fs) => if (fs.lookup m).isNone = true then match tab.lookup n with
      | some den => (da ε1).bind fun as ε2 => callV mask den x.old as ε2
      | none => .no
      else .no
    | _ => .no) = kMv1 m mask tab da x ε1 := fun x ε1 => by
    rw [kMv1_ev]
    cases rd ε1 x with
    | none => rfl
    | some d =>
      cases d with
      | ins n fs =>
        rw [kMv2_ins]
        dsimp only
        cases tab.lookup n <;> rfl
      | _ => rfl
  unfold dMethV
  cases do_ ε with
  | ok x ε1 => exact e x ε1
  | exc x ε1 => rfl
  | no => rfl
end PL
/-! PU0: for, in a generator's body -/
namespace PySem
open Sem (wp)
end PySem
/-! PU1: for, in a generator's body: the rule -/
namespace L2
open PySem PySem.Spec PyProof.Rows GenW
end L2
/-! PU2: the plain layer for generator bodies -/
namespace PL
open PySem PySem.Spec PyProof.Rows L2 AB
open TL (tl)
/-- the same world, where it may not be known that no repr is under way -/
abbrev Gx.no (G : Gx) : Gx := { G with q := False }
section
variable {G : Gx} {H : Hp} {F : Addr → Prop} {z : Prop}
theorem Rp.q {v : V} {d : D} (h : Rp G H F v d) : Rp { G with q := z } H F v d := by
  refine Rp.rec (G := G) (H := H) (F := F) (motive_1 := fun v d _ => Rp { G with q := z } H F v d) (motive_2 := fun vs ds _ => RpAll { G with q := z } H F vs ds)
    .non .bl .int (fun h => .str h) .ty (fun a b h => .ref a b h) (fun s _ r => .tup s r) (fun e n _ r => .lst e n r) (fun s _ r => .flz s r)
    (fun e n k _ r => .dct e n k r) (fun e n k _ r => .dcT e n k r)
    (fun g e e2 n n2 k _ r => .ins g e e2 n n2 k r) .nil (fun _ _ a b => .cons a b) h
theorem RpAll.q {vs : List V} {ds : List D} (h : RpAll G H F vs ds) : RpAll { G with q := z } H F vs ds := by
  induction vs generalizing ds with
  | nil => cases h; exact .nil
  | cons v vs ih =>
    cases h with
    | cons a b => exact .cons a.q (ih b)
theorem XR.q {c : Value} {d : Option Addr} {x : Xc} (h : XR G H F c d x) : XR { G with q := z } H F c d x := by
  obtain ⟨g, h⟩ := h
  refine ⟨g, h.imp id ?_⟩
  rintro ⟨a, vs, e1, e2, e3, r⟩
  exact ⟨a, vs, e1, e2, e3, r.q⟩
end
def PostG (G : Gx) (W : WX) (C : Fr) (σ : L2.St) (ε : Ev) (H : Hp) (E : GEnds) : Re (Fl × List D) → Prop
  | .ok (.nx, ds) ε' => ∀ ys σ' H', Stp σ ε σ' ε' H H' → Ok G C H' σ' ε' → RpAll G H' (C.F σ' ε') ys ds → E.nx ys σ' H'
  | .ok (.bk, ds) ε' => ∀ ys σ' H', Stp σ ε σ' ε' H H' → Ok G C H' σ' ε' → RpAll G H' (C.F σ' ε') ys ds → E.bk ys σ' H'
  | .ok (.ct, ds) ε' => ∀ ys σ' H', Stp σ ε σ' ε' H H' → Ok G C H' σ' ε' → RpAll G H' (C.F σ' ε') ys ds → E.ct ys σ' H'
  | .ok (.rt fv, ds) ε' => ∀ ys σ' v H', Stp σ ε σ' ε' H H' → Ok G C H' σ' ε' → VR G C C.H0 H' σ' ε' v fv → RpAll G H' (C.F σ' ε') ys ds → E.rt ys v H'
  | .exc x ε' => ∀ c d σ' H', Stp σ ε σ' ε' H H' → Ok G C H' σ' ε' → XR G H' (C.F σ' ε') c d x → W c d σ' H'
  | .no => False
section
variable {G : Gx} {X : Cx} {W : WX} {C : Fr} {σ σ1 : L2.St} {ε ε1 : Ev} {H H1 : Hp}
theorem GS.imp {s : Stmt} {t t' : TGn} (h : GS X s t) (k : ∀ D ys σ H, t' D ys σ H → t D ys σ H) : GS X s t' :=
  ⟨fun A S ip R n ys s₀ c fs K J gd lv s σ H D g hn kk hI ht => h.run A S ip R n ys s₀ c fs K J gd lv s σ H D g hn kk hI (k D ys σ H ht)⟩
theorem GSs.imp {s : List Stmt} {t t' : TGn} (h : GSs X s t) (k : ∀ D ys σ H, t' D ys σ H → t D ys σ H) : GSs X s t' :=
  ⟨fun A S ip R n ys s₀ c fs K J gd lv s σ H D g hn kk hI ht => h.run A S ip R n ys s₀ c fs K J gd lv s σ H D g hn kk hI (k D ys σ H ht)⟩
theorem PostG.from (st : Stp σ ε σ1 ε1 H H1) {E : GEnds} {r : Re (Fl × List D)} (h : PostG G W C σ ε H E r) : PostG G W C σ1 ε1 H1 E r := by
  cases r with
  | ok b ε' =>
    obtain ⟨f, ds⟩ := b
    cases f with
    | nx => exact fun ys σ' H' s k => h ys σ' H' (st.trans s) k
    | bk => exact fun ys σ' H' s k => h ys σ' H' (st.trans s) k
    | ct => exact fun ys σ' H' s k => h ys σ' H' (st.trans s) k
    | rt fv => exact fun ys σ' v H' s k r => h ys σ' v H' (st.trans s) k r
  | exc x ε' => exact fun c d σ' H' s k r => h c d σ' H' (st.trans s) k r
  | no => exact h
end
end PL
/-! PU3: a generator def's promise; list(o.m(..)) -/
namespace PL
open PySem PySem.Spec PyProof.Rows L2 AB
open TL (tl)
end PL
namespace PL
open PySem PySem.Spec PyProof.Rows L2 AB
end PL
/-! PU4: len(o) by an own __len__ -/
namespace PL
open PySem PySem.Spec PyProof.Rows L2 AB PySem.Calls
open TL (tl)
end PL
/-! PU6: == and != of objects by an own __eq__ -/
namespace PL
open PySem PySem.Spec PyProof.Rows L2 AB
open TL (tl)
end PL
/-! PU7: == of lists of objects, object by object -/
namespace PL
open PySem PySem.Spec PyProof.Rows L2 AB
open TL (tl)
section
variable {G : Gx} {X : Cx} {W : WX} {C : Fr} {σ : L2.St} {ε : Ev} {H H' H1 H2 : Hp} {F : Addr → Prop} {k : Nat}
theorem Kpt.trans (a : Kpt G [] H H1) (b : Kpt G [] H1 H2) : Kpt G [] H H2 := ⟨fun c o e n t => b.1 c o (a.1 c o e n t) n t, fun c e => a.2.1 c (b.2.1 c e), b.2.2⟩
theorem Kpt.mv (a : Kpt G [] H H1) : Mv H H1 F F := ⟨fun b o e _ t => a.1 b o e (by simp) t, fun _ z => .inl z⟩
end
end PL
/-! PU8: the plain layer's == and != of objects (own __eq__), and == of lists of objects -/
namespace PL
open PySem PySem.Spec PyProof.Rows L2 AB
open TL (tl)
end PL
/-! PU9: == and != by an own __eq__: of two objects (also of a class and one below it), of an object and any data; of other data as before -/
namespace PL
open PySem PySem.Spec PyProof.Rows L2 AB
open TL (tl)
section
variable {G : Gx} {X : Cx} {W : WX} {C : Fr} {σ : L2.St} {ε : Ev} {H H' H1 H2 : Hp} {F : Addr → Prop} {k k' : Nat}
/-- != is object's own -/
def neB (K : PySem.W.Frag) (Ca : Addr) : Bool := PySem.W.findIn K (.ref Ca) "__ne__" == some (some (.builtin "object.__ne__")) && PySem.W.subIn K (.ref Ca) (.type "object") == some true
def boF (neg : Bool) : Re Fv → Re Fv
  | .ok (.sh (.bl b)) ε => .ok (.sh (.bl (if neg = true then !b else b))) ε
  | _ => .no
/-- sub: the pairs (class, class above it); then the lower class's __eq__ is asked -/
def eqOF (tab : List (Str × (List D → Rf))) (sub : List (Str × Str)) (neg : Bool) (x y : Fv) (ε : Ev) : Option D → Option D → Re Fv
  | some (.ins n _), some (.ins m _) => match tab.lookup n, tab.lookup m with
    | some den, some den' => if sub.contains (m, n) = true then boF neg (callF [false, false] den' [y, x] ε) else boF neg (callF [false, false] den [x, y] ε)
    | _, _ => .no
  | some (.ins n _), some d => match tab.lookup n, tyN d with
    | some den, some _ => boF neg (callF [false, false] den [x, y] ε)
    | _, _ => .no
  | _, _ => o2 ε (if neg = true then neO else eqO) x y
def dEqO (tab : List (Str × (List D → Rf))) (sub : List (Str × Str)) (neg : Bool) (da db : Dn Fv) : Dn Fv := fun ε => (da ε).bind fun x ε1 => (db ε1).bind fun y ε2 => eqOF tab sub neg x.old y.old ε2 (rd ε2 x.old) (rd ε2 y.old)
/-- the classes of the table: object's !=, and which goes first -/
structure ETab (G : Gx) (tab : List (Str × (List D → Rf))) (sub : List (Str × Str)) : Prop where
  ne : ∀ n, (tab.lookup n).isSome = true → ∀ Ca, G.mg n = some (.ref Ca) → neB G.K Ca = true
  two : ∀ n m, (tab.lookup n).isSome = true → (tab.lookup m).isSome = true → ∀ Ca Cb, G.mg n = some (.ref Ca) → G.mg m = some (.ref Cb) → if sub.contains (m, n) = true then Ca ≠ Cb ∧ PySem.W.subIn G.K (.ref Cb) (.ref Ca) = some true else PySem.W.notFirst G.K Ca (.ref Cb) = true
  blt : ∀ n, (tab.lookup n).isSome = true → ∀ Ca, G.mg n = some (.ref Ca) → ∀ t ∈ kindsD, PySem.W.notFirst G.K Ca (.type t) = true
def eqChk (K : PySem.W.Frag) (ls : List (Str × Addr)) (sub : List (Str × Str)) : Bool := ls.all fun p => neB K p.2 && kindsD.all (fun t => PySem.W.notFirst K p.2 (.type t)) && ls.all fun q => if sub.contains (q.1, p.1) then p.2 != q.2 && PySem.W.subIn K (.ref q.2) (.ref p.2) == some true else PySem.W.notFirst K p.2 (.ref q.2)
theorem look_mem {β : Type} : ∀ {tab : List (Str × β)} {n : Str}, (tab.lookup n).isSome = true → n ∈ tab.map (·.1)
  | [], _, h => by cases h
  | (m, b) :: tab, n, h => by
    unfold List.lookup at h
    cases q : n == m with
    | true => obtain rfl := eq_of_beq q; exact List.mem_cons_self
    | false => rw [q] at h; exact List.mem_cons_of_mem _ (look_mem h)
theorem ETab.of {tab : List (Str × (List D → Rf))} {sub : List (Str × Str)} (ls : List (Str × Addr)) (hg : ∀ p ∈ ls, G.mg p.1 = some (.ref p.2)) (hk : tab.map (·.1) = ls.map (·.1)) (chk : eqChk G.K ls sub = true) : ETab G tab sub := by
  have at_ : ∀ n, (tab.lookup n).isSome = true → ∀ Ca, G.mg n = some (.ref Ca) → (n, Ca) ∈ ls := fun n h Ca g => by
    have := look_mem h
    rw [hk] at this
    obtain ⟨p, hp, rfl⟩ := List.mem_map.mp this
    rw [hg p hp] at g
    cases g
    exact hp
  unfold eqChk at chk
  rw [List.all_eq_true] at chk
  refine ⟨fun n h Ca g => ?_, fun n m hn hm Ca Cb gn gm => ?_, fun n h Ca g t ht => ?_⟩
  · have := chk _ (at_ n h Ca g)
    simp only [Bool.and_eq_true] at this
    exact this.1.1
  · have := chk _ (at_ n hn Ca gn)
    simp only [Bool.and_eq_true, List.all_eq_true] at this
    have := this.2 _ (at_ m hm Cb gm)
    dsimp only at this
    split
    · rename_i q
      rw [if_pos q] at this
      simp only [Bool.and_eq_true, bne_iff_ne, beq_iff_eq] at this
      exact this
    · rename_i q
      rw [if_neg q] at this
      exact this
  · have := chk _ (at_ n h Ca g)
    simp only [Bool.and_eq_true, List.all_eq_true] at this
    exact this.1.2 t ht
theorem PE.or {e : Expr} {t1 t2 : TE} (h1 : PE X e t1) (h2 : PE X e t2) : PE X e (fun σ H Q => t1 σ H Q ∨ t2 σ H Q) := ⟨fun pins s σ H Q I h => h.elim (h1.run pins s σ H Q I) (h2.run pins s σ H Q I)⟩
theorem PT.or {e : Expr} {t1 t2 : TE} (h1 : PT X e (tTest t1)) (h2 : PT X e (tTest t2)) : PT X e (tTest fun σ H Q => t1 σ H Q ∨ t2 σ H Q) := ⟨fun pins s σ H Q I h => Or.elim h (h1.run pins s σ H Q I) (h2.run pins s σ H Q I)⟩
end
end PL
/-! PV0: x + y by an own __add__, both objects -/
namespace PL
open PySem PySem.Spec PyProof.Rows L2 AB PySem.W PySem.Calls
open TL (tl)
section
variable {G : Gx} {X : Cx} {W : WX} {C : Fr} {σ : L2.St} {ε : Ev} {H H' H1 H2 : Hp} {F : Addr → Prop} {k k' : Nat}
def addB (K : PySem.W.Frag) (Ca Cb : Addr) : Bool := PySem.W.selfFirst K Ca && PySem.W.findIn K (.ref Ca) "__radd__" == some none && (Ca == Cb || (PySem.W.selfFirst K Cb && (match PySem.W.findIn K (.ref Cb) "__add__" with
  | some (some (.ref _)) => true
  | _ => false) && PySem.W.findIn K (.ref Cb) "__radd__" == some none && PySem.W.subIn K (.ref Cb) (.ref Ca) == some false))
def adQ (ε : Ev) (fv : Fv) : Option D → Re Fv
  | some (.ins _ _) => .ok fv ε
  | _ => .no
def adF : Re Fv → Re Fv
  | .ok fv ε => adQ ε fv (rd ε fv)
  | _ => .no
def addOF (tab : List (Str × (List D → Rf))) (sub : List (Str × Str)) (x y : Fv) (ε : Ev) : Option D → Option D → Re Fv
  | some (.ins n _), some (.ins m _) => match tab.lookup n, tab.lookup m with
    | some den, some _ => if sub.contains (m, n) = true then .no else adF (callF [false, false] den [x, y] ε)
    | _, _ => .no
  | _, _ => .no
def dAddO (tab : List (Str × (List D → Rf))) (sub : List (Str × Str)) (da db : Dn Fv) : Dn Fv := fun ε => (da ε).bind fun x ε1 => (db ε1).bind fun y ε2 => addOF tab sub x.old y.old ε2 (rd ε2 x.old) (rd ε2 y.old)
def ATab (G : Gx) (tab : List (Str × (List D → Rf))) (sub : List (Str × Str)) : Prop := ∀ n m, (tab.lookup n).isSome = true → (tab.lookup m).isSome = true → ∀ Ca Cb, G.mg n = some (.ref Ca) → G.mg m = some (.ref Cb) → sub.contains (m, n) = true ∨ addB G.K Ca Cb = true
def addChk (K : PySem.W.Frag) (ls : List (Str × Addr)) (sub : List (Str × Str)) : Bool := ls.all fun p => ls.all fun q => sub.contains (q.1, p.1) || addB K p.2 q.2
theorem ATab.of {tab : List (Str × (List D → Rf))} {sub : List (Str × Str)} (ls : List (Str × Addr)) (hg : ∀ p ∈ ls, G.mg p.1 = some (.ref p.2)) (hk : tab.map (·.1) = ls.map (·.1)) (chk : addChk G.K ls sub = true) : ATab G tab sub := by
  have at_ : ∀ n, (tab.lookup n).isSome = true → ∀ Ca, G.mg n = some (.ref Ca) → (n, Ca) ∈ ls := fun n h Ca g => by
    have := look_mem h
    rw [hk] at this
    obtain ⟨p, hp, rfl⟩ := List.mem_map.mp this
    rw [hg p hp] at g
    cases g
    exact hp
  unfold addChk at chk
  simp only [List.all_eq_true, Bool.or_eq_true] at chk
  exact fun n m hn hm Ca Cb gn gm => chk _ (at_ n hn Ca gn) _ (at_ m hm Cb gm)
end
end PL
/-! PV1: C.m(..), m a classmethod of the class C -/
namespace PL
open PySem PySem.Spec PyProof.Rows L2 AB
open TL (tl)
section
variable {G : Gx} {X : Cx} {W : WX} {C : Fr} {σ : L2.St} {ε : Ev} {H H' H1 H2 : Hp} {F : Addr → Prop} {k k' : Nat}
def dCM (mask : List Bool) (f : List D → Rf) (da : Dn (List Fv)) : Dn Fv := fun ε => (da ε).bind fun as ε1 => callF mask f (.sh (.ref 0) :: as) ε1
end
end PL
/-! PV2: o.m(.., x=..): methods called with keywords -/
namespace PL
open PySem PySem.Spec PyProof.Rows L2 AB
open TL (tl)
section
variable {G : Gx} {X : Cx} {W : WX} {C : Fr} {σ : L2.St} {ε : Ev} {H H' H1 H2 : Hp} {F : Addr → Prop} {k k' : Nat}
def KTab (G : Gx) (k : Nat) (m : Str) (ks : List Str) (n mm : Nat) (idx : List Nat) (mask : List Bool) (tab : List (Str × (List D → Rf))) : Prop := ∀ c den, tab.lookup c = some den → ∀ Ca, G.mg c = some (.ref Ca) →
  Cls G.K Ca ∧ ∃ j f fd ps, j ≤ k ∧ Meth G.K Ca m f ∧ FnP G j f fd ps mask den ∧ KBinds G.K fd ps ks (kperm n mm idx) (kperm n mm idx)
theorem KTab.nil {m : Str} {ks : List Str} {n mm : Nat} {idx : List Nat} {mask : List Bool} : KTab G k m ks n mm idx mask [] := fun _ _ h => by cases h
theorem KTab.cons {m c : Str} {ks : List Str} {n mm : Nat} {idx : List Nat} {mask : List Bool} {den : List D → Rf} {tab : List (Str × (List D → Rf))} {Ca f : Addr} {j : Nat} {fd : FuncData} {ps : List Str} (g : G.mg c = some (.ref Ca)) (cc : Cls G.K Ca) (hm : Meth G.K Ca m f) (Fp : FnP G j f fd ps mask den)
    (hb : KBinds G.K fd ps ks (kperm n mm idx) (kperm n mm idx)) (hj : j ≤ k) (h : KTab G k m ks n mm idx mask tab) : KTab G k m ks n mm idx mask ((c, den) :: tab) := fun n' den' hl Cb gb => by
  unfold List.lookup at hl
  cases q : n' == c with
  | true =>
    rw [q] at hl
    cases hl
    obtain rfl : n' = c := eq_of_beq q
    rw [g] at gb
    cases gb
    exact ⟨cc, j, f, fd, ps, hj, hm, Fp, hb⟩
  | false => rw [q] at hl; exact h n' den' hl Cb gb
theorem KTab.mono {m : Str} {ks : List Str} {n mm : Nat} {idx : List Nat} {mask : List Bool} {tab : List (Str × (List D → Rf))} (h : KTab G k m ks n mm idx mask tab) (hk : k ≤ k') : KTab G k' m ks n mm idx mask tab := fun n den hl Ca g => by
  obtain ⟨c, j, f, fd, ps, hj, r⟩ := h n den hl Ca g
  exact ⟨c, j, f, fd, ps, Nat.le_trans hj hk, r⟩
def dMethK (m : Str) (n mm : Nat) (idx : List Nat) (mask : List Bool) (tab : List (Str × (List D → Rf))) (do_ : Dn Fv) (da dk : Dn (List Fv)) : Dn Fv := fun ε => (do_ ε).bind fun x ε1 => match rd ε1 x with
  | some (.ins c fs) => if (fs.lookup m).isNone = true then match tab.lookup c with
    | some den => (da ε1).bind fun as ε2 => (dk ε2).bind fun bs ε3 => callF mask den (kperm n mm idx (x.old :: as) bs) ε3
    | none => .no
    else .no
  | _ => .no
end
end PL
/-! PV3: evaluation of ==, + of objects, classmethods, methods with keywords -/
namespace PL
open PySem PySem.Spec PyProof.Rows L2 AB
open TL (tl)
@[simp] theorem boF_ok (neg : Bool) (b : Bool) (ε : Ev) : boF neg (.ok (.sh (.bl b)) ε) = .ok (.sh (.bl (if neg = true then !b else b))) ε := rfl
def kEq1 (neg : Bool) (x y : Fv) (ε : Ev) : Option (List D → Rf) → Re Fv
  | some den => boF neg (callF [false, false] den [x, y] ε)
  | none => .no
@[simp] theorem kEq1_some (neg : Bool) (x y : Fv) (ε : Ev) (den : List D → Rf) : kEq1 neg x y ε (some den) = boF neg (callF [false, false] den [x, y] ε) := rfl
def kEq2 (c : Bool) (neg : Bool) (x y : Fv) (ε : Ev) : Option (List D → Rf) → Option (List D → Rf) → Re Fv
  | some den, some den' => if c = true then boF neg (callF [false, false] den' [y, x] ε) else boF neg (callF [false, false] den [x, y] ε)
  | _, _ => .no
@[simp] theorem kEq2_some (c neg : Bool) (x y : Fv) (ε : Ev) (den den' : List D → Rf) : kEq2 c neg x y ε (some den) (some den') = if c = true then boF neg (callF [false, false] den' [y, x] ε) else boF neg (callF [false, false] den [x, y] ε) := rfl
section
variable (tab : List (Str × (List D → Rf))) (sub : List (Str × Str)) (neg : Bool) (x y : Fv) (ε : Ev) (n m : Str) (fs gs : List (Str × D))
@[simp] theorem eqOF_ins : eqOF tab sub neg x y ε (some (.ins n fs)) (some (.ins m gs)) = kEq2 (sub.contains (m, n)) neg x y ε (tab.lookup n) (tab.lookup m) := by
  unfold eqOF
  dsimp only
  cases tab.lookup n <;> cases tab.lookup m <;> rfl
theorem eqOF_blt {d : D} {t : String} (h : tyN d = some t) : eqOF tab sub neg x y ε (some (.ins n fs)) (some d) = kEq1 neg x y ε (tab.lookup n) := by
  have e : eqOF tab sub neg x y ε (some (.ins n fs)) (some d) = match tab.lookup n, tyN d with
    | some den, some _ => boF neg (callF [false, false] den [x, y] ε)
    | _, _ => .no := by cases d <;> first | rfl | cases h
  rw [e, h]
  cases tab.lookup n <;> rfl
@[simp] theorem eqOF_str (l : List Nat) : eqOF tab sub neg x y ε (some (.ins n fs)) (some (.str l)) = kEq1 neg x y ε (tab.lookup n) := eqOF_blt _ _ _ _ _ _ _ _ rfl
@[simp] theorem eqOF_tup (l : List D) : eqOF tab sub neg x y ε (some (.ins n fs)) (some (.tup l)) = kEq1 neg x y ε (tab.lookup n) := eqOF_blt _ _ _ _ _ _ _ _ rfl
@[simp] theorem eqOF_lst (l : List D) : eqOF tab sub neg x y ε (some (.ins n fs)) (some (.lst l)) = kEq1 neg x y ε (tab.lookup n) := eqOF_blt _ _ _ _ _ _ _ _ rfl
@[simp] theorem eqOF_int (i : Int) : eqOF tab sub neg x y ε (some (.ins n fs)) (some (.int i)) = kEq1 neg x y ε (tab.lookup n) := eqOF_blt _ _ _ _ _ _ _ _ rfl
@[simp] theorem eqOF_bl (b : Bool) : eqOF tab sub neg x y ε (some (.ins n fs)) (some (.bl b)) = kEq1 neg x y ε (tab.lookup n) := eqOF_blt _ _ _ _ _ _ _ _ rfl
@[simp] theorem eqOF_non : eqOF tab sub neg x y ε (some (.ins n fs)) (some .non) = kEq1 neg x y ε (tab.lookup n) := eqOF_blt _ _ _ _ _ _ _ _ rfl
def kEqb (y : Fv) (ε : Ev) : Re Fv := eqOF tab sub neg x.old y.old ε (rd ε x.old) (rd ε y.old)
@[simp] theorem kEqb_ev : kEqb tab sub neg x y ε = eqOF tab sub neg x.old y.old ε (rd ε x.old) (rd ε y.old) := rfl
def kEqa (db : Dn Fv) (x : Fv) (ε : Ev) : Re Fv := (db ε).bind (kEqb tab sub neg x)
@[simp] theorem kEqa_ev (db : Dn Fv) : kEqa tab sub neg db x ε = (db ε).bind (kEqb tab sub neg x) := rfl
@[simp] theorem dEqO_ev (da db : Dn Fv) : dEqO tab sub neg da db ε = (da ε).bind (kEqa tab sub neg db) := rfl
@[simp] theorem adQ_ins : adQ ε x (some (.ins n fs)) = .ok x ε := rfl
@[simp] theorem adF_ok : adF (.ok x ε) = adQ ε x (rd ε x) := rfl
def kAd2 (c : Bool) (x y : Fv) (ε : Ev) : Option (List D → Rf) → Option (List D → Rf) → Re Fv
  | some den, some _ => if c = true then .no else adF (callF [false, false] den [x, y] ε)
  | _, _ => .no
@[simp] theorem kAd2_some (c : Bool) (den den' : List D → Rf) : kAd2 c x y ε (some den) (some den') = if c = true then .no else adF (callF [false, false] den [x, y] ε) := rfl
@[simp] theorem addOF_ins : addOF tab sub x y ε (some (.ins n fs)) (some (.ins m gs)) = kAd2 (sub.contains (m, n)) x y ε (tab.lookup n) (tab.lookup m) := by
  unfold addOF
  dsimp only
  cases tab.lookup n <;> cases tab.lookup m <;> rfl
def kAdb (y : Fv) (ε : Ev) : Re Fv := addOF tab sub x.old y.old ε (rd ε x.old) (rd ε y.old)
@[simp] theorem kAdb_ev : kAdb tab sub x y ε = addOF tab sub x.old y.old ε (rd ε x.old) (rd ε y.old) := rfl
def kAda (db : Dn Fv) (x : Fv) (ε : Ev) : Re Fv := (db ε).bind (kAdb tab sub x)
@[simp] theorem kAda_ev (db : Dn Fv) : kAda tab sub db x ε = (db ε).bind (kAdb tab sub x) := rfl
@[simp] theorem dAddO_ev (da db : Dn Fv) : dAddO tab sub da db ε = (da ε).bind (kAda tab sub db) := rfl
end
def kCM (mask : List Bool) (f : List D → Rf) (as : List Fv) (ε : Ev) : Re Fv := callF mask f (.sh (.ref 0) :: as) ε
@[simp] theorem kCM_ev (mask : List Bool) (f : List D → Rf) (as : List Fv) (ε : Ev) : kCM mask f as ε = callF mask f (.sh (.ref 0) :: as) ε := rfl
@[simp] theorem dCM_ev (mask : List Bool) (f : List D → Rf) (da : Dn (List Fv)) (ε : Ev) : dCM mask f da ε = (da ε).bind (kCM mask f) := rfl
/-! methods with keywords -/
def kKt5 (n mm : Nat) (idx : List Nat) (mask : List Bool) (den : List D → Rf) (x : Fv) (as bs : List Fv) (ε : Ev) : Re Fv := callF mask den (kperm n mm idx (x.old :: as) bs) ε
@[simp] theorem kKt5_ev (n mm : Nat) (idx : List Nat) (mask : List Bool) (den : List D → Rf) (x : Fv) (as bs : List Fv) (ε : Ev) : kKt5 n mm idx mask den x as bs ε = callF mask den (kperm n mm idx (x.old :: as) bs) ε := rfl
def kKt4 (n mm : Nat) (idx : List Nat) (mask : List Bool) (dk : Dn (List Fv)) (den : List D → Rf) (x : Fv) (as : List Fv) (ε : Ev) : Re Fv := (dk ε).bind (kKt5 n mm idx mask den x as)
@[simp] theorem kKt4_ev (n mm : Nat) (idx : List Nat) (mask : List Bool) (dk : Dn (List Fv)) (den : List D → Rf) (x : Fv) (as : List Fv) (ε : Ev) : kKt4 n mm idx mask dk den x as ε = (dk ε).bind (kKt5 n mm idx mask den x as) := rfl
def kKt3 (n mm : Nat) (idx : List Nat) (mask : List Bool) (da dk : Dn (List Fv)) (x : Fv) (ε : Ev) : Option (List D → Rf) → Re Fv
  | some den => (da ε).bind (kKt4 n mm idx mask dk den x)
  | none => .no
@[simp] theorem kKt3_some (n mm : Nat) (idx : List Nat) (mask : List Bool) (da dk : Dn (List Fv)) (x : Fv) (ε : Ev) (den : List D → Rf) : kKt3 n mm idx mask da dk x ε (some den) = (da ε).bind (kKt4 n mm idx mask dk den x) := rfl
def kKt2 (m : Str) (n mm : Nat) (idx : List Nat) (mask : List Bool) (tab : List (Str × (List D → Rf))) (da dk : Dn (List Fv)) (x : Fv) (ε : Ev) : Option D → Re Fv
  | some (.ins c fs) => if (fs.lookup m).isNone = true then kKt3 n mm idx mask da dk x ε (tab.lookup c) else .no
  | _ => .no
@[simp] theorem kKt2_ins (m : Str) (n mm : Nat) (idx : List Nat) (mask : List Bool) (tab : List (Str × (List D → Rf))) (da dk : Dn (List Fv)) (x : Fv) (ε : Ev) (c : Str) (fs : List (Str × D)) : kKt2 m n mm idx mask tab da dk x ε (some (.ins c fs)) = if (fs.lookup m).isNone = true then kKt3 n mm idx mask da dk x ε (tab.lookup c) else .no := rfl
def kKt1 (m : Str) (n mm : Nat) (idx : List Nat) (mask : List Bool) (tab : List (Str × (List D → Rf))) (da dk : Dn (List Fv)) (x : Fv) (ε : Ev) : Re Fv := kKt2 m n mm idx mask tab da dk x ε (rd ε x)
@[simp] theorem kKt1_ev (m : Str) (n mm : Nat) (idx : List Nat) (mask : List Bool) (tab : List (Str × (List D → Rf))) (da dk : Dn (List Fv)) (x : Fv) (ε : Ev) : kKt1 m n mm idx mask tab da dk x ε = kKt2 m n mm idx mask tab da dk x ε (rd ε x) := rfl
@[simp] theorem dMethK_ev (m : Str) (n mm : Nat) (idx : List Nat) (mask : List Bool) (tab : List (Str × (List D → Rf))) (do_ : Dn Fv) (da dk : Dn (List Fv)) (ε : Ev) : dMethK m n mm idx mask tab do_ da dk ε = (do_ ε).bind (kKt1 m n mm idx mask tab da dk) := by
  have e : ∀ (x : Fv) (ε1 : Ev), (match rd ε1 x with
    | some (.ins c fs) => if (fs.lookup m).isNone = true then match tab.lookup c with
      | some den => (da ε1).bind fun as ε2 => (dk ε2).bind fun bs ε3 => callF mask den (kperm n mm idx (x.old :: as) bs) ε3
      | none => .no
      else .no
    | _ => .no) = kKt1 m n mm idx mask tab da dk x ε1 := fun x ε1 => by
    rw [kKt1_ev]
    cases rd ε1 x with
    | none => rfl
    | some d =>
      cases d with
      | ins n fs =>
        rw [kKt2_ins]
        dsimp only
        cases tab.lookup n <;> rfl
      | _ => rfl
  unfold dMethK
  exact congrArg (fun k => (do_ ε).bind k) (funext fun x => funext fun ε1 => e x ε1)
end PL
/-! PV4: super().__init__() where the class above takes a star parameter -/
namespace PL
open PySem PySem.Spec PyProof.Rows L2 AB
open PySem.W (ksEnv ksFn)
open TL (tl)
open ClX (met_new callwith_cm base_none pin_at unpinE)
section
variable {G : Gx} {W : WX} {k : Nat}
def supVF (den : List D → Rf) (ε1 : Ev) : Re Fl := (callV [true, false] den (.at 0) [] ε1).bind fun _ ε2 => .ok .nx ε2
def sDSupV (ns : List Str) (den : List D → Rf) : Dn Fl := fun ε => match ε[(0 : Nat)]? with
  | some (.io (.ins n _)) => if n ∈ ns then supVF den ε else .no
  | _ => .no
def kSv (_ : Fv) (ε : Ev) : Re Fl := .ok .nx ε
@[simp] theorem kSv_ev (x : Fv) (ε : Ev) : kSv x ε = .ok .nx ε := rfl
@[simp] theorem supVF_ev (den : List D → Rf) (ε : Ev) : supVF den ε = (callF [true, false] den [.at 0, .sh (.tup [])] ε).bind kSv := rfl
@[simp] theorem sDSupV_ev (ns : List Str) (den : List D → Rf) (n : Str) (fs : List (Str × D)) (ε : Ev) : sDSupV ns den (.io (.ins n fs) :: ε) = if n ∈ ns then supVF den (.io (.ins n fs) :: ε) else .no := rfl
end
end PL
/-! PV5: xs.insert(i, y) -/
namespace PL
open PySem PySem.Spec PyProof.Rows L2 AB
open TL (tl)
end PL
/-! PV6: (a, b, ..) = a list -/
namespace PL
open PySem PySem.Spec PyProof.Rows L2 AB
open TL (tl)
section
variable {G : Gx} {X : Cx} {W : WX} {C : Fr} {σ : L2.St} {ε : Ev} {H H' : Hp} {F : Addr → Prop} {k : Nat}
def tgU (n : Nat) (gs : List D → Ev → Option Ev) : Tg := fun d ε => match d with
  | .lst ds => if ds.length = n then gs ds ε else none
  | _ => none
@[simp] theorem tgU_ev (n : Nat) (gs : List D → Ev → Option Ev) (ds : List D) (ε : Ev) : tgU n gs (.lst ds) ε = if ds.length = n then gs ds ε else none := rfl
end
end PL
/-! PV7: isinstance(e, (C1, C2, ..)), own classes -/
namespace PL
open PySem PySem.Spec PyProof.Rows L2 AB
open TL (tl)
section
variable {G : Gx} {X : Cx} {W : WX} {C : Fr} {σ : L2.St} {ε : Ev} {H H' : Hp} {F : Addr → Prop} {k : Nat}
def anyT (n : Str) : List (List (Str × Bool)) → Option Bool
  | [] => some false
  | t :: ts => match t.lookup n with
    | some true => some true
    | some false => anyT n ts
    | none => none
inductive ITs (G : Gx) : List Addr → List (List (Str × Bool)) → Prop
  | nil : ITs G [] []
  | cons {c : Addr} {cs : List Addr} {t : List (Str × Bool)} {ts : List (List (Str × Bool))} : ITab G c t → ITs G cs ts → ITs G (c :: cs) (t :: ts)
theorem ITs.own {cs : List Addr} {ts : List (List (Str × Bool))} (T : ITs G cs ts) {n : Str} {Ca : Addr} (g : G.mg n = some (.ref Ca)) : ∀ b, anyT n ts = some b → PySem.W.kitAny G.K (.ref Ca) (cs.map Value.ref) = some b ∧ (cs ≠ [] → InsC G.K Ca) := by
  induction T with
  | nil => intro b h; cases h; exact ⟨kitAny_nil, fun z => absurd rfl z⟩
  | @cons c cs t ts T1 T ih =>
    intro b h
    unfold anyT at h
    cases q : t.lookup n with
    | none => rw [q] at h; cases h
    | some b1 =>
      rw [q] at h
      obtain ⟨ic, k1⟩ := T1.own n b1 q Ca g
      cases b1 with
      | true => cases h; exact ⟨kitAny_cons k1 (fun z => by cases z) (fun _ => rfl), fun _ => ic⟩
      | false => exact ⟨kitAny_cons k1 (fun _ => (ih b h).1) (fun z => by cases z), fun _ => ic⟩
theorem ITs.blt {cs : List Addr} {ts : List (List (Str × Bool))} (T : ITs G cs ts) {t : String} (h : t ∈ kindsD) : PySem.W.kitAny G.K (.type t) (cs.map Value.ref) = some false := by
  induction T with
  | nil => exact kitAny_nil
  | cons T1 T ih => exact kitAny_cons (T1.blt t h) (fun _ => ih) (fun z => by cases z)
structure CN (X : Cx) (es : List Expr) (cs : List Addr) : Prop where
  pa : PA X es (fun σ H Q => Q (cs.map V.ref) H)
theorem CN.nil : CN X [] [] := ⟨pa_nil⟩
theorem CN.cons {n : Str} {p : Pos} {Ca : Addr} {es : List Expr} {cs : List Addr} (hg : Gl X n) (hm : X.mg n = some (.ref Ca)) (h : CN X es cs) (hd : (n == ("__debug__" : Str)) = false := by decide)
    (hs : starEach (.Name n p :: es) X.env = (false, eval (.Name n p) X.env) :: starEach es X.env := by rfl) : CN X (.Name n p :: es) (Ca :: cs) :=
  ⟨PA.imp (pa_cons (pe_glob (v := .ref Ca) hg hm rfl hd) h.pa hs) fun σ H Q q => q⟩
@[simp] theorem anyT_nil (n : Str) : anyT n [] = some false := rfl
end
end PL
/-! PV8: a class has no such attribute; x + y where y's class is below x's -/
namespace PL
open PySem PySem.Spec PyProof.Rows L2 AB PySem.W PySem.Calls
open TL (tl)
section
variable {prog : Program} {w : World} {A : Around} {E : Value → Shared → Prop} {s : Shared} {K : PySem.W.Frag} {c : Addr} {cd : ClassData} {name : Str}
def missMsg (cd : ClassData) (name : Str) : Str := (s!"type object '{cd.name.toString}' has no attribute '" : Str) ++ name ++ "'"
def missB (K : PySem.W.Frag) (C : Addr) (name : Str) : Bool := readsIn K C (.type "type") && findIn K (.type "type") name == some none && findIn K (.ref C) name == some none && match clsIn K C with
  | some cd => decide (cd.name.cps.foldl (fun k c => k + (Str.utf8Of c).length) 0 ≤ 100) && decide ((missMsg cd name).length ≤ 1000)
  | none => false
end
end PL
/-! PV9: x + y by an own __add__, of any two objects of one family -/
namespace PL
open PySem PySem.Spec PyProof.Rows L2 AB PySem.W PySem.Calls
open TL (tl)
section
variable {G : Gx} {X : Cx} {W : WX} {C : Fr} {σ : L2.St} {ε : Ev} {H H' H1 H2 : Hp} {F : Addr → Prop} {k k' : Nat}
def addS (K : PySem.W.Frag) (Ca Cb : Addr) : Bool := Ca != Cb && PySem.W.selfFirst K Ca && PySem.W.selfFirst K Cb && PySem.W.findIn K (.ref Ca) "__radd__" == some none && (match PySem.W.findIn K (.ref Cb) "__add__" with
  | some (some (.ref _)) => true
  | _ => false) && PySem.W.findIn K (.ref Cb) "__radd__" == some none && PySem.W.subIn K (.ref Cb) (.ref Ca) == some true && missB K Cb "__radd__"
def addP (K : PySem.W.Frag) (Ca Cb : Addr) : Bool := addB K Ca Cb || addS K Ca Cb
def addOP (tab : List (Str × (List D → Rf))) (x y : Fv) (ε : Ev) : Option D → Option D → Re Fv
  | some (.ins n _), some (.ins m _) => match tab.lookup n, tab.lookup m with
    | some den, some _ => adF (callF [false, false] den [x, y] ε)
    | _, _ => .no
  | _, _ => .no
def dAddP (tab : List (Str × (List D → Rf))) (da db : Dn Fv) : Dn Fv := fun ε => (da ε).bind fun x ε1 => (db ε1).bind fun y ε2 => addOP tab x.old y.old ε2 (rd ε2 x.old) (rd ε2 y.old)
def ATbP (G : Gx) (tab : List (Str × (List D → Rf))) : Prop := ∀ n m, (tab.lookup n).isSome = true → (tab.lookup m).isSome = true → ∀ Ca Cb, G.mg n = some (.ref Ca) → G.mg m = some (.ref Cb) → addP G.K Ca Cb = true
def addPChk (K : PySem.W.Frag) (ls : List (Str × Addr)) : Bool := ls.all fun p => ls.all fun q => addP K p.2 q.2
theorem ATbP.of {tab : List (Str × (List D → Rf))} (ls : List (Str × Addr)) (hg : ∀ p ∈ ls, G.mg p.1 = some (.ref p.2)) (hk : tab.map (·.1) = ls.map (·.1)) (chk : addPChk G.K ls = true) : ATbP G tab := by
  have at_ : ∀ n, (tab.lookup n).isSome = true → ∀ Ca, G.mg n = some (.ref Ca) → (n, Ca) ∈ ls := fun n h Ca g => by
    have := look_mem h
    rw [hk] at this
    obtain ⟨p, hp, rfl⟩ := List.mem_map.mp this
    rw [hg p hp] at g
    cases g
    exact hp
  unfold addPChk at chk
  simp only [List.all_eq_true] at chk
  exact fun n m hn hm Ca Cb gn gm => chk _ (at_ n hn Ca gn) _ (at_ m hm Cb gm)
section
variable (tab : List (Str × (List D → Rf))) (x y : Fv) (n m : Str) (fs gs : List (Str × D))
def kAdp (x y : Fv) (ε : Ev) : Option (List D → Rf) → Option (List D → Rf) → Re Fv
  | some den, some _ => adF (callF [false, false] den [x, y] ε)
  | _, _ => .no
@[simp] theorem kAdp_some (den den' : List D → Rf) : kAdp x y ε (some den) (some den') = adF (callF [false, false] den [x, y] ε) := rfl
@[simp] theorem addOP_ins : addOP tab x y ε (some (.ins n fs)) (some (.ins m gs)) = kAdp x y ε (tab.lookup n) (tab.lookup m) := by
  unfold addOP
  dsimp only
  cases tab.lookup n <;> cases tab.lookup m <;> rfl
def kApb (y : Fv) (ε : Ev) : Re Fv := addOP tab x.old y.old ε (rd ε x.old) (rd ε y.old)
@[simp] theorem kApb_ev : kApb tab x y ε = addOP tab x.old y.old ε (rd ε x.old) (rd ε y.old) := rfl
def kApa (db : Dn Fv) (x : Fv) (ε : Ev) : Re Fv := (db ε).bind (kApb tab x)
@[simp] theorem kApa_ev (db : Dn Fv) : kApa tab db x ε = (db ε).bind (kApb tab x) := rfl
@[simp] theorem dAddP_ev (da db : Dn Fv) : dAddP tab da db ε = (da ε).bind (kApa tab db) := rfl
end
end
end PL
/-! PVA: a caught error told as a list -/
namespace PL
open PySem PySem.Spec PyProof.Rows L2 AB
open TL (tl)
end PL
/-! ER1: own errors as values: made, by position and by name -/
namespace PL
open PySem PySem.Spec PyProof.Rows L2 AB
open TL (tl)
section
variable {G : Gx} {X : Cx} {W : WX} {k : Nat} {H H1 : Hp} {F : Addr → Prop} {σ : L2.St}
theorem errO_ok {P : Program} {w : World} {h : Heap} {a C : Addr} {d : Option Addr} {oe : Obj} {vs : Array Value} (e : h.get? a = some oe) (c : oe.cls = .ref C) (ed : oe.dict = d) (ev : oe.data = .fields vs) : ObjOk P w H h a (ErrO C d a) :=
  ⟨⟨oe, vs, e, c, ed, ev⟩, ⟨oe, e⟩, fun _ _ ⟨o, v, q, r⟩ g => ⟨o, v, g o q, r⟩⟩
/-- an error, made: its fields at d, itself at a -/
def QErr (C : Addr) (fs : List Str) (vs : List V) (H : Hp) (Q : VK) : Prop := ∀ a d, H a = none → H d = none → a ≠ d → Q (.ref a) (upd (upd H d (.xd (fs.zip vs))) a (ErrO C (some d) a))
theorem run_err {fs : List Str} {C : Addr} {pins : List (Addr × Obj)} {s : Shared} {us us0 : List Value} {zs : List V} {kw : List (Str × Value)} {Q : VK} (c : Cok G X W k) (hk : 1 ≤ k)
    {fI : Addr} {B nw it : String} {bm : List Value} {as : List Arg} {body : List Stmt} (xb : PX.XB B nw it bm) (T : PX.XTxt G.prog G.K C fI B nw it bm fs as body) (hI : PX.IniA G.prog G.w G.K G.mg C fI us kw (fs.zip us0)) (hz : us.length ≤ 1000)
    (I : L2.Inv X pins σ H s) (r : Vals zs us0) (q : QErr C fs zs H Q) : wpAny (model X.prog X.w) X.A (call (.ref C) us kw) (EP X pins σ Q) X.xe s := by
  have hKin : G.K.In s.heap := by rw [← c.hK]; exact I.kIn
  have hI' : PX.IniA X.prog X.w G.K G.mg C fI us kw (fs.zip us0) := by rw [c.hP, c.hw]; exact hI
  have hT : PX.XTxt X.prog G.K C fI B nw it bm fs as body := by rw [c.hP]; exact T
  have hgl : s.heap.Ns mainGlobals G.mg := by rw [← c.hm]; exact I.ok.mod.glob.keeps I.bk
  have hbl : ∃ mb, s.heap.Ns builtinsNs mb ∧ mb "super" = some (.type "super") := by
    obtain ⟨mb, b1, b2⟩ := I.ok.mod.blt
    exact ⟨mb, b1.keeps I.bk, by rw [b2 _ (by decide)]; decide +kernel⟩
  refine wpAny_call (PX.x_madeA xb hT hI' hKin I.nolimit hgl hbl (by rw [sizeLine_eq]; omega) ?_ fun h' tk a d md => ?_)
  · have := c.hr.dp; omega
  · obtain ⟨oe, fv, ea, e1, e2, e3, e4⟩ := md.obj
    obtain ⟨Gh, g1, g2⟩ := L2.restrict h' fun b => decide (b ≠ a)
    have gk : ∀ b, b ≠ a → Gh.get? b = h'.get? b := fun b hb => g1 b (decide_eq_true hb)
    have ge : Gh.get? a = none := g2 a (by simp)
    have old : ∀ b o, s.heap.get? b = some o → Gh.get? b = some o := fun b o e => by
      rw [gk b (Nat.ne_of_lt (Nat.lt_of_lt_of_le (Heap.lt_size e) md.new))]; exact md.keep b o e
    have hd1 : H d = none := I.hok.fresh md.dbig
    have ha1 : H a = none := I.hok.fresh md.new
    have nsG : Gh.Ns1 d (PX.fldM (fs.zip us0)) := by
      obtain ⟨o, es', ep, q, r⟩ := md.ns
      exact ⟨o, es', ep, by rw [gk d md.dne]; exact q, r⟩
    have J : L2.Inv X pins σ (upd H d (.xd (fs.zip zs))) { s with heap := Gh, toks := tk } := I.laid old md.dbig ⟨_, nsG, fun f => fld_rel r f⟩
    have up : ∀ b o, Gh.get? b = some o → h'.get? b = some o := fun b o e => by
      by_cases hb : b = a
      · subst hb; rw [ge] at e; cases e
      · rw [gk b hb] at e; exact e
    have ha2 : (upd H d (.xd (fs.zip zs))) a = none := by rw [upd_ne md.dne.symm]; exact ha1
    have J2 : L2.Inv X pins σ (upd (upd H d (.xd (fs.zip zs))) a (ErrO C (some d) a)) { ({ s with heap := Gh, toks := tk } : Shared) with heap := h', toks := tk } := L2.Inv.laidN J up ge ha2 (errO_ok ea e1 e2 e3)
    exact ⟨.ref a, _, J2, rfl, q a d ha1 hd1 md.dne.symm⟩
end
/-! ### X(v, ..) -/
def errF (x : Str) (fs : List Str) (vs : List Fv) (ε : Ev) : Re Fv := match shr vs ε with
  | some (ds, ε') => if ds.length = fs.length then .ok (.sh (.dcT (x, fs.zip ds))) ε' else .no
  | none => .no
def dErr (x : Str) (fs : List Str) (da : Dn (List Fv)) : Dn Fv := fun ε => (da ε).bind (errF x fs)
/-- by names, told from the last field to the first -/
def dErrK (x : Str) (fs : List Str) (da : Dn (List Fv)) : Dn Fv := fun ε => (da ε).bind fun vs ε1 => errF x fs vs.reverse ε1
section
variable {G : Gx} {X : Cx} {W : WX} {C : Fr} {k : Nat} {H H1 : Hp} {σ : L2.St} {ε : Ev} {Q : VK}
theorem errF_sound {x : Str} {fs : List Str} {Ca : Addr} {vfs : List Fv} {vs : List V} (mC : G.mg x = some (.ref Ca)) (ok : Ok G C H σ ε) (vr : VRs G C H σ ε vs vfs) (p : PostE G W C σ ε H Q (errF x fs vfs ε)) :
    vs.length = fs.length ∧ QErr Ca fs vs H Q := by
  unfold errF at p
  cases q : shr vfs ε with
  | none => rw [q] at p; exact p.elim
  | some r =>
    obtain ⟨ds, ε2⟩ := r
    rw [q] at p
    obtain ⟨k2, a, o⟩ := shr_sound ok vr q
    dsimp only at p
    split at p
    · rename_i hlen
      have hv : vs.length = fs.length := by rw [a.length]; exact hlen
      refine ⟨hv, fun e d he hd ne => ?_⟩
      have gr1 : ∀ b u, H b = some u → upd H d (.xd (fs.zip vs)) b = some u := grow_new hd
      have he2 : upd H d (.xd (fs.zip vs)) e = none := by rw [upd_ne ne]; exact he
      have gr : ∀ b u, H b = some u → upd (upd H d (.xd (fs.zip vs))) e (ErrO Ca (some d) e) b = some u := fun b u z => grow_new he2 b u (gr1 b u z)
      have nF : ∀ b, H b = none → ¬C.F σ ε2 b := fun b hb => (k2.fresh hb).2
      refine p _ _ ((Stp.less (H := H) o).trans (Stp.grow gr)) (k2.grow gr) ?_
      refine .dcT (xs := fs.zip vs) ⟨Ca, some d, mC, upd_same, .inr ⟨d, rfl, ?_, nF d hd⟩⟩ (nF e he) ?_ ?_
      · rw [upd_ne ne.symm]; exact upd_same
      · rw [zip_fst hv, zip_fst hlen]
      · rw [zip_snd hv, zip_snd hlen]
        exact a.mv ((Stp.grow (σ := σ) (ε := ε2) gr).mv (C := C))
    · exact p.elim
theorem eErr {x : Str} {fs : List Str} {Ca : Addr} {e : Expr} {es : List Expr} {da : Dn (List Fv)} {p pos : Pos} (c : Cok G X W k) (hk : 1 ≤ k) (XC : XCl G x fs Ca) (hg : Gl X x) (hl : fs.length ≤ 1000) (ha : PAp G X W (e :: es) da)
    (hdb : (x == ("__debug__" : Str)) = false := by decide) (he : starEach (e :: es) X.env = (false, eval e X.env) :: starEach es X.env := by rfl) (hpl : (backTo pos (starEach es X.env)).any (·.1) = false := by rfl) :
    PEp G X W (.Call (.Name x p) (e :: es) [] pos) (dErr x fs da) := by
  refine ⟨fun pins s σ H Q I h => ?_⟩
  obtain ⟨Cf, ε, ok, post⟩ := h
  obtain ⟨fI, B, nw, it, bm, as, body, xb, T, hI, _⟩ := XC.ini
  have hm : X.mg x = some (.ref Ca) := by rw [c.hm]; exact XC.mgC
  have h : wA G W da σ H fun vs H2 => vs.length = fs.length ∧ QErr Ca fs vs H2 Q :=
    wA_bind (P := PostE G W Cf σ ε H Q) ok post (fun _ _ h => h) (fun h => h) fun gs ε2 zs H2 st2 ok2 vr2 p2 => errF_sound XC.mgC ok2 vr2 (PostE.from st2 p2)
  refine wpAny_Call_Name_kw (ld_glob I hg hm ?_ hdb)
  refine PySem.W.callWith_K (h₀ := X.base) I.ok.mod.kin (by rw [c.hK]; exact XC.kC) (thn (ha.run pos pins s σ H _ I h) fun us s1 ⟨vs, H1, I1, r1, hz, q1⟩ => ⟨I1.kIn, ?_⟩) he hpl
  have hus : us.length = fs.length := by rw [← r1.length]; exact hz
  show wpAny _ _ (call (.ref Ca) us) _ _ _
  exact run_err c hk xb T (hI us hus) (by omega) I1 r1 q1
theorem zip_back {α β : Type} : ∀ {a : List α} {b : List β}, b.length = a.length → a.reverse.zip b = (a.zip b.reverse).reverse := by
  intro a b h
  show List.zipWith Prod.mk a.reverse b = (List.zipWith Prod.mk a b.reverse).reverse
  rw [List.reverse_zipWith (by rw [List.length_reverse]; exact h.symm), List.reverse_reverse]
theorem VRs.rev {vs : List V} {fs : List Fv} (h : VRs G C H σ ε vs fs) : VRs G C H σ ε vs.reverse fs.reverse := by
  have app : ∀ {v1 v2 : List V} {f1 f2 : List Fv}, VRs G C H σ ε v1 f1 → VRs G C H σ ε v2 f2 → VRs G C H σ ε (v1 ++ v2) (f1 ++ f2) := by
    intro v1 v2 f1 f2 a b
    induction a with
    | nil => exact b
    | sh r _ ih => exact .sh r ih
    | «at» r _ ih => exact .at r ih
  induction h with
  | nil => exact .nil
  | sh r _ ih => rw [List.reverse_cons, List.reverse_cons]; exact app ih (.sh r .nil)
  | «at» r _ ih => rw [List.reverse_cons, List.reverse_cons]; exact app ih (.at r .nil)
theorem eErrK {x : Str} {fs ks : List Str} {Ca : Addr} {kws : List Keyword} {dk : Dn (List Fv)} {p pos : Pos} (c : Cok G X W k) (hk : 1 ≤ k) (XC : XCl G x fs Ca) (hg : Gl X x) (hl : fs.length ≤ 1000) (hkw : PKp G X W kws dk) (hfs : ks = fs.reverse)
    (hall : (backToKw pos (keywordEach kws X.env)).all (·.1.isSome) = true := by rfl) (hks : (backToKw pos (keywordEach kws X.env)).filterMap (·.1) = ks := by rfl)
    (hdb : (x == ("__debug__" : Str)) = false := by decide) (hpl : ((backTo pos (starEach [] X.env)).any (·.1) || (backToKw pos (keywordEach kws X.env)).any (·.1.isNone)) = false := by rfl) :
    PEp G X W (.Call (.Name x p) [] kws pos) (dErrK x fs dk) := by
  refine ⟨fun pins s σ H Q I h => ?_⟩
  obtain ⟨Cf, ε, ok, post⟩ := h
  obtain ⟨fI, B, nw, it, bm, as, body, xb, T, _, hI⟩ := XC.ini
  have hm : X.mg x = some (.ref Ca) := by rw [c.hm]; exact XC.mgC
  have h : wA G W dk σ H fun vs H2 => vs.length = fs.length ∧ QErr Ca fs vs.reverse H2 Q :=
    wA_bind (P := PostE G W Cf σ ε H Q) ok post (fun _ _ h => h) (fun h => h) fun gs ε2 zs H2 st2 ok2 vr2 p2 => by
      have := errF_sound XC.mgC ok2 vr2.rev (PostE.from st2 p2)
      rw [List.length_reverse] at this
      exact this
  refine wpAny_Call_Name_kw (ld_glob I hg hm ?_ hdb)
  refine PySem.W.callWith_KW0 (first := []) (h₀ := X.base) I.ok.mod.kin (by rw [c.hK]; exact XC.kC) hall (thn (hkw.run pos pins s σ H _ I h) ?_) hpl
  rintro ws s2 ⟨zs, H2, I2, rz, l, q2⟩
  refine ⟨I2.kIn, ?_⟩
  have hw : ws.length = fs.length := by rw [← rz.length]; exact l
  rw [hks, hfs, zip_back hw]
  show wpAny _ _ (call (.ref Ca) [] (fs.zip ws.reverse).reverse) _ _ _
  exact run_err c hk xb T (hI ws.reverse (by rw [List.length_reverse]; exact hw)) (Nat.zero_le _) I2 rz.reverse q2
/-! ### X() of a class without own __init__ -/
structure XCo (G : Gx) (x : Str) (Ca : Addr) : Prop where
  mgC : G.mg x = some (.ref Ca)
  kC : PySem.W.keepIn G.K (.ref Ca) = true
  ex : ∃ (B newId initId : String) (bmB : List Value), ExcBaseFacts B newId initId bmB ∧ PySem.W.excIn G.K Ca bmB newId = true
def dErr0 (x : Str) : Dn Fv := fun ε => .ok (.sh (.dcT (x, []))) ε
theorem eErr0 {x : Str} {Ca : Addr} {p pos : Pos} (c : Cok G X W k) (XC : XCo G x Ca) (hg : Gl X x) (hdb : (x == ("__debug__" : Str)) = false := by decide) : PEp G X W (.Call (.Name x p) [] [] pos) (dErr0 x) := by
  refine ⟨fun pins s σ H Q I h => ?_⟩
  obtain ⟨Cf, ε, ok, post⟩ := h
  have hm : X.mg x = some (.ref Ca) := by rw [c.hm]; exact XC.mgC
  refine wpAny_Call_Name_kw (ld_glob I hg hm ?_ hdb)
  refine PySem.W.callWith_K0 (first := []) I.kIn (by rw [c.hK]; exact XC.kC) ?_
  obtain ⟨B, nw, it, bmB, Fb, qx⟩ := XC.ex
  have hKin : G.K.In s.heap := by rw [← c.hK]; exact I.kIn
  obtain ⟨bm, N, nm, qn, bs, hdct, sn, sub, ab, col, dd, k0, k1, k2, k3, k5, mN, hC, hN, hni, T⟩ := L2.exc_obj hKin qx
  refine wpAny_call_exc_subT Fb T hC hN hni (fun h' a hm => ?_) (by show 0 ≤ sizeLine; exact Nat.zero_le _)
  have hn : H a = none := I.hok.gone hm.new
  obtain ⟨t, ht, _, _⟩ := hm.there
  have gr : ∀ b u, H b = some u → upd H a (ErrO Ca none a) b = some u := grow_new hn
  have post : PostE G W Cf σ ε H Q (.ok (.sh (.dcT (x, []))) ε) := post
  refine ⟨.ref a, upd H a (ErrO Ca none a), I.laidN hm.keeps hm.new hn (errO_ok ht rfl rfl rfl), rfl, post _ _ (Stp.grow gr) (ok.grow gr) ?_⟩
  exact .dcT (xs := []) ⟨Ca, none, XC.mgC, upd_same, .inl ⟨rfl, rfl⟩⟩ (ok.fresh hn).2 rfl .nil
end
end PL
/-! ER2: what errors are asked: fields, classes; list.count of truth values -/
namespace PL
open PySem PySem.Spec PyProof.Rows L2 AB
open TL (tl)
/-- the program's errors: name, what stands above -/
structure ErrB (G : Gx) (tab : List (Str × String)) : Prop where
  hd : ∀ n B Ca, tab.lookup n = some B → G.mg n = some (.ref Ca) → XHd G.K Ca
  own : ∀ n B Ca m B' Cm, tab.lookup n = some B → G.mg n = some (.ref Ca) → tab.lookup m = some B' → G.mg m = some (.ref Cm) → PySem.W.kitOne G.K (.ref Ca) (.ref Cm) = some (n == m)
  blt : ∀ n B Ca, tab.lookup n = some B → G.mg n = some (.ref Ca) → ∀ b ∈ ["ValueError", "LookupError", "OverflowError", "RuntimeError"], PySem.W.kitOne G.K (.ref Ca) (.type b) = some (B == b)
def isiEO (tab : List (Str × String)) (m : Str) : D → Option Fv
  | .dcT es => (tab.lookup es.1).map fun _ => .sh (.bl (es.1 == m))
  | _ => none
def isiEB (tab : List (Str × String)) (b : String) : D → Option Fv
  | .dcT es => (tab.lookup es.1).map fun B => .sh (.bl (B == b))
  | _ => none
def errFld (x f : Str) : D → Option Fv
  | .dcT es => if es.1 = x then (es.2.lookup f).map .sh else none
  | _ => none
section
variable {G : Gx} {X : Cx} {W : WX} {C : Fr} {k : Nat} {H H1 : Hp} {F : Addr → Prop} {σ : L2.St} {ε : Ev}
/-- isinstance of an error -/
def rIsV (K : PySem.W.Frag) (u : Value) : List V → Hp → VK → Prop := fun xs H Q => ∃ (a C : Addr) (d : Option Addr) (c : V) (b : Bool), xs = [.ref a, c] ∧ (∀ w, RelV c w → w = u) ∧ H a = some (ErrO C d a) ∧ (d = none ∨ ∃ dd ys, d = some dd ∧ H dd = some (.xd ys)) ∧
  XHd K C ∧ PySem.W.kitOne K (.ref C) u = some b ∧ Q (.bl b) H
theorem call_isV {u : Value} : CallR X (.builtin "isinstance") (rIsV X.K u) := by
  intro pins s σ H xs us Q I r h
  obtain ⟨a, Ca, d, c, b, rfl, hcv, ha, hdd, T, hk, q⟩ := h
  cases r with
  | cons rx rr =>
    cases rr with
    | cons rt rr =>
      cases rr
      cases rx
      obtain rfl := hcv _ rt
      obtain ⟨⟨oe, vs, eo, ec, ed, ev⟩, _⟩ := I.hok a _ ha
      have fin : ∀ tk, EP X pins σ Q (.bool b) { s with toks := tk } := fun tk => ⟨.bl b, H, I.kept (t' := tk) fun _ _ z => z, rfl, q⟩
      have nc : PySem.W.notCls oe = true := by unfold PySem.W.notCls; rw [ev] <;> rfl
      rcases hdd with rfl | ⟨dd, ys, rfl, hx⟩
      · have J : PySem.W.InstAt s.heap a oe Ca none := ⟨eo, ec, nc, by rw [ed]; trivial⟩
        exact PySem.W.kia_one (PySem.W.kitx_exc T.cl T.ec.hg T.ec.hk T.ec.hs T.ec.ha T.ec.hn T.ec.ht T.ec.hm) I.kIn J hk (fun z => nomatch z) fin
      · have hxx : ObjOk X.prog X.w H s.heap dd (.xd ys) := I.hok dd _ hx
        obtain ⟨mA, hns, _⟩ := hxx
        obtain ⟨od, ho, _⟩ := lookIn_ns hns
        have J : PySem.W.InstAt s.heap a oe Ca (some od) := ⟨eo, ec, nc, by rw [ed]; exact ho⟩
        exact PySem.W.kia_one (PySem.W.kitx_exc T.cl T.ec.hg T.ec.hk T.ec.hs T.ec.ha T.ec.hn T.ec.ht T.ec.hm) I.kIn J hk (fun z => nomatch z) fin
theorem err_at {x : V} {es : Str × List (Str × D)} (r : Rp G H F x (.dcT es)) : ∃ (a C : Addr) (d : Option Addr) (xs : List (Str × V)), x = .ref a ∧ G.mg es.1 = some (.ref C) ∧ H a = some (ErrO C d a) ∧ (d = none ∧ xs = [] ∨ ∃ dd, d = some dd ∧ H dd = some (.xd xs)) ∧
    xs.map (·.1) = es.2.map (·.1) ∧ RpAll G H F (xs.map (·.2)) (es.2.map (·.2)) := by
  cases r with
  | @dcT a xs _ e n q r =>
    obtain ⟨Ca, d, g, ea, z⟩ := e
    exact ⟨a, Ca, d, xs, rfl, g, ea, z.imp id fun ⟨b, e1, e2, _⟩ => ⟨b, e1, e2⟩, q, r⟩
theorem oIsEO {tab : List (Str × String)} {m : Str} {Cm : Addr} (T : ErrB G tab) (hm : ∃ B, tab.lookup m = some B) (gm : G.mg m = some (.ref Cm)) : Op1 G (fun x H Q => rIsV G.K (.ref Cm) [x, .ref Cm] H Q) (isiEO tab m) := by
  intro H F x d fv Q fo r h p
  cases d with
  | dcT es =>
    obtain ⟨a, Ca, d, xs, rfl, g, ea, z, _⟩ := err_at r
    unfold isiEO at h
    dsimp only at h
    obtain ⟨B', hm⟩ := hm
    cases q : tab.lookup es.1 with
    | none => rw [q] at h; cases h
    | some B =>
      rw [q] at h
      cases h
      exact ⟨a, Ca, d, .ref Cm, _, rfl, fun w hw => hw, ea, z.imp (·.1) (fun ⟨dd, e1, e2⟩ => ⟨dd, xs, e1, e2⟩), T.hd _ _ _ q g, T.own _ _ _ _ _ _ q g hm gm, p.sh0 (.bl _)⟩
  | _ => cases h
theorem oIsEB {tab : List (Str × String)} {b : String} (T : ErrB G tab) (hb : b ∈ ["ValueError", "LookupError", "OverflowError", "RuntimeError"]) : Op1 G (fun x H Q => rIsV G.K (.type b) [x, .ty b] H Q) (isiEB tab b) := by
  intro H F x d fv Q fo r h p
  cases d with
  | dcT es =>
    obtain ⟨a, Ca, d, xs, rfl, g, ea, z, _⟩ := err_at r
    unfold isiEB at h
    dsimp only at h
    cases q : tab.lookup es.1 with
    | none => rw [q] at h; cases h
    | some B =>
      rw [q] at h
      cases h
      exact ⟨a, Ca, d, .ty b, _, rfl, fun w hw => hw, ea, z.imp (·.1) (fun ⟨dd, e1, e2⟩ => ⟨dd, xs, e1, e2⟩), T.hd _ _ _ q g, T.blt _ _ _ q g b hb, p.sh0 (.bl _)⟩
  | _ => cases h
theorem eIsEO {n : Str} {Cq : Addr} {tab : List (Str × String)} {e : Expr} {de : Dn Fv} {p p2 pos : Pos} (c : Cok G X W k) (T : ErrB G tab) (hin : ∃ B, tab.lookup n = some B) (he : PEp G X W e de) (hg : Gl X "isinstance") (hm : G.mg "isinstance" = none) (hgn : Gl X n) (hmn : G.mg n = some (.ref Cq)) (hdn : (n == ("__debug__" : Str)) = false := by decide)
    (hst : starEach (e :: [Expr.Name n p2]) X.env = (false, eval e X.env) :: starEach [Expr.Name n p2] X.env := by rfl) (hpl : (backTo pos (starEach [Expr.Name n p2] X.env)).any (·.1) = false := by rfl) (hst2 : starEach [Expr.Name n p2] X.env = (false, eval (Expr.Name n p2) X.env) :: starEach [] X.env := by rfl) :
    PEp G X W (.Call (.Name "isinstance" p) [e, .Name n p2] [] pos) (d1 (isiEO tab n) de) := by
  have hn' : X.mg n = some (.ref Cq) := by rw [c.hm]; exact hmn
  refine PE.imp (pe_callB (p := p) (call_isV (X := X) (u := .ref Cq)) hg (by rw [c.hm]; exact hm) (by rfl) (pa_cons he (pa_cons (pe_glob (v := .ref Cq) (pos := p2) hgn hn' rfl hdn) pa_nil hst2) hst) (by decide) (by decide) hst hpl) ?_
  rintro σ H Q ⟨C, ε, ok, post⟩
  refine wE_bind (P := PostE G W C σ ε H Q) ok post (fun _ _ h => h) id fun fx ε1 x H1 st1 ok1 vr1 p1 => ?_
  have := o1_sound (oIsEO T hin hmn) ok1 (vr1.old .nil) (p1.from st1)
  rw [← c.hK] at this
  exact this
theorem eIsEB {n : Str} {b : String} {tab : List (Str × String)} {e : Expr} {de : Dn Fv} {p p2 pos : Pos} (c : Cok G X W k) (T : ErrB G tab) (hb : b ∈ ["ValueError", "LookupError", "OverflowError", "RuntimeError"]) (he : PEp G X W e de) (hg : Gl X "isinstance") (hm : G.mg "isinstance" = none) (hgn : Gl X n) (hmn : G.mg n = none)
    (hv : bootBuiltins n = some (.type b)) (hn : n ≠ "__name__" := by decide) (hdn : (n == ("__debug__" : Str)) = false := by decide)
    (hst : starEach (e :: [Expr.Name n p2]) X.env = (false, eval e X.env) :: starEach [Expr.Name n p2] X.env := by rfl) (hpl : (backTo pos (starEach [Expr.Name n p2] X.env)).any (·.1) = false := by rfl) (hst2 : starEach [Expr.Name n p2] X.env = (false, eval (Expr.Name n p2) X.env) :: starEach [] X.env := by rfl) :
    PEp G X W (.Call (.Name "isinstance" p) [e, .Name n p2] [] pos) (d1 (isiEB tab b) de) := by
  refine PE.imp (pe_callB (p := p) (call_isV (X := X) (u := .type b)) hg (by rw [c.hm]; exact hm) (by rfl) (pa_cons he (pa_cons (pe_bltn (v := .ty b) (pos := p2) hgn (by rw [c.hm]; exact hmn) hv rfl hn hdn) pa_nil hst2) hst) (by decide) (by decide) hst hpl) ?_
  rintro σ H Q ⟨C, ε, ok, post⟩
  refine wE_bind (P := PostE G W C σ ε H Q) ok post (fun _ _ h => h) id fun fx ε1 x H1 st1 ok1 vr1 p1 => ?_
  have := o1_sound (oIsEB T hb) ok1 (vr1.old .nil) (p1.from st1)
  rw [← c.hK] at this
  exact this
/-! ### e.f -/
def rFldV (K : PySem.W.Frag) (f : Str) : V → Hp → VK → Prop := fun x H Q => ∃ (a C dd : Addr) (xs : List (Str × V)) (v : V), x = .ref a ∧ H a = some (ErrO C (some dd) a) ∧ H dd = some (.xd xs) ∧ XHd K C ∧ PySem.W.findIn K (.ref C) f = some none ∧ xs.lookup f = some v ∧ Q v H
theorem pe_fldV {e : Expr} {te : TE} {f : Str} {pos : Pos} (he : PE X e te) (hb : attributeBase e f X.env (eval e X.env) = eval e X.env := by rfl) : PE X (.Attribute e f pos) (tUn (rFldV X.K f) te) := by
  refine ⟨fun pins s σ H Q I h => ?_⟩
  refine attr_of hb (thn (he.run pins s σ H _ I h) fun u s1 ⟨x, H1, I1, rx, q⟩ => ?_)
  obtain ⟨a, Ca, dd, xs, v, rfl, ea, ed, T, hno, l, q⟩ := q
  obtain rfl : u = Value.ref a := rx
  obtain ⟨⟨oe, vs, eo, ec, eod, ev⟩, _⟩ := I1.hok a _ ea
  have hx : ObjOk X.prog X.w H1 s1.heap dd (.xd xs) := I1.hok dd _ ed
  obtain ⟨mA, hns, hr⟩ := hx
  obtain ⟨od, ho, hl⟩ := lookIn_ns hns
  obtain ⟨u, hu, ru⟩ := RelO.some_of (v := v) (o := mA f) (by rw [← l]; exact hr f)
  have J : PySem.W.InstAt s1.heap a oe Ca (some od) := ⟨eo, ec, by unfold PySem.W.notCls; rw [ev] <;> rfl, by rw [eod]; exact ho⟩
  exact HandSPX.exc_get I1.kIn J T.xf.ga T.xf.gg T.xf.exC (PySem.W.findObj_own T.xf.hdC hno rfl (by rw [hl, hu])) (handed_of ru) ⟨v, H1, I1.tok _, ru, q⟩
theorem eErrFld {x f : Str} {Ca : Addr} {e : Expr} {de : Dn Fv} {pos : Pos} (c : Cok G X W k) (gm : G.mg x = some (.ref Ca)) (T : XHd G.K Ca) (hno : PySem.W.findIn G.K (.ref Ca) f = some none) (he : PEp G X W e de) (hab : attributeBase e f X.env (eval e X.env) = eval e X.env := by rfl) :
    PEp G X W (.Attribute e f pos) (d1 (errFld x f) de) := by
  refine e1 (r := rFldV G.K f) (c.hK ▸ pe_fldV he hab) ?_
  intro H F y d fv Q fo r h p
  cases d with
  | dcT es =>
    obtain ⟨a, Cb, d, xs, rfl, g, ea, z, k1, rv⟩ := err_at r
    unfold errFld at h
    dsimp only at h
    split at h
    · rename_i hx
      rw [hx, gm] at g
      cases g
      cases q : es.2.lookup f with
      | none => rw [q] at h; cases h
      | some dv =>
        rw [q] at h
        cases h
        obtain ⟨v, l, rp⟩ := lookup_rp k1 rv q
        rcases z with ⟨rfl, rfl⟩ | ⟨dd, rfl, ed⟩
        · cases l
        · exact ⟨a, Ca, dd, xs, v, rfl, ea, ed, T, hno, l, p.sh0 rp⟩
    · cases h
  | _ => cases h
/-! ### xs.count(True) -/
def boolsOf : List D → Option (List Bool)
  | [] => some []
  | .bl b :: ds => (boolsOf ds).map (b :: ·)
  | _ => none
def rCntB (K : PySem.W.Frag) : V → List V → Hp → VK → Prop := fun x xs H Q => ∃ (p : Addr) (bs : List Bool) (b : Bool), x = .ref p ∧ xs = [.bl b] ∧ SqL K H p (bs.map V.bl) ∧ Q (.int (bs.count b : Nat)) H
theorem vals_bools : ∀ {bs : List Bool} {its : List Value}, Vals (bs.map V.bl) its → its = bs.map Value.bool
  | [], _, .nil => rfl
  | b :: bs, _, .cons r t => by
    cases r
    rw [vals_bools t] <;> rfl
theorem mt_countB : MtR X "list.count" (rCntB X.K) := by
  intro pins s σ H x xs v us Q I rx rxs h
  obtain ⟨p, bs, b, rfl, rfl, hs, q⟩ := h
  cases rx
  obtain ⟨u, rfl, ru⟩ := rxs.one
  obtain rfl : u = .bool b := ru
  obtain ⟨its, rv, ⟨⟨cls, dd, data, sl⟩, n, ho, hc, hdn, hd⟩, hlen⟩ := I.list hs
  simp only at hc hd
  subst hc hd
  have ei := vals_bools rv
  have ec : its.toArray.toList.countP (isBoolOf b) = bs.count b := by
    show its.countP (isBoolOf b) = _
    rw [ei, List.countP_map]
    rfl
  refine call_meets PySem.F.slot_list_count ⟨_, ho, rfl⟩ PySem.F.entry_list_count (PySem.F.args_list_count_2 _ _)
    (SeqAt.list_countAt p its.toArray n dd sl (.bool b) (isBoolOf b)) ⟨ho, fun y hy => ?_, ?_⟩
  · have hy : y ∈ bs.map Value.bool := by rw [← ei]; simpa using hy
    obtain ⟨b', _, rfl⟩ := List.mem_map.mp hy
    exact SeqAt.EqAt.bool_bool b' b
  · refine ⟨.int (bs.count b : Nat), H, I.tok _, ⟨s.toks, ?_⟩, q⟩
    show Value.int ((its.toArray.toList.countP (isBoolOf b) : Nat) : Int) s.toks = Value.int ((bs.count b : Nat) : Int) s.toks
    rw [ec]
theorem boolsOf_map : ∀ {vs : List V} {ds : List D} {bs : List Bool}, RpAll G H F vs ds → boolsOf ds = some bs → vs = bs.map V.bl
  | _, _, bs, .nil, h => by cases h; rfl
  | _, _, bs, .cons (d := d) r rs, h => by
    cases d with
    | bl b =>
      cases r
      unfold boolsOf at h
      cases q : boolsOf _ with
      | none => rw [q] at h; cases h
      | some l =>
        rw [q] at h
        cases h
        rw [boolsOf_map rs q]
        rfl
    | _ => cases h
def cntF (b : Bool) : D → Option Fv
  | .lst ds => (boolsOf ds).map fun bs => .sh (.int (bs.count b : Nat))
  | _ => none
theorem eCountB {o : Expr} {do_ : Dn Fv} {b : Bool} {j : Nat} {apos cpos p1 : Pos} (c : Cok G X W k) (ho : PEp G X W o do_)
    (hbase : attributeBase o "count" X.env (eval o X.env) = eval o X.env := by rfl)
    (hfew : ((backTo cpos (starEach [Expr.Constant (.bool b) j p1] X.env)).all (fun x => !x.1) && (backToKw cpos (keywordEach [] X.env)).all (fun x => x.1.isSome)
      && decide (([Expr.Constant (.bool b) j p1] : List Expr).length + ([] : List Keyword).length + (if ([] : List Keyword).isEmpty then 0 else 1) < 30)) = true := by rfl)
    (hline : (apos.endLine == cpos.line) = true := by rfl) (hs : starEach [Expr.Constant (.bool b) j p1] X.env = (false, eval (Expr.Constant (.bool b) j p1) X.env) :: starEach [] X.env := by rfl) (hplain : (backTo cpos (starEach [] X.env)).any (·.1) = false := by rfl) :
    PEp G X W (.Call (.Attribute o "count" apos) [Expr.Constant (.bool b) j p1] [] cpos) (d1 (cntF b) do_) := by
  refine PE.imp (pe_bm PySem.F.plainAttrs_list PySem.F.slot_list_count PySem.F.type_list_count mt_countB ho (pa_cons pe_bl pa_nil hs) hbase hfew hline hs hplain) ?_
  rintro σ H Q ⟨C, ε, ok, post⟩
  refine wE_bind (P := PostE G W C σ ε H Q) ok post (fun _ _ h => h) id fun fx ε1 x H1 st1 ok1 vr1 p1 => ?_
  have z := o1_sound (r := fun x H Q => ∃ (p : Addr) (bs : List Bool), x = .ref p ∧ H p = some (.lst (bs.map V.bl)) ∧ Q (.int (bs.count b : Nat)) H) (f := cntF b) (fun H F y d fv Q fo r h p => ?_) ok1 (vr1.old .nil) (p1.from st1)
  · obtain ⟨p, bs, rfl, ea, q⟩ := z
    exact ⟨.inl ⟨rfl, _, SqL.of ea⟩, p, bs, b, rfl, rfl, SqL.of ea, q⟩
  · cases d with
    | lst ds =>
      obtain ⟨a, vs, rfl, ea, ra⟩ := r
      unfold cntF at h
      dsimp only at h
      cases q : boolsOf ds with
      | none => rw [q] at h; cases h
      | some bs =>
        rw [q] at h
        cases h
        rw [boolsOf_map ra q] at ea
        exact ⟨a, bs, rfl, ea, p.sh0 (.int _)⟩
    | _ => cases h
end
end PL
/-! ER3: what the end must say of the program's errors -/
namespace PL
open PySem PySem.Spec PyProof.Rows L2 AB
def errsB (K : PySem.W.Frag) (ls : List (Str × String × Addr)) : Bool := ls.all fun p => xhdB K p.2.2 &&
  (ls.all fun q => decide (PySem.W.kitOne K (.ref p.2.2) (.ref q.2.2) = some (p.1 == q.1))) &&
  ["ValueError", "LookupError", "OverflowError", "RuntimeError"].all fun b => decide (PySem.W.kitOne K (.ref p.2.2) (.type b) = some (p.2.1 == b))
inductive MgL (G : Gx) : List (Str × String × Addr) → Prop
  | nil : MgL G []
  | cons {n : Str} {B : String} {C : Addr} {ls : List (Str × String × Addr)} : G.mg n = some (.ref C) → MgL G ls → MgL G ((n, B, C) :: ls)
theorem MgL.at {G : Gx} {ls : List (Str × String × Addr)} (h : MgL G ls) : ∀ p ∈ ls, G.mg p.1 = some (.ref p.2.2) := by
  induction h with
  | nil => intro p hp; cases hp
  | cons g _ ih =>
    intro p hp
    rcases List.mem_cons.mp hp with rfl | hp
    · exact g
    · exact ih p hp
def tabE (ls : List (Str × String × Addr)) : List (Str × String) := ls.map fun p => (p.1, p.2.1)
theorem tabE_at : ∀ {ls : List (Str × String × Addr)} {n : Str} {B : String}, (tabE ls).lookup n = some B → ∃ p ∈ ls, p.1 = n ∧ p.2.1 = B
  | [], _, _, h => by cases h
  | p :: ls, n, B, h => by
    unfold tabE List.map List.lookup at h
    cases q : n == p.1 with
    | true =>
      rw [q] at h
      cases h
      exact ⟨p, List.mem_cons_self, (eq_of_beq q).symm, rfl⟩
    | false =>
      rw [q] at h
      obtain ⟨r, hr, e⟩ := tabE_at (ls := ls) h
      exact ⟨r, List.mem_cons_of_mem _ hr, e⟩
theorem errB_ok {G : Gx} {ls : List (Str × String × Addr)} (hm : MgL G ls) (h : errsB G.K ls = true) : ErrB G (tabE ls) := by
  have key : ∀ p ∈ ls, XHd G.K p.2.2 ∧ (∀ q ∈ ls, PySem.W.kitOne G.K (.ref p.2.2) (.ref q.2.2) = some (p.1 == q.1)) ∧ ∀ b ∈ ["ValueError", "LookupError", "OverflowError", "RuntimeError"], PySem.W.kitOne G.K (.ref p.2.2) (.type b) = some (p.2.1 == b) := fun p hp => by
    have z := List.all_eq_true.mp h p hp
    rw [Bool.and_eq_true, Bool.and_eq_true] at z
    exact ⟨xhdB_ok z.1.1, fun q hq => of_decide_eq_true (List.all_eq_true.mp z.1.2 q hq), fun b hb => of_decide_eq_true (List.all_eq_true.mp z.2 b hb)⟩
  have find : ∀ {n : Str} {B : String} {Ca : Addr}, (tabE ls).lookup n = some B → G.mg n = some (.ref Ca) → ∃ p ∈ ls, p.1 = n ∧ p.2.1 = B ∧ p.2.2 = Ca := fun {n B Ca} l g => by
    obtain ⟨p, hp, rfl, rfl⟩ := tabE_at l
    have := hm.at p hp
    rw [g] at this
    cases this
    exact ⟨p, hp, rfl, rfl, rfl⟩
  refine ⟨fun n B Ca l g => ?_, fun n B Ca m B' Cm l g l' g' => ?_, fun n B Ca l g => ?_⟩
  · obtain ⟨p, hp, rfl, rfl, rfl⟩ := find l g
    exact (key p hp).1
  · obtain ⟨p, hp, rfl, rfl, rfl⟩ := find l g
    obtain ⟨q, hq, rfl, rfl, rfl⟩ := find l' g'
    exact (key p hp).2.1 q hq
  · obtain ⟨p, hp, rfl, rfl, rfl⟩ := find l g
    exact (key p hp).2.2
end PL
namespace Den
open PySem PySem.Spec PyProof.Rows L2 AB PL
open TL (tl)
abbrev errTab : List (Str × String) := [(("InvalidOld" : Str), "ValueError"), (("InvalidNew" : Str), "ValueError"), (("InvalidText" : Str), "ValueError"), (("InvalidTable" : Str), "ValueError"), (("InvalidCount" : Str), "ValueError"), (("InvalidSpot" : Str), "ValueError"), (("InvalidHand" : Str), "ValueError"), (("InvalidFiles" : Str), "ValueError"), (("InvalidName" : Str), "ValueError"), (("InvalidPart" : Str), "ValueError"), (("InvalidEdit" : Str), "ValueError"), (("InvalidChange" : Str), "ValueError"), (("InvalidProgram" : Str), "ValueError"), (("InvalidRun" : Str), "ValueError"), (("NoExchange" : Str), "ValueError"), (("NoMirror" : Str), "ValueError"), (("NoBack" : Str), "ValueError"), (("Unbounded" : Str), "ValueError"), (("Unreadable" : Str), "ValueError"), (("InvalidRow" : Str), "ValueError"), (("Unlike" : Str), "ValueError"), (("NoPlace" : Str), "LookupError"), (("Overlap" : Str), "LookupError"), (("OutOfRange" : Str), "LookupError"), (("NoFile" : Str), "LookupError"), (("NoLabel" : Str), "LookupError"), (("TooMany" : Str), "OverflowError"), (("TooLong" : Str), "OverflowError"), (("NotRight" : Str), "RuntimeError"), (("Clash" : Str), "RuntimeError"), (("FileNotRight" : Str), "RuntimeError"), (("Apart" : Str), "RuntimeError"), (("Broken" : Str), "RuntimeError"), (("Unsafe" : Str), "RuntimeError")]
-- _law_pen 0:_law_script
def B_L_pen_0 : Dn Fl := (sDR (dDisp [((dC (.str (tl ("cells" : Str)))), (dN listD (aCons (dSl (dV 0) none (some (dC (.int 63)))) aNil))), ((dC (.str (tl ("turn" : Str)))), (dC (.int 0))), ((dC (.str (tl ("left" : Str)))), (dC (.int 0)))]))
@[simp] theorem B_L_pen_0_ev (ε : Ev) : B_L_pen_0 ε = (sDR (dDisp [((dC (.str (tl ("cells" : Str)))), (dN listD (aCons (dSl (dV 0) none (some (dC (.int 63)))) aNil))), ((dC (.str (tl ("turn" : Str)))), (dC (.int 0))), ((dC (.str (tl ("left" : Str)))), (dC (.int 0)))])) ε := rfl
def F_L_pen : List D → Rf := bodyF [false] 1 B_L_pen_0
theorem F_L_pen_ev (ds : List D) : F_L_pen ds = fnE [false] (B_L_pen_0 (startE [false] ds ++ List.replicate 0 .no)) := body_ev _ _ _ _
-- _law_draw 0:_law_pen_here 1:_law_many 2:_law_digit 3:_law_turn 4:_law_cell 5:_law_primes 6:_law_prime 7:_law_drawn
def B_L_draw_0 : Dn Fl := (sDR (d2 modD (dN intD (aCons (d2 fdivD (d2 modD (dN intD (aCons (d2 addD (d2 addD (d2 mulD (dV 7) (dV 7)) (d2 mulD (dC (.int 16807)) (dV 7))) (dV 3)) aNil)) (dC (.int 2147483549))) (dC (.int 64))) aNil)) (dV 1)))
@[simp] theorem B_L_draw_0_ev (ε : Ev) : B_L_draw_0 ε = (sDR (d2 modD (dN intD (aCons (d2 fdivD (d2 modD (dN intD (aCons (d2 addD (d2 addD (d2 mulD (dV 7) (dV 7)) (d2 mulD (dC (.int 16807)) (dV 7))) (dV 3)) aNil)) (dC (.int 2147483549))) (dC (.int 64))) aNil)) (dV 1))) ε := rfl
def B_L_draw_1 : Dn Fl := (bDC (sDSet 7 (d2 modD (dN intD (aCons (d2 mulD (dV 7) (d2 addD (dV 7) (dC (.int 69621)))) aNil)) (d2 ixD (dV 5) (d2 modD (dN intD (aCons (d2 addD (dV 3) (dC (.int 2))) aNil)) (dC (.int 5)))))) B_L_draw_0)
@[simp] theorem B_L_draw_1_ev (ε : Ev) : B_L_draw_1 ε = ((sDSet 7 (d2 modD (dN intD (aCons (d2 mulD (dV 7) (d2 addD (dV 7) (dC (.int 69621)))) aNil)) (d2 ixD (dV 5) (d2 modD (dN intD (aCons (d2 addD (dV 3) (dC (.int 2))) aNil)) (dC (.int 5)))))) ε).bind (thenF B_L_draw_0) := rfl
def B_L_draw_2 : Dn Fl := (bDC (sDSet 7 (d2 modD (dN intD (aCons (d2 addD (d2 addD (d2 mulD (d2 modD (dN intD (aCons (dV 4) aNil)) (dV 6)) (dC (.int 39373))) (d2 mulD (dV 3) (d2 addD (d2 mulD (dC (.int 30011)) (dV 3)) (dC (.int 8117))))) (dC (.int 23))) aNil)) (dV 6))) B_L_draw_1)
@[simp] theorem B_L_draw_2_ev (ε : Ev) : B_L_draw_2 ε = ((sDSet 7 (d2 modD (dN intD (aCons (d2 addD (d2 addD (d2 mulD (d2 modD (dN intD (aCons (dV 4) aNil)) (dV 6)) (dC (.int 39373))) (d2 mulD (dV 3) (d2 addD (d2 mulD (dC (.int 30011)) (dV 3)) (dC (.int 8117))))) (dC (.int 23))) aNil)) (dV 6))) ε).bind (thenF B_L_draw_1) := rfl
def B_L_draw_3 : Dn Fl := (bDC (sDSet 6 (d2 ixD (dV 5) (d2 modD (dN intD (aCons (dV 3) aNil)) (dC (.int 5))))) B_L_draw_2)
@[simp] theorem B_L_draw_3_ev (ε : Ev) : B_L_draw_3 ε = ((sDSet 6 (d2 ixD (dV 5) (d2 modD (dN intD (aCons (dV 3) aNil)) (dC (.int 5))))) ε).bind (thenF B_L_draw_2) := rfl
def B_L_draw_4 : Dn Fl := (bDC (sDSet 5 (dLst (aCons (dC (.int 2147483629)) (aCons (dC (.int 2147483647)) (aCons (dC (.int 2147483587)) (aCons (dC (.int 2147483563)) (aCons (dC (.int 2147483579)) aNil))))))) B_L_draw_3)
@[simp] theorem B_L_draw_4_ev (ε : Ev) : B_L_draw_4 ε = ((sDSet 5 (dLst (aCons (dC (.int 2147483629)) (aCons (dC (.int 2147483647)) (aCons (dC (.int 2147483587)) (aCons (dC (.int 2147483563)) (aCons (dC (.int 2147483579)) aNil))))))) ε).bind (thenF B_L_draw_3) := rfl
def B_L_draw_5 : Dn Fl := (sDR (d2 modD (d2 subD (dN absD (aCons (dV 4) aNil)) (d2 powD (dC (.int 10)) (dC (.int 18)))) (dV 1)))
@[simp] theorem B_L_draw_5_ev (ε : Ev) : B_L_draw_5 ε = (sDR (d2 modD (d2 subD (dN absD (aCons (dV 4) aNil)) (d2 powD (dC (.int 10)) (dC (.int 18)))) (dV 1))) ε := rfl
def B_L_draw_6 : Dn Fl := (bDC (sDDput (dV 0) (dC (.str (tl ("left" : Str)))) (d2 fdivD (d2 subD (dN absD (aCons (dV 4) aNil)) (d2 powD (dC (.int 10)) (dC (.int 18)))) (dV 1))) B_L_draw_5)
@[simp] theorem B_L_draw_6_ev (ε : Ev) : B_L_draw_6 ε = ((sDDput (dV 0) (dC (.str (tl ("left" : Str)))) (d2 fdivD (d2 subD (dN absD (aCons (dV 4) aNil)) (d2 powD (dC (.int 10)) (dC (.int 18)))) (dV 1))) ε).bind (thenF B_L_draw_5) := rfl
def B_L_draw_7 : Dn Fl := (bDC (sDIf (tDA (bT (d2 ltD (dV 3) (dN lenD (aCons (d2 ixD (dV 0) (dC (.str (tl ("cells" : Str))))) aNil)))) (bT (d2 geD (dN absD (aCons (dV 4) aNil)) (d2 powD (dC (.int 10)) (dC (.int 18))))))
  B_L_draw_6
  bDN) B_L_draw_4)
@[simp] theorem B_L_draw_7_ev (ε : Ev) : B_L_draw_7 ε = ((sDIf (tDA (bT (d2 ltD (dV 3) (dN lenD (aCons (d2 ixD (dV 0) (dC (.str (tl ("cells" : Str))))) aNil)))) (bT (d2 geD (dN absD (aCons (dV 4) aNil)) (d2 powD (dC (.int 10)) (dC (.int 18))))))
  B_L_draw_6
  bDN) ε).bind (thenF B_L_draw_4) := rfl
def B_L_draw_8 : Dn Fl := (bDC (sDIf (bT (d2 neE (d2 ixD (dV 0) (dC (.str (tl ("cells" : Str))))) (dLst aNil)))
  (sDSet 4 (d2 ixD (d2 ixD (dV 0) (dC (.str (tl ("cells" : Str))))) (d2 modD (dN intD (aCons (dV 3) aNil)) (dN lenD (aCons (d2 ixD (dV 0) (dC (.str (tl ("cells" : Str))))) aNil)))))
  bDN) B_L_draw_7)
@[simp] theorem B_L_draw_8_ev (ε : Ev) : B_L_draw_8 ε = ((sDIf (bT (d2 neE (d2 ixD (dV 0) (dC (.str (tl ("cells" : Str))))) (dLst aNil)))
  (sDSet 4 (d2 ixD (d2 ixD (dV 0) (dC (.str (tl ("cells" : Str))))) (d2 modD (dN intD (aCons (dV 3) aNil)) (dN lenD (aCons (d2 ixD (dV 0) (dC (.str (tl ("cells" : Str))))) aNil)))))
  bDN) ε).bind (thenF B_L_draw_7) := rfl
def B_L_draw_9 : Dn Fl := (bDC (sDSet 4 (d2 addD (d2 mulD (dC (.int 43)) (dV 3)) (dC (.int 19)))) B_L_draw_8)
@[simp] theorem B_L_draw_9_ev (ε : Ev) : B_L_draw_9 ε = ((sDSet 4 (d2 addD (d2 mulD (dC (.int 43)) (dV 3)) (dC (.int 19)))) ε).bind (thenF B_L_draw_8) := rfl
def B_L_draw_10 : Dn Fl := (bDC (sDDput (dV 0) (dC (.str (tl ("turn" : Str)))) (d2 addD (dV 3) (dC (.int 1)))) B_L_draw_9)
@[simp] theorem B_L_draw_10_ev (ε : Ev) : B_L_draw_10 ε = ((sDDput (dV 0) (dC (.str (tl ("turn" : Str)))) (d2 addD (dV 3) (dC (.int 1)))) ε).bind (thenF B_L_draw_9) := rfl
def B_L_draw_11 : Dn Fl := (bDC (sDSet 3 (d2 ixD (dV 0) (dC (.str (tl ("turn" : Str)))))) B_L_draw_10)
@[simp] theorem B_L_draw_11_ev (ε : Ev) : B_L_draw_11 ε = ((sDSet 3 (d2 ixD (dV 0) (dC (.str (tl ("turn" : Str)))))) ε).bind (thenF B_L_draw_10) := rfl
def B_L_draw_12 : Dn Fl := (sDR (dV 2))
@[simp] theorem B_L_draw_12_ev (ε : Ev) : B_L_draw_12 ε = (sDR (dV 2)) ε := rfl
def B_L_draw_13 : Dn Fl := (bDC (sDDput (dV 0) (dC (.str (tl ("left" : Str)))) (d2 fdivD (d2 ixD (dV 0) (dC (.str (tl ("left" : Str))))) (dV 1))) B_L_draw_12)
@[simp] theorem B_L_draw_13_ev (ε : Ev) : B_L_draw_13 ε = ((sDDput (dV 0) (dC (.str (tl ("left" : Str)))) (d2 fdivD (d2 ixD (dV 0) (dC (.str (tl ("left" : Str))))) (dV 1))) ε).bind (thenF B_L_draw_12) := rfl
def B_L_draw_14 : Dn Fl := (bDC (sDSet 2 (d2 modD (dN intD (aCons (d2 ixD (dV 0) (dC (.str (tl ("left" : Str))))) aNil)) (dV 1))) B_L_draw_13)
@[simp] theorem B_L_draw_14_ev (ε : Ev) : B_L_draw_14 ε = ((sDSet 2 (d2 modD (dN intD (aCons (d2 ixD (dV 0) (dC (.str (tl ("left" : Str))))) aNil)) (dV 1))) ε).bind (thenF B_L_draw_13) := rfl
def B_L_draw_15 : Dn Fl := (bDC (sDIf (bT (d2 gtD (d2 ixD (dV 0) (dC (.str (tl ("left" : Str))))) (dC (.int 0))))
  B_L_draw_14
  bDN) B_L_draw_11)
@[simp] theorem B_L_draw_15_ev (ε : Ev) : B_L_draw_15 ε = ((sDIf (bT (d2 gtD (d2 ixD (dV 0) (dC (.str (tl ("left" : Str))))) (dC (.int 0))))
  B_L_draw_14
  bDN) ε).bind (thenF B_L_draw_11) := rfl
def F_L_draw : List D → Rf := bodyF [true, false] 8 B_L_draw_15
theorem F_L_draw_ev (ds : List D) : F_L_draw ds = fnE [true, false] (B_L_draw_15 (startE [true, false] ds ++ List.replicate 6 .no)) := body_ev _ _ _ _
-- _law_pick 0:_law_pen_here 1:_law_options
def B_L_pick_0 : Dn Fl := (sDR (d2 ixD (dV 1) (dCall [true, false] F_L_draw (aCons (dV 0) (aCons (dN lenD (aCons (dV 1) aNil)) aNil)))))
@[simp] theorem B_L_pick_0_ev (ε : Ev) : B_L_pick_0 ε = (sDR (d2 ixD (dV 1) (dCall [true, false] F_L_draw (aCons (dV 0) (aCons (dN lenD (aCons (dV 1) aNil)) aNil))))) ε := rfl
def F_L_pick : List D → Rf := bodyF [true, false] 2 B_L_pick_0
theorem F_L_pick_ev (ds : List D) : F_L_pick ds = fnE [true, false] (B_L_pick_0 (startE [true, false] ds ++ List.replicate 0 .no)) := body_ev _ _ _ _
-- _law_any_value 0:_law_pen_here 1:_law_some
def B_L_any_value_0 : Dn Fl := (sDR (dCall [true, false] F_L_pick (aCons (dV 0) (aCons (d2 addD (dV 1) (dLst (aCons (dTup (aCons (dC (.str (tl ("a" : Str)))) (aCons (d2 mulD (dC (.str (tl ("b" : Str)))) (dC (.int 41))) aNil))) (aCons (d2 mulD (dC (.str (tl ("a" : Str)))) (dC (.int 41))) (aCons (d2 mulD (dC (.str (tl ("b" : Str)))) (dC (.int 50))) (aCons (dTup (aCons (dC (.int 0)) (aCons (dC (.int 1)) aNil))) (aCons (dLst aNil) (aCons (dTup (aCons (dC (.str (tl ("a" : Str)))) (aCons (dC .non) aNil))) aNil)))))))) aNil))))
@[simp] theorem B_L_any_value_0_ev (ε : Ev) : B_L_any_value_0 ε = (sDR (dCall [true, false] F_L_pick (aCons (dV 0) (aCons (d2 addD (dV 1) (dLst (aCons (dTup (aCons (dC (.str (tl ("a" : Str)))) (aCons (d2 mulD (dC (.str (tl ("b" : Str)))) (dC (.int 41))) aNil))) (aCons (d2 mulD (dC (.str (tl ("a" : Str)))) (dC (.int 41))) (aCons (d2 mulD (dC (.str (tl ("b" : Str)))) (dC (.int 50))) (aCons (dTup (aCons (dC (.int 0)) (aCons (dC (.int 1)) aNil))) (aCons (dLst aNil) (aCons (dTup (aCons (dC (.str (tl ("a" : Str)))) (aCons (dC .non) aNil))) aNil)))))))) aNil)))) ε := rfl
def B_L_any_value_1 : Dn Fl := (bDC (sDSet 1 (d2 addD (dV 1) (dLst (aCons (dLst (aCons (dC (.int 1)) aNil)) (aCons (dTup (aCons (dC (.str (tl ("a" : Str)))) (aCons (dC (.int 1)) aNil))) (aCons (dTup (aCons (dC (.str (tl ("" : Str)))) (aCons (dC (.str (tl ("a" : Str)))) aNil))) (aCons (dTup (aCons (dC (.str (tl ("a" : Str)))) (aCons (dC (.str (tl ("\t" : Str)))) aNil))) (aCons (dTup (aCons (dC (.str (tl ("a" : Str)))) (aCons (dC (.str (tl ("b" : Str)))) (aCons (dC (.str (tl ("c" : Str)))) aNil)))) (aCons (dDisp [((dC (.str (tl ("a" : Str)))), (dC (.str (tl ("b" : Str)))))]) (aCons (dC (.str (tl ("once" : Str)))) (aCons (dTup (aCons (d2 mulD (dC (.str (tl ("a" : Str)))) (dC (.int 41))) (aCons (dC (.str (tl ("" : Str)))) aNil))) aNil))))))))))) B_L_any_value_0)
@[simp] theorem B_L_any_value_1_ev (ε : Ev) : B_L_any_value_1 ε = ((sDSet 1 (d2 addD (dV 1) (dLst (aCons (dLst (aCons (dC (.int 1)) aNil)) (aCons (dTup (aCons (dC (.str (tl ("a" : Str)))) (aCons (dC (.int 1)) aNil))) (aCons (dTup (aCons (dC (.str (tl ("" : Str)))) (aCons (dC (.str (tl ("a" : Str)))) aNil))) (aCons (dTup (aCons (dC (.str (tl ("a" : Str)))) (aCons (dC (.str (tl ("\t" : Str)))) aNil))) (aCons (dTup (aCons (dC (.str (tl ("a" : Str)))) (aCons (dC (.str (tl ("b" : Str)))) (aCons (dC (.str (tl ("c" : Str)))) aNil)))) (aCons (dDisp [((dC (.str (tl ("a" : Str)))), (dC (.str (tl ("b" : Str)))))]) (aCons (dC (.str (tl ("once" : Str)))) (aCons (dTup (aCons (d2 mulD (dC (.str (tl ("a" : Str)))) (dC (.int 41))) (aCons (dC (.str (tl ("" : Str)))) aNil))) aNil))))))))))) ε).bind (thenF B_L_any_value_0) := rfl
def B_L_any_value_2 : Dn Fl := (bDC (sDSet 1 (dLst (aCons (dC .non) (aCons (dC (.bl true)) (aCons (dC (.bl false)) (aCons (dC (.int 0)) (aCons (dC (.int 1)) (aCons (d1 negD (dC (.int 1))) (aCons (d2 powD (dC (.int 10)) (dC (.int 59))) (aCons (dC (.str (tl ("" : Str)))) (aCons (dC (.str (tl ("a" : Str)))) (aCons (dC (.str (tl ("\t" : Str)))) (aCons (dC (.str (tl ("a\t" : Str)))) (aCons (dC (.str (tl ("ab" : Str)))) (aCons (dTup aNil) (aCons (dTup (aCons (dC (.str (tl ("a" : Str)))) aNil)) (aCons (dTup (aCons (dC (.str (tl ("a" : Str)))) (aCons (dC (.str (tl ("b" : Str)))) aNil))) (aCons (dLst (aCons (dC (.str (tl ("a" : Str)))) (aCons (dC (.str (tl ("b" : Str)))) aNil))) (aCons (fun ε => .ok (.fr (.dct [])) ε) aNil))))))))))))))))))) B_L_any_value_1)
@[simp] theorem B_L_any_value_2_ev (ε : Ev) : B_L_any_value_2 ε = ((sDSet 1 (dLst (aCons (dC .non) (aCons (dC (.bl true)) (aCons (dC (.bl false)) (aCons (dC (.int 0)) (aCons (dC (.int 1)) (aCons (d1 negD (dC (.int 1))) (aCons (d2 powD (dC (.int 10)) (dC (.int 59))) (aCons (dC (.str (tl ("" : Str)))) (aCons (dC (.str (tl ("a" : Str)))) (aCons (dC (.str (tl ("\t" : Str)))) (aCons (dC (.str (tl ("a\t" : Str)))) (aCons (dC (.str (tl ("ab" : Str)))) (aCons (dTup aNil) (aCons (dTup (aCons (dC (.str (tl ("a" : Str)))) aNil)) (aCons (dTup (aCons (dC (.str (tl ("a" : Str)))) (aCons (dC (.str (tl ("b" : Str)))) aNil))) (aCons (dLst (aCons (dC (.str (tl ("a" : Str)))) (aCons (dC (.str (tl ("b" : Str)))) aNil))) (aCons (fun ε => .ok (.fr (.dct [])) ε) aNil))))))))))))))))))) ε).bind (thenF B_L_any_value_1) := rfl
def F_L_any_value : List D → Rf := bodyF [true] 2 B_L_any_value_2
theorem F_L_any_value_ev (ds : List D) : F_L_any_value ds = fnE [true] (B_L_any_value_2 (startE [true] ds ++ List.replicate 1 .no)) := body_ev _ _ _ _
-- _law_some_errors 0:_law_thing 1:_law_found
def B_L_some_errors_0 : Dn Fl := (sDR (dV 1))
@[simp] theorem B_L_some_errors_0_ev (ε : Ev) : B_L_some_errors_0 ε = (sDR (dV 1)) ε := rfl
def B_L_some_errors_1 : Dn Fl := (bDC (sDX (dMut isLst appD (dV 1) (aCons (dTup (aCons (dErr "NoBack" ["index"] (aCons (dV 0) aNil)) (aCons (d1 (errFld "NoBack" "index") (dErrK "NoBack" ["index"] (aCons (dV 0) aNil))) (aCons (d1 (errFld "NoBack" "index") (dErr "NoBack" ["index"] (aCons (dV 0) aNil))) (aCons (dC (.str (tl ("value" : Str)))) aNil))))) aNil))) B_L_some_errors_0)
@[simp] theorem B_L_some_errors_1_ev (ε : Ev) : B_L_some_errors_1 ε = ((sDX (dMut isLst appD (dV 1) (aCons (dTup (aCons (dErr "NoBack" ["index"] (aCons (dV 0) aNil)) (aCons (d1 (errFld "NoBack" "index") (dErrK "NoBack" ["index"] (aCons (dV 0) aNil))) (aCons (d1 (errFld "NoBack" "index") (dErr "NoBack" ["index"] (aCons (dV 0) aNil))) (aCons (dC (.str (tl ("value" : Str)))) aNil))))) aNil))) ε).bind (thenF B_L_some_errors_0) := rfl
def B_L_some_errors_2 : Dn Fl := (bDC (sDX (dMut isLst appD (dV 1) (aCons (dTup (aCons (dErr "NoMirror" ["index"] (aCons (dV 0) aNil)) (aCons (d1 (errFld "NoMirror" "index") (dErrK "NoMirror" ["index"] (aCons (dV 0) aNil))) (aCons (d1 (errFld "NoMirror" "index") (dErr "NoMirror" ["index"] (aCons (dV 0) aNil))) (aCons (dC (.str (tl ("value" : Str)))) aNil))))) aNil))) B_L_some_errors_1)
@[simp] theorem B_L_some_errors_2_ev (ε : Ev) : B_L_some_errors_2 ε = ((sDX (dMut isLst appD (dV 1) (aCons (dTup (aCons (dErr "NoMirror" ["index"] (aCons (dV 0) aNil)) (aCons (d1 (errFld "NoMirror" "index") (dErrK "NoMirror" ["index"] (aCons (dV 0) aNil))) (aCons (d1 (errFld "NoMirror" "index") (dErr "NoMirror" ["index"] (aCons (dV 0) aNil))) (aCons (dC (.str (tl ("value" : Str)))) aNil))))) aNil))) ε).bind (thenF B_L_some_errors_1) := rfl
def B_L_some_errors_3 : Dn Fl := (bDC (sDX (dMut isLst appD (dV 1) (aCons (dTup (aCons (dErr "NoExchange" ["index"] (aCons (dV 0) aNil)) (aCons (d1 (errFld "NoExchange" "index") (dErrK "NoExchange" ["index"] (aCons (dV 0) aNil))) (aCons (d1 (errFld "NoExchange" "index") (dErr "NoExchange" ["index"] (aCons (dV 0) aNil))) (aCons (dC (.str (tl ("value" : Str)))) aNil))))) aNil))) B_L_some_errors_2)
@[simp] theorem B_L_some_errors_3_ev (ε : Ev) : B_L_some_errors_3 ε = ((sDX (dMut isLst appD (dV 1) (aCons (dTup (aCons (dErr "NoExchange" ["index"] (aCons (dV 0) aNil)) (aCons (d1 (errFld "NoExchange" "index") (dErrK "NoExchange" ["index"] (aCons (dV 0) aNil))) (aCons (d1 (errFld "NoExchange" "index") (dErr "NoExchange" ["index"] (aCons (dV 0) aNil))) (aCons (dC (.str (tl ("value" : Str)))) aNil))))) aNil))) ε).bind (thenF B_L_some_errors_2) := rfl
def B_L_some_errors_4 : Dn Fl := (bDC (sDX (dMut isLst appD (dV 1) (aCons (dTup (aCons (dErr "InvalidRun" ["index"] (aCons (dV 0) aNil)) (aCons (d1 (errFld "InvalidRun" "index") (dErrK "InvalidRun" ["index"] (aCons (dV 0) aNil))) (aCons (d1 (errFld "InvalidRun" "index") (dErr "InvalidRun" ["index"] (aCons (dV 0) aNil))) (aCons (dC (.str (tl ("value" : Str)))) aNil))))) aNil))) B_L_some_errors_3)
@[simp] theorem B_L_some_errors_4_ev (ε : Ev) : B_L_some_errors_4 ε = ((sDX (dMut isLst appD (dV 1) (aCons (dTup (aCons (dErr "InvalidRun" ["index"] (aCons (dV 0) aNil)) (aCons (d1 (errFld "InvalidRun" "index") (dErrK "InvalidRun" ["index"] (aCons (dV 0) aNil))) (aCons (d1 (errFld "InvalidRun" "index") (dErr "InvalidRun" ["index"] (aCons (dV 0) aNil))) (aCons (dC (.str (tl ("value" : Str)))) aNil))))) aNil))) ε).bind (thenF B_L_some_errors_3) := rfl
def B_L_some_errors_5 : Dn Fl := (bDC (sDX (dMut isLst appD (dV 1) (aCons (dTup (aCons (dErr "InvalidProgram" ["index"] (aCons (dV 0) aNil)) (aCons (d1 (errFld "InvalidProgram" "index") (dErrK "InvalidProgram" ["index"] (aCons (dV 0) aNil))) (aCons (d1 (errFld "InvalidProgram" "index") (dErr "InvalidProgram" ["index"] (aCons (dV 0) aNil))) (aCons (dC (.str (tl ("value" : Str)))) aNil))))) aNil))) B_L_some_errors_4)
@[simp] theorem B_L_some_errors_5_ev (ε : Ev) : B_L_some_errors_5 ε = ((sDX (dMut isLst appD (dV 1) (aCons (dTup (aCons (dErr "InvalidProgram" ["index"] (aCons (dV 0) aNil)) (aCons (d1 (errFld "InvalidProgram" "index") (dErrK "InvalidProgram" ["index"] (aCons (dV 0) aNil))) (aCons (d1 (errFld "InvalidProgram" "index") (dErr "InvalidProgram" ["index"] (aCons (dV 0) aNil))) (aCons (dC (.str (tl ("value" : Str)))) aNil))))) aNil))) ε).bind (thenF B_L_some_errors_4) := rfl
def B_L_some_errors_6 : Dn Fl := (bDC (sDX (dMut isLst appD (dV 1) (aCons (dTup (aCons (dErr "InvalidChange" ["index"] (aCons (dV 0) aNil)) (aCons (d1 (errFld "InvalidChange" "index") (dErrK "InvalidChange" ["index"] (aCons (dV 0) aNil))) (aCons (d1 (errFld "InvalidChange" "index") (dErr "InvalidChange" ["index"] (aCons (dV 0) aNil))) (aCons (dC (.str (tl ("value" : Str)))) aNil))))) aNil))) B_L_some_errors_5)
@[simp] theorem B_L_some_errors_6_ev (ε : Ev) : B_L_some_errors_6 ε = ((sDX (dMut isLst appD (dV 1) (aCons (dTup (aCons (dErr "InvalidChange" ["index"] (aCons (dV 0) aNil)) (aCons (d1 (errFld "InvalidChange" "index") (dErrK "InvalidChange" ["index"] (aCons (dV 0) aNil))) (aCons (d1 (errFld "InvalidChange" "index") (dErr "InvalidChange" ["index"] (aCons (dV 0) aNil))) (aCons (dC (.str (tl ("value" : Str)))) aNil))))) aNil))) ε).bind (thenF B_L_some_errors_5) := rfl
def B_L_some_errors_7 : Dn Fl := (bDC (sDX (dMut isLst appD (dV 1) (aCons (dTup (aCons (dErr "InvalidEdit" ["index"] (aCons (dV 0) aNil)) (aCons (d1 (errFld "InvalidEdit" "index") (dErrK "InvalidEdit" ["index"] (aCons (dV 0) aNil))) (aCons (d1 (errFld "InvalidEdit" "index") (dErr "InvalidEdit" ["index"] (aCons (dV 0) aNil))) (aCons (dC (.str (tl ("value" : Str)))) aNil))))) aNil))) B_L_some_errors_6)
@[simp] theorem B_L_some_errors_7_ev (ε : Ev) : B_L_some_errors_7 ε = ((sDX (dMut isLst appD (dV 1) (aCons (dTup (aCons (dErr "InvalidEdit" ["index"] (aCons (dV 0) aNil)) (aCons (d1 (errFld "InvalidEdit" "index") (dErrK "InvalidEdit" ["index"] (aCons (dV 0) aNil))) (aCons (d1 (errFld "InvalidEdit" "index") (dErr "InvalidEdit" ["index"] (aCons (dV 0) aNil))) (aCons (dC (.str (tl ("value" : Str)))) aNil))))) aNil))) ε).bind (thenF B_L_some_errors_6) := rfl
def B_L_some_errors_8 : Dn Fl := (bDC (sDX (dMut isLst appD (dV 1) (aCons (dTup (aCons (dErr "InvalidPart" ["index"] (aCons (dV 0) aNil)) (aCons (d1 (errFld "InvalidPart" "index") (dErrK "InvalidPart" ["index"] (aCons (dV 0) aNil))) (aCons (d1 (errFld "InvalidPart" "index") (dErr "InvalidPart" ["index"] (aCons (dV 0) aNil))) (aCons (dC (.str (tl ("value" : Str)))) aNil))))) aNil))) B_L_some_errors_7)
@[simp] theorem B_L_some_errors_8_ev (ε : Ev) : B_L_some_errors_8 ε = ((sDX (dMut isLst appD (dV 1) (aCons (dTup (aCons (dErr "InvalidPart" ["index"] (aCons (dV 0) aNil)) (aCons (d1 (errFld "InvalidPart" "index") (dErrK "InvalidPart" ["index"] (aCons (dV 0) aNil))) (aCons (d1 (errFld "InvalidPart" "index") (dErr "InvalidPart" ["index"] (aCons (dV 0) aNil))) (aCons (dC (.str (tl ("value" : Str)))) aNil))))) aNil))) ε).bind (thenF B_L_some_errors_7) := rfl
def B_L_some_errors_9 : Dn Fl := (bDC (sDX (dMut isLst appD (dV 1) (aCons (dTup (aCons (dErr "InvalidName" ["value"] (aCons (dV 0) aNil)) (aCons (d1 (errFld "InvalidName" "value") (dErrK "InvalidName" ["value"] (aCons (dV 0) aNil))) (aCons (d1 (errFld "InvalidName" "value") (dErr "InvalidName" ["value"] (aCons (dV 0) aNil))) (aCons (dC (.str (tl ("value" : Str)))) aNil))))) aNil))) B_L_some_errors_8)
@[simp] theorem B_L_some_errors_9_ev (ε : Ev) : B_L_some_errors_9 ε = ((sDX (dMut isLst appD (dV 1) (aCons (dTup (aCons (dErr "InvalidName" ["value"] (aCons (dV 0) aNil)) (aCons (d1 (errFld "InvalidName" "value") (dErrK "InvalidName" ["value"] (aCons (dV 0) aNil))) (aCons (d1 (errFld "InvalidName" "value") (dErr "InvalidName" ["value"] (aCons (dV 0) aNil))) (aCons (dC (.str (tl ("value" : Str)))) aNil))))) aNil))) ε).bind (thenF B_L_some_errors_8) := rfl
def B_L_some_errors_10 : Dn Fl := (bDC (sDX (dMut isLst appD (dV 1) (aCons (dTup (aCons (dErr "InvalidFiles" ["value"] (aCons (dV 0) aNil)) (aCons (d1 (errFld "InvalidFiles" "value") (dErrK "InvalidFiles" ["value"] (aCons (dV 0) aNil))) (aCons (d1 (errFld "InvalidFiles" "value") (dErr "InvalidFiles" ["value"] (aCons (dV 0) aNil))) (aCons (dC (.str (tl ("value" : Str)))) aNil))))) aNil))) B_L_some_errors_9)
@[simp] theorem B_L_some_errors_10_ev (ε : Ev) : B_L_some_errors_10 ε = ((sDX (dMut isLst appD (dV 1) (aCons (dTup (aCons (dErr "InvalidFiles" ["value"] (aCons (dV 0) aNil)) (aCons (d1 (errFld "InvalidFiles" "value") (dErrK "InvalidFiles" ["value"] (aCons (dV 0) aNil))) (aCons (d1 (errFld "InvalidFiles" "value") (dErr "InvalidFiles" ["value"] (aCons (dV 0) aNil))) (aCons (dC (.str (tl ("value" : Str)))) aNil))))) aNil))) ε).bind (thenF B_L_some_errors_9) := rfl
def B_L_some_errors_11 : Dn Fl := (bDC (sDX (dMut isLst appD (dV 1) (aCons (dTup (aCons (dErr "InvalidHand" ["value"] (aCons (dV 0) aNil)) (aCons (d1 (errFld "InvalidHand" "value") (dErrK "InvalidHand" ["value"] (aCons (dV 0) aNil))) (aCons (d1 (errFld "InvalidHand" "value") (dErr "InvalidHand" ["value"] (aCons (dV 0) aNil))) (aCons (dC (.str (tl ("value" : Str)))) aNil))))) aNil))) B_L_some_errors_10)
@[simp] theorem B_L_some_errors_11_ev (ε : Ev) : B_L_some_errors_11 ε = ((sDX (dMut isLst appD (dV 1) (aCons (dTup (aCons (dErr "InvalidHand" ["value"] (aCons (dV 0) aNil)) (aCons (d1 (errFld "InvalidHand" "value") (dErrK "InvalidHand" ["value"] (aCons (dV 0) aNil))) (aCons (d1 (errFld "InvalidHand" "value") (dErr "InvalidHand" ["value"] (aCons (dV 0) aNil))) (aCons (dC (.str (tl ("value" : Str)))) aNil))))) aNil))) ε).bind (thenF B_L_some_errors_10) := rfl
def B_L_some_errors_12 : Dn Fl := (bDC (sDX (dMut isLst appD (dV 1) (aCons (dTup (aCons (dErr "InvalidSpot" ["value"] (aCons (dV 0) aNil)) (aCons (d1 (errFld "InvalidSpot" "value") (dErrK "InvalidSpot" ["value"] (aCons (dV 0) aNil))) (aCons (d1 (errFld "InvalidSpot" "value") (dErr "InvalidSpot" ["value"] (aCons (dV 0) aNil))) (aCons (dC (.str (tl ("value" : Str)))) aNil))))) aNil))) B_L_some_errors_11)
@[simp] theorem B_L_some_errors_12_ev (ε : Ev) : B_L_some_errors_12 ε = ((sDX (dMut isLst appD (dV 1) (aCons (dTup (aCons (dErr "InvalidSpot" ["value"] (aCons (dV 0) aNil)) (aCons (d1 (errFld "InvalidSpot" "value") (dErrK "InvalidSpot" ["value"] (aCons (dV 0) aNil))) (aCons (d1 (errFld "InvalidSpot" "value") (dErr "InvalidSpot" ["value"] (aCons (dV 0) aNil))) (aCons (dC (.str (tl ("value" : Str)))) aNil))))) aNil))) ε).bind (thenF B_L_some_errors_11) := rfl
def B_L_some_errors_13 : Dn Fl := (bDC (sDX (dMut isLst appD (dV 1) (aCons (dTup (aCons (dErr "InvalidCount" ["value"] (aCons (dV 0) aNil)) (aCons (d1 (errFld "InvalidCount" "value") (dErrK "InvalidCount" ["value"] (aCons (dV 0) aNil))) (aCons (d1 (errFld "InvalidCount" "value") (dErr "InvalidCount" ["value"] (aCons (dV 0) aNil))) (aCons (dC (.str (tl ("value" : Str)))) aNil))))) aNil))) B_L_some_errors_12)
@[simp] theorem B_L_some_errors_13_ev (ε : Ev) : B_L_some_errors_13 ε = ((sDX (dMut isLst appD (dV 1) (aCons (dTup (aCons (dErr "InvalidCount" ["value"] (aCons (dV 0) aNil)) (aCons (d1 (errFld "InvalidCount" "value") (dErrK "InvalidCount" ["value"] (aCons (dV 0) aNil))) (aCons (d1 (errFld "InvalidCount" "value") (dErr "InvalidCount" ["value"] (aCons (dV 0) aNil))) (aCons (dC (.str (tl ("value" : Str)))) aNil))))) aNil))) ε).bind (thenF B_L_some_errors_12) := rfl
def B_L_some_errors_14 : Dn Fl := (bDC (sDX (dMut isLst appD (dV 1) (aCons (dTup (aCons (dErr "InvalidTable" ["value"] (aCons (dV 0) aNil)) (aCons (d1 (errFld "InvalidTable" "value") (dErrK "InvalidTable" ["value"] (aCons (dV 0) aNil))) (aCons (d1 (errFld "InvalidTable" "value") (dErr "InvalidTable" ["value"] (aCons (dV 0) aNil))) (aCons (dC (.str (tl ("value" : Str)))) aNil))))) aNil))) B_L_some_errors_13)
@[simp] theorem B_L_some_errors_14_ev (ε : Ev) : B_L_some_errors_14 ε = ((sDX (dMut isLst appD (dV 1) (aCons (dTup (aCons (dErr "InvalidTable" ["value"] (aCons (dV 0) aNil)) (aCons (d1 (errFld "InvalidTable" "value") (dErrK "InvalidTable" ["value"] (aCons (dV 0) aNil))) (aCons (d1 (errFld "InvalidTable" "value") (dErr "InvalidTable" ["value"] (aCons (dV 0) aNil))) (aCons (dC (.str (tl ("value" : Str)))) aNil))))) aNil))) ε).bind (thenF B_L_some_errors_13) := rfl
def B_L_some_errors_15 : Dn Fl := (bDC (sDX (dMut isLst appD (dV 1) (aCons (dTup (aCons (dErr "InvalidText" ["value"] (aCons (dV 0) aNil)) (aCons (d1 (errFld "InvalidText" "value") (dErrK "InvalidText" ["value"] (aCons (dV 0) aNil))) (aCons (d1 (errFld "InvalidText" "value") (dErr "InvalidText" ["value"] (aCons (dV 0) aNil))) (aCons (dC (.str (tl ("value" : Str)))) aNil))))) aNil))) B_L_some_errors_14)
@[simp] theorem B_L_some_errors_15_ev (ε : Ev) : B_L_some_errors_15 ε = ((sDX (dMut isLst appD (dV 1) (aCons (dTup (aCons (dErr "InvalidText" ["value"] (aCons (dV 0) aNil)) (aCons (d1 (errFld "InvalidText" "value") (dErrK "InvalidText" ["value"] (aCons (dV 0) aNil))) (aCons (d1 (errFld "InvalidText" "value") (dErr "InvalidText" ["value"] (aCons (dV 0) aNil))) (aCons (dC (.str (tl ("value" : Str)))) aNil))))) aNil))) ε).bind (thenF B_L_some_errors_14) := rfl
def B_L_some_errors_16 : Dn Fl := (bDC (sDX (dMut isLst appD (dV 1) (aCons (dTup (aCons (dErr "InvalidNew" ["value"] (aCons (dV 0) aNil)) (aCons (d1 (errFld "InvalidNew" "value") (dErrK "InvalidNew" ["value"] (aCons (dV 0) aNil))) (aCons (d1 (errFld "InvalidNew" "value") (dErr "InvalidNew" ["value"] (aCons (dV 0) aNil))) (aCons (dC (.str (tl ("value" : Str)))) aNil))))) aNil))) B_L_some_errors_15)
@[simp] theorem B_L_some_errors_16_ev (ε : Ev) : B_L_some_errors_16 ε = ((sDX (dMut isLst appD (dV 1) (aCons (dTup (aCons (dErr "InvalidNew" ["value"] (aCons (dV 0) aNil)) (aCons (d1 (errFld "InvalidNew" "value") (dErrK "InvalidNew" ["value"] (aCons (dV 0) aNil))) (aCons (d1 (errFld "InvalidNew" "value") (dErr "InvalidNew" ["value"] (aCons (dV 0) aNil))) (aCons (dC (.str (tl ("value" : Str)))) aNil))))) aNil))) ε).bind (thenF B_L_some_errors_15) := rfl
def B_L_some_errors_17 : Dn Fl := (bDC (sDX (dMut isLst appD (dV 1) (aCons (dTup (aCons (dErr "InvalidOld" ["value"] (aCons (dV 0) aNil)) (aCons (d1 (errFld "InvalidOld" "value") (dErrK "InvalidOld" ["value"] (aCons (dV 0) aNil))) (aCons (d1 (errFld "InvalidOld" "value") (dErr "InvalidOld" ["value"] (aCons (dV 0) aNil))) (aCons (dC (.str (tl ("value" : Str)))) aNil))))) aNil))) B_L_some_errors_16)
@[simp] theorem B_L_some_errors_17_ev (ε : Ev) : B_L_some_errors_17 ε = ((sDX (dMut isLst appD (dV 1) (aCons (dTup (aCons (dErr "InvalidOld" ["value"] (aCons (dV 0) aNil)) (aCons (d1 (errFld "InvalidOld" "value") (dErrK "InvalidOld" ["value"] (aCons (dV 0) aNil))) (aCons (d1 (errFld "InvalidOld" "value") (dErr "InvalidOld" ["value"] (aCons (dV 0) aNil))) (aCons (dC (.str (tl ("value" : Str)))) aNil))))) aNil))) ε).bind (thenF B_L_some_errors_16) := rfl
def B_L_some_errors_18 : Dn Fl := (bDC (sDSet 1 (dLst aNil)) B_L_some_errors_17)
@[simp] theorem B_L_some_errors_18_ev (ε : Ev) : B_L_some_errors_18 ε = ((sDSet 1 (dLst aNil)) ε).bind (thenF B_L_some_errors_17) := rfl
def F_L_some_errors : List D → Rf := bodyF [false] 2 B_L_some_errors_18
-- _law_other_errors 0:_law_thing 1:_law_found 2:_law_error
def B_L_other_errors_0 : Dn Fl := (sDR (dV 1))
@[simp] theorem B_L_other_errors_0_ev (ε : Ev) : B_L_other_errors_0 ε = (sDR (dV 1)) ε := rfl
def B_L_other_errors_1 : Dn Fl := (bDC (sDX (dMut isLst appD (dV 1) (aCons (dTup (aCons (dErr0 "Unlike") (aCons (dV 0) (aCons (dV 0) (aCons (dC (.str (tl ("value" : Str)))) aNil))))) aNil))) B_L_other_errors_0)
@[simp] theorem B_L_other_errors_1_ev (ε : Ev) : B_L_other_errors_1 ε = ((sDX (dMut isLst appD (dV 1) (aCons (dTup (aCons (dErr0 "Unlike") (aCons (dV 0) (aCons (dV 0) (aCons (dC (.str (tl ("value" : Str)))) aNil))))) aNil))) ε).bind (thenF B_L_other_errors_0) := rfl
def B_L_other_errors_2 : Dn Fl := (bDC (sDX (dMut isLst appD (dV 1) (aCons (dTup (aCons (dErr "Unsafe" ["name", "case"] (aCons (dC (.int 0)) (aCons (dV 0) aNil))) (aCons (d1 (errFld "Unsafe" "case") (dErrK "Unsafe" ["name", "case"] (aCons (dV 0) (aCons (dC (.int 0)) aNil)))) (aCons (d1 (errFld "Unsafe" "name") (dErr "Unsafe" ["name", "case"] (aCons (dV 0) (aCons (dC (.int 0)) aNil)))) (aCons (dC (.str (tl ("runtime" : Str)))) aNil))))) aNil))) B_L_other_errors_1)
@[simp] theorem B_L_other_errors_2_ev (ε : Ev) : B_L_other_errors_2 ε = ((sDX (dMut isLst appD (dV 1) (aCons (dTup (aCons (dErr "Unsafe" ["name", "case"] (aCons (dC (.int 0)) (aCons (dV 0) aNil))) (aCons (d1 (errFld "Unsafe" "case") (dErrK "Unsafe" ["name", "case"] (aCons (dV 0) (aCons (dC (.int 0)) aNil)))) (aCons (d1 (errFld "Unsafe" "name") (dErr "Unsafe" ["name", "case"] (aCons (dV 0) (aCons (dC (.int 0)) aNil)))) (aCons (dC (.str (tl ("runtime" : Str)))) aNil))))) aNil))) ε).bind (thenF B_L_other_errors_1) := rfl
def B_L_other_errors_3 : Dn Fl := (bDC (sDX (dMut isLst appD (dV 1) (aCons (dTup (aCons (dErr "Broken" ["name"] (aCons (dV 0) aNil)) (aCons (d1 (errFld "Broken" "name") (dErrK "Broken" ["name"] (aCons (dV 0) aNil))) (aCons (d1 (errFld "Broken" "name") (dErr "Broken" ["name"] (aCons (dV 0) aNil))) (aCons (dC (.str (tl ("runtime" : Str)))) aNil))))) aNil))) B_L_other_errors_2)
@[simp] theorem B_L_other_errors_3_ev (ε : Ev) : B_L_other_errors_3 ε = ((sDX (dMut isLst appD (dV 1) (aCons (dTup (aCons (dErr "Broken" ["name"] (aCons (dV 0) aNil)) (aCons (d1 (errFld "Broken" "name") (dErrK "Broken" ["name"] (aCons (dV 0) aNil))) (aCons (d1 (errFld "Broken" "name") (dErr "Broken" ["name"] (aCons (dV 0) aNil))) (aCons (dC (.str (tl ("runtime" : Str)))) aNil))))) aNil))) ε).bind (thenF B_L_other_errors_2) := rfl
def B_L_other_errors_4 : Dn Fl := (bDC (sDX (dMut isLst appD (dV 1) (aCons (dTup (aCons (dErr "Apart" ["name"] (aCons (dV 0) aNil)) (aCons (d1 (errFld "Apart" "name") (dErrK "Apart" ["name"] (aCons (dV 0) aNil))) (aCons (d1 (errFld "Apart" "name") (dErr "Apart" ["name"] (aCons (dV 0) aNil))) (aCons (dC (.str (tl ("runtime" : Str)))) aNil))))) aNil))) B_L_other_errors_3)
@[simp] theorem B_L_other_errors_4_ev (ε : Ev) : B_L_other_errors_4 ε = ((sDX (dMut isLst appD (dV 1) (aCons (dTup (aCons (dErr "Apart" ["name"] (aCons (dV 0) aNil)) (aCons (d1 (errFld "Apart" "name") (dErrK "Apart" ["name"] (aCons (dV 0) aNil))) (aCons (d1 (errFld "Apart" "name") (dErr "Apart" ["name"] (aCons (dV 0) aNil))) (aCons (dC (.str (tl ("runtime" : Str)))) aNil))))) aNil))) ε).bind (thenF B_L_other_errors_3) := rfl
def B_L_other_errors_5 : Dn Fl := (bDC (sDX (dMut isLst appD (dV 1) (aCons (dTup (aCons (dErr "FileNotRight" ["name", "index"] (aCons (dC (.int 0)) (aCons (dV 0) aNil))) (aCons (d1 (errFld "FileNotRight" "index") (dV 2)) (aCons (d1 (errFld "FileNotRight" "name") (dErr "FileNotRight" ["name", "index"] (aCons (dV 0) (aCons (dC (.int 0)) aNil)))) (aCons (dC (.str (tl ("runtime" : Str)))) aNil))))) aNil))) B_L_other_errors_4)
@[simp] theorem B_L_other_errors_5_ev (ε : Ev) : B_L_other_errors_5 ε = ((sDX (dMut isLst appD (dV 1) (aCons (dTup (aCons (dErr "FileNotRight" ["name", "index"] (aCons (dC (.int 0)) (aCons (dV 0) aNil))) (aCons (d1 (errFld "FileNotRight" "index") (dV 2)) (aCons (d1 (errFld "FileNotRight" "name") (dErr "FileNotRight" ["name", "index"] (aCons (dV 0) (aCons (dC (.int 0)) aNil)))) (aCons (dC (.str (tl ("runtime" : Str)))) aNil))))) aNil))) ε).bind (thenF B_L_other_errors_4) := rfl
def B_L_other_errors_6 : Dn Fl := (bDC (sDSet 2 (dErrK "FileNotRight" ["name", "index"] (aCons (dV 0) (aCons (dC (.int 0)) aNil)))) B_L_other_errors_5)
@[simp] theorem B_L_other_errors_6_ev (ε : Ev) : B_L_other_errors_6 ε = ((sDSet 2 (dErrK "FileNotRight" ["name", "index"] (aCons (dV 0) (aCons (dC (.int 0)) aNil)))) ε).bind (thenF B_L_other_errors_5) := rfl
def B_L_other_errors_7 : Dn Fl := (bDC (sDX (dMut isLst appD (dV 1) (aCons (dTup (aCons (dErr "Clash" ["hand", "other"] (aCons (dC (.int 0)) (aCons (dV 0) aNil))) (aCons (d1 (errFld "Clash" "other") (dErrK "Clash" ["hand", "other"] (aCons (dV 0) (aCons (dC (.int 0)) aNil)))) (aCons (d1 (errFld "Clash" "hand") (dErr "Clash" ["hand", "other"] (aCons (dV 0) (aCons (dC (.int 0)) aNil)))) (aCons (dC (.str (tl ("runtime" : Str)))) aNil))))) aNil))) B_L_other_errors_6)
@[simp] theorem B_L_other_errors_7_ev (ε : Ev) : B_L_other_errors_7 ε = ((sDX (dMut isLst appD (dV 1) (aCons (dTup (aCons (dErr "Clash" ["hand", "other"] (aCons (dC (.int 0)) (aCons (dV 0) aNil))) (aCons (d1 (errFld "Clash" "other") (dErrK "Clash" ["hand", "other"] (aCons (dV 0) (aCons (dC (.int 0)) aNil)))) (aCons (d1 (errFld "Clash" "hand") (dErr "Clash" ["hand", "other"] (aCons (dV 0) (aCons (dC (.int 0)) aNil)))) (aCons (dC (.str (tl ("runtime" : Str)))) aNil))))) aNil))) ε).bind (thenF B_L_other_errors_6) := rfl
def B_L_other_errors_8 : Dn Fl := (bDC (sDX (dMut isLst appD (dV 1) (aCons (dTup (aCons (dErr "NotRight" ["hand"] (aCons (dV 0) aNil)) (aCons (d1 (errFld "NotRight" "hand") (dErrK "NotRight" ["hand"] (aCons (dV 0) aNil))) (aCons (d1 (errFld "NotRight" "hand") (dErr "NotRight" ["hand"] (aCons (dV 0) aNil))) (aCons (dC (.str (tl ("runtime" : Str)))) aNil))))) aNil))) B_L_other_errors_7)
@[simp] theorem B_L_other_errors_8_ev (ε : Ev) : B_L_other_errors_8 ε = ((sDX (dMut isLst appD (dV 1) (aCons (dTup (aCons (dErr "NotRight" ["hand"] (aCons (dV 0) aNil)) (aCons (d1 (errFld "NotRight" "hand") (dErrK "NotRight" ["hand"] (aCons (dV 0) aNil))) (aCons (d1 (errFld "NotRight" "hand") (dErr "NotRight" ["hand"] (aCons (dV 0) aNil))) (aCons (dC (.str (tl ("runtime" : Str)))) aNil))))) aNil))) ε).bind (thenF B_L_other_errors_7) := rfl
def B_L_other_errors_9 : Dn Fl := (bDC (sDX (dMut isLst appD (dV 1) (aCons (dTup (aCons (dErr "TooLong" ["limit"] (aCons (dV 0) aNil)) (aCons (d1 (errFld "TooLong" "limit") (dErrK "TooLong" ["limit"] (aCons (dV 0) aNil))) (aCons (d1 (errFld "TooLong" "limit") (dErr "TooLong" ["limit"] (aCons (dV 0) aNil))) (aCons (dC (.str (tl ("overflow" : Str)))) aNil))))) aNil))) B_L_other_errors_8)
@[simp] theorem B_L_other_errors_9_ev (ε : Ev) : B_L_other_errors_9 ε = ((sDX (dMut isLst appD (dV 1) (aCons (dTup (aCons (dErr "TooLong" ["limit"] (aCons (dV 0) aNil)) (aCons (d1 (errFld "TooLong" "limit") (dErrK "TooLong" ["limit"] (aCons (dV 0) aNil))) (aCons (d1 (errFld "TooLong" "limit") (dErr "TooLong" ["limit"] (aCons (dV 0) aNil))) (aCons (dC (.str (tl ("overflow" : Str)))) aNil))))) aNil))) ε).bind (thenF B_L_other_errors_8) := rfl
def B_L_other_errors_10 : Dn Fl := (bDC (sDX (dMut isLst appD (dV 1) (aCons (dTup (aCons (dErr "TooMany" ["limit"] (aCons (dV 0) aNil)) (aCons (d1 (errFld "TooMany" "limit") (dErrK "TooMany" ["limit"] (aCons (dV 0) aNil))) (aCons (d1 (errFld "TooMany" "limit") (dErr "TooMany" ["limit"] (aCons (dV 0) aNil))) (aCons (dC (.str (tl ("overflow" : Str)))) aNil))))) aNil))) B_L_other_errors_9)
@[simp] theorem B_L_other_errors_10_ev (ε : Ev) : B_L_other_errors_10 ε = ((sDX (dMut isLst appD (dV 1) (aCons (dTup (aCons (dErr "TooMany" ["limit"] (aCons (dV 0) aNil)) (aCons (d1 (errFld "TooMany" "limit") (dErrK "TooMany" ["limit"] (aCons (dV 0) aNil))) (aCons (d1 (errFld "TooMany" "limit") (dErr "TooMany" ["limit"] (aCons (dV 0) aNil))) (aCons (dC (.str (tl ("overflow" : Str)))) aNil))))) aNil))) ε).bind (thenF B_L_other_errors_9) := rfl
def B_L_other_errors_11 : Dn Fl := (bDC (sDX (dMut isLst appD (dV 1) (aCons (dTup (aCons (dErr "NoLabel" ["label"] (aCons (dV 0) aNil)) (aCons (d1 (errFld "NoLabel" "label") (dErrK "NoLabel" ["label"] (aCons (dV 0) aNil))) (aCons (d1 (errFld "NoLabel" "label") (dErr "NoLabel" ["label"] (aCons (dV 0) aNil))) (aCons (dC (.str (tl ("lookup" : Str)))) aNil))))) aNil))) B_L_other_errors_10)
@[simp] theorem B_L_other_errors_11_ev (ε : Ev) : B_L_other_errors_11 ε = ((sDX (dMut isLst appD (dV 1) (aCons (dTup (aCons (dErr "NoLabel" ["label"] (aCons (dV 0) aNil)) (aCons (d1 (errFld "NoLabel" "label") (dErrK "NoLabel" ["label"] (aCons (dV 0) aNil))) (aCons (d1 (errFld "NoLabel" "label") (dErr "NoLabel" ["label"] (aCons (dV 0) aNil))) (aCons (dC (.str (tl ("lookup" : Str)))) aNil))))) aNil))) ε).bind (thenF B_L_other_errors_10) := rfl
def B_L_other_errors_12 : Dn Fl := (bDC (sDX (dMut isLst appD (dV 1) (aCons (dTup (aCons (dErr "NoFile" ["name"] (aCons (dV 0) aNil)) (aCons (d1 (errFld "NoFile" "name") (dErrK "NoFile" ["name"] (aCons (dV 0) aNil))) (aCons (d1 (errFld "NoFile" "name") (dErr "NoFile" ["name"] (aCons (dV 0) aNil))) (aCons (dC (.str (tl ("lookup" : Str)))) aNil))))) aNil))) B_L_other_errors_11)
@[simp] theorem B_L_other_errors_12_ev (ε : Ev) : B_L_other_errors_12 ε = ((sDX (dMut isLst appD (dV 1) (aCons (dTup (aCons (dErr "NoFile" ["name"] (aCons (dV 0) aNil)) (aCons (d1 (errFld "NoFile" "name") (dErrK "NoFile" ["name"] (aCons (dV 0) aNil))) (aCons (d1 (errFld "NoFile" "name") (dErr "NoFile" ["name"] (aCons (dV 0) aNil))) (aCons (dC (.str (tl ("lookup" : Str)))) aNil))))) aNil))) ε).bind (thenF B_L_other_errors_11) := rfl
def B_L_other_errors_13 : Dn Fl := (bDC (sDX (dMut isLst appD (dV 1) (aCons (dTup (aCons (dErr "OutOfRange" ["value"] (aCons (dV 0) aNil)) (aCons (d1 (errFld "OutOfRange" "value") (dErrK "OutOfRange" ["value"] (aCons (dV 0) aNil))) (aCons (d1 (errFld "OutOfRange" "value") (dErr "OutOfRange" ["value"] (aCons (dV 0) aNil))) (aCons (dC (.str (tl ("lookup" : Str)))) aNil))))) aNil))) B_L_other_errors_12)
@[simp] theorem B_L_other_errors_13_ev (ε : Ev) : B_L_other_errors_13 ε = ((sDX (dMut isLst appD (dV 1) (aCons (dTup (aCons (dErr "OutOfRange" ["value"] (aCons (dV 0) aNil)) (aCons (d1 (errFld "OutOfRange" "value") (dErrK "OutOfRange" ["value"] (aCons (dV 0) aNil))) (aCons (d1 (errFld "OutOfRange" "value") (dErr "OutOfRange" ["value"] (aCons (dV 0) aNil))) (aCons (dC (.str (tl ("lookup" : Str)))) aNil))))) aNil))) ε).bind (thenF B_L_other_errors_12) := rfl
def B_L_other_errors_14 : Dn Fl := (bDC (sDX (dMut isLst appD (dV 1) (aCons (dTup (aCons (dErr "Overlap" ["index"] (aCons (dV 0) aNil)) (aCons (d1 (errFld "Overlap" "index") (dErrK "Overlap" ["index"] (aCons (dV 0) aNil))) (aCons (d1 (errFld "Overlap" "index") (dErr "Overlap" ["index"] (aCons (dV 0) aNil))) (aCons (dC (.str (tl ("lookup" : Str)))) aNil))))) aNil))) B_L_other_errors_13)
@[simp] theorem B_L_other_errors_14_ev (ε : Ev) : B_L_other_errors_14 ε = ((sDX (dMut isLst appD (dV 1) (aCons (dTup (aCons (dErr "Overlap" ["index"] (aCons (dV 0) aNil)) (aCons (d1 (errFld "Overlap" "index") (dErrK "Overlap" ["index"] (aCons (dV 0) aNil))) (aCons (d1 (errFld "Overlap" "index") (dErr "Overlap" ["index"] (aCons (dV 0) aNil))) (aCons (dC (.str (tl ("lookup" : Str)))) aNil))))) aNil))) ε).bind (thenF B_L_other_errors_13) := rfl
def B_L_other_errors_15 : Dn Fl := (bDC (sDX (dMut isLst appD (dV 1) (aCons (dTup (aCons (dErr "NoPlace" ["index", "number"] (aCons (dC (.int 0)) (aCons (dV 0) aNil))) (aCons (d1 (errFld "NoPlace" "number") (dErrK "NoPlace" ["index", "number"] (aCons (dV 0) (aCons (dC (.int 0)) aNil)))) (aCons (d1 (errFld "NoPlace" "index") (dErr "NoPlace" ["index", "number"] (aCons (dV 0) (aCons (dC (.int 0)) aNil)))) (aCons (dC (.str (tl ("lookup" : Str)))) aNil))))) aNil))) B_L_other_errors_14)
@[simp] theorem B_L_other_errors_15_ev (ε : Ev) : B_L_other_errors_15 ε = ((sDX (dMut isLst appD (dV 1) (aCons (dTup (aCons (dErr "NoPlace" ["index", "number"] (aCons (dC (.int 0)) (aCons (dV 0) aNil))) (aCons (d1 (errFld "NoPlace" "number") (dErrK "NoPlace" ["index", "number"] (aCons (dV 0) (aCons (dC (.int 0)) aNil)))) (aCons (d1 (errFld "NoPlace" "index") (dErr "NoPlace" ["index", "number"] (aCons (dV 0) (aCons (dC (.int 0)) aNil)))) (aCons (dC (.str (tl ("lookup" : Str)))) aNil))))) aNil))) ε).bind (thenF B_L_other_errors_14) := rfl
def B_L_other_errors_16 : Dn Fl := (bDC (sDX (dMut isLst appD (dV 1) (aCons (dTup (aCons (dErr "InvalidRow" ["row"] (aCons (dV 0) aNil)) (aCons (d1 (errFld "InvalidRow" "row") (dErrK "InvalidRow" ["row"] (aCons (dV 0) aNil))) (aCons (d1 (errFld "InvalidRow" "row") (dErr "InvalidRow" ["row"] (aCons (dV 0) aNil))) (aCons (dC (.str (tl ("value" : Str)))) aNil))))) aNil))) B_L_other_errors_15)
@[simp] theorem B_L_other_errors_16_ev (ε : Ev) : B_L_other_errors_16 ε = ((sDX (dMut isLst appD (dV 1) (aCons (dTup (aCons (dErr "InvalidRow" ["row"] (aCons (dV 0) aNil)) (aCons (d1 (errFld "InvalidRow" "row") (dErrK "InvalidRow" ["row"] (aCons (dV 0) aNil))) (aCons (d1 (errFld "InvalidRow" "row") (dErr "InvalidRow" ["row"] (aCons (dV 0) aNil))) (aCons (dC (.str (tl ("value" : Str)))) aNil))))) aNil))) ε).bind (thenF B_L_other_errors_15) := rfl
def B_L_other_errors_17 : Dn Fl := (bDC (sDX (dMut isLst appD (dV 1) (aCons (dTup (aCons (dErr "Unreadable" ["index"] (aCons (dV 0) aNil)) (aCons (d1 (errFld "Unreadable" "index") (dErrK "Unreadable" ["index"] (aCons (dV 0) aNil))) (aCons (d1 (errFld "Unreadable" "index") (dErr "Unreadable" ["index"] (aCons (dV 0) aNil))) (aCons (dC (.str (tl ("value" : Str)))) aNil))))) aNil))) B_L_other_errors_16)
@[simp] theorem B_L_other_errors_17_ev (ε : Ev) : B_L_other_errors_17 ε = ((sDX (dMut isLst appD (dV 1) (aCons (dTup (aCons (dErr "Unreadable" ["index"] (aCons (dV 0) aNil)) (aCons (d1 (errFld "Unreadable" "index") (dErrK "Unreadable" ["index"] (aCons (dV 0) aNil))) (aCons (d1 (errFld "Unreadable" "index") (dErr "Unreadable" ["index"] (aCons (dV 0) aNil))) (aCons (dC (.str (tl ("value" : Str)))) aNil))))) aNil))) ε).bind (thenF B_L_other_errors_16) := rfl
def B_L_other_errors_18 : Dn Fl := (bDC (sDX (dMut isLst appD (dV 1) (aCons (dTup (aCons (dErr "Unbounded" ["index"] (aCons (dV 0) aNil)) (aCons (d1 (errFld "Unbounded" "index") (dErrK "Unbounded" ["index"] (aCons (dV 0) aNil))) (aCons (d1 (errFld "Unbounded" "index") (dErr "Unbounded" ["index"] (aCons (dV 0) aNil))) (aCons (dC (.str (tl ("value" : Str)))) aNil))))) aNil))) B_L_other_errors_17)
@[simp] theorem B_L_other_errors_18_ev (ε : Ev) : B_L_other_errors_18 ε = ((sDX (dMut isLst appD (dV 1) (aCons (dTup (aCons (dErr "Unbounded" ["index"] (aCons (dV 0) aNil)) (aCons (d1 (errFld "Unbounded" "index") (dErrK "Unbounded" ["index"] (aCons (dV 0) aNil))) (aCons (d1 (errFld "Unbounded" "index") (dErr "Unbounded" ["index"] (aCons (dV 0) aNil))) (aCons (dC (.str (tl ("value" : Str)))) aNil))))) aNil))) ε).bind (thenF B_L_other_errors_17) := rfl
def B_L_other_errors_19 : Dn Fl := (bDC (sDSet 1 (dLst aNil)) B_L_other_errors_18)
@[simp] theorem B_L_other_errors_19_ev (ε : Ev) : B_L_other_errors_19 ε = ((sDSet 1 (dLst aNil)) ε).bind (thenF B_L_other_errors_18) := rfl
def F_L_other_errors : List D → Rf := bodyF [false] 3 B_L_other_errors_19
-- _law_sorts 0:_law_error 1:_law_flags 2:_law_flag 3:_law_one
def B_L_sorts_0 : Dn Fl := (sDR (dLc (fun ε => ((aCons (dLst (aCons (dC (.str (tl ("value" : Str)))) (aCons (dC (.str (tl ("lookup" : Str)))) (aCons (dC (.str (tl ("overflow" : Str)))) (aCons (dC (.str (tl ("runtime" : Str)))) aNil))))) (aCons (dV 1) aNil)) ε).bind zipF) [2, 3] (tgT 2 (tgsC (tgN 3) (tgsC (tgN 2) tgsN))) (tDV (dV 2)) (dV 3)))
@[simp] theorem B_L_sorts_0_ev (ε : Ev) : B_L_sorts_0 ε = (sDR (dLc (fun ε => ((aCons (dLst (aCons (dC (.str (tl ("value" : Str)))) (aCons (dC (.str (tl ("lookup" : Str)))) (aCons (dC (.str (tl ("overflow" : Str)))) (aCons (dC (.str (tl ("runtime" : Str)))) aNil))))) (aCons (dV 1) aNil)) ε).bind zipF) [2, 3] (tgT 2 (tgsC (tgN 3) (tgsC (tgN 2) tgsN))) (tDV (dV 2)) (dV 3))) ε := rfl
def B_L_sorts_1 : Dn Fl := (bDC (sDSet 1 (d2 addD (dV 1) (dLst (aCons (d1 (isiEB errTab "OverflowError") (dV 0)) (aCons (d1 (isiEB errTab "RuntimeError") (dV 0)) aNil))))) B_L_sorts_0)
@[simp] theorem B_L_sorts_1_ev (ε : Ev) : B_L_sorts_1 ε = ((sDSet 1 (d2 addD (dV 1) (dLst (aCons (d1 (isiEB errTab "OverflowError") (dV 0)) (aCons (d1 (isiEB errTab "RuntimeError") (dV 0)) aNil))))) ε).bind (thenF B_L_sorts_0) := rfl
def B_L_sorts_2 : Dn Fl := (bDC (sDSet 1 (dLst (aCons (d1 (isiEB errTab "ValueError") (dV 0)) (aCons (d1 (isiEB errTab "LookupError") (dV 0)) aNil)))) B_L_sorts_1)
@[simp] theorem B_L_sorts_2_ev (ε : Ev) : B_L_sorts_2 ε = ((sDSet 1 (dLst (aCons (d1 (isiEB errTab "ValueError") (dV 0)) (aCons (d1 (isiEB errTab "LookupError") (dV 0)) aNil)))) ε).bind (thenF B_L_sorts_1) := rfl
def F_L_sorts : List D → Rf := bodyF [false] 4 B_L_sorts_2
-- _law_classes 0:_law_error 1:_law_found
def B_L_classes_0 : Dn Fl := (sDR (dV 1))
@[simp] theorem B_L_classes_0_ev (ε : Ev) : B_L_classes_0 ε = (sDR (dV 1)) ε := rfl
def B_L_classes_1 : Dn Fl := (bDC (sDX (dMut isLst extD (dV 1) (aCons (dLst (aCons (d1 (isiEO errTab "Broken") (dV 0)) (aCons (d1 (isiEO errTab "Unsafe") (dV 0)) aNil))) aNil))) B_L_classes_0)
@[simp] theorem B_L_classes_1_ev (ε : Ev) : B_L_classes_1 ε = ((sDX (dMut isLst extD (dV 1) (aCons (dLst (aCons (d1 (isiEO errTab "Broken") (dV 0)) (aCons (d1 (isiEO errTab "Unsafe") (dV 0)) aNil))) aNil))) ε).bind (thenF B_L_classes_0) := rfl
def B_L_classes_2 : Dn Fl := (bDC (sDX (dMut isLst extD (dV 1) (aCons (dLst (aCons (d1 (isiEO errTab "FileNotRight") (dV 0)) (aCons (d1 (isiEO errTab "Apart") (dV 0)) aNil))) aNil))) B_L_classes_1)
@[simp] theorem B_L_classes_2_ev (ε : Ev) : B_L_classes_2 ε = ((sDX (dMut isLst extD (dV 1) (aCons (dLst (aCons (d1 (isiEO errTab "FileNotRight") (dV 0)) (aCons (d1 (isiEO errTab "Apart") (dV 0)) aNil))) aNil))) ε).bind (thenF B_L_classes_1) := rfl
def B_L_classes_3 : Dn Fl := (bDC (sDX (dMut isLst extD (dV 1) (aCons (dLst (aCons (d1 (isiEO errTab "NotRight") (dV 0)) (aCons (d1 (isiEO errTab "Clash") (dV 0)) aNil))) aNil))) B_L_classes_2)
@[simp] theorem B_L_classes_3_ev (ε : Ev) : B_L_classes_3 ε = ((sDX (dMut isLst extD (dV 1) (aCons (dLst (aCons (d1 (isiEO errTab "NotRight") (dV 0)) (aCons (d1 (isiEO errTab "Clash") (dV 0)) aNil))) aNil))) ε).bind (thenF B_L_classes_2) := rfl
def B_L_classes_4 : Dn Fl := (bDC (sDX (dMut isLst extD (dV 1) (aCons (dLst (aCons (d1 (isiEO errTab "TooMany") (dV 0)) (aCons (d1 (isiEO errTab "TooLong") (dV 0)) aNil))) aNil))) B_L_classes_3)
@[simp] theorem B_L_classes_4_ev (ε : Ev) : B_L_classes_4 ε = ((sDX (dMut isLst extD (dV 1) (aCons (dLst (aCons (d1 (isiEO errTab "TooMany") (dV 0)) (aCons (d1 (isiEO errTab "TooLong") (dV 0)) aNil))) aNil))) ε).bind (thenF B_L_classes_3) := rfl
def B_L_classes_5 : Dn Fl := (bDC (sDX (dMut isLst extD (dV 1) (aCons (dLst (aCons (d1 (isiEO errTab "NoFile") (dV 0)) (aCons (d1 (isiEO errTab "NoLabel") (dV 0)) aNil))) aNil))) B_L_classes_4)
@[simp] theorem B_L_classes_5_ev (ε : Ev) : B_L_classes_5 ε = ((sDX (dMut isLst extD (dV 1) (aCons (dLst (aCons (d1 (isiEO errTab "NoFile") (dV 0)) (aCons (d1 (isiEO errTab "NoLabel") (dV 0)) aNil))) aNil))) ε).bind (thenF B_L_classes_4) := rfl
def B_L_classes_6 : Dn Fl := (bDC (sDX (dMut isLst extD (dV 1) (aCons (dLst (aCons (d1 (isiEO errTab "Overlap") (dV 0)) (aCons (d1 (isiEO errTab "OutOfRange") (dV 0)) aNil))) aNil))) B_L_classes_5)
@[simp] theorem B_L_classes_6_ev (ε : Ev) : B_L_classes_6 ε = ((sDX (dMut isLst extD (dV 1) (aCons (dLst (aCons (d1 (isiEO errTab "Overlap") (dV 0)) (aCons (d1 (isiEO errTab "OutOfRange") (dV 0)) aNil))) aNil))) ε).bind (thenF B_L_classes_5) := rfl
def B_L_classes_7 : Dn Fl := (bDC (sDX (dMut isLst extD (dV 1) (aCons (dLst (aCons (d1 (isiEO errTab "Unlike") (dV 0)) (aCons (d1 (isiEO errTab "NoPlace") (dV 0)) aNil))) aNil))) B_L_classes_6)
@[simp] theorem B_L_classes_7_ev (ε : Ev) : B_L_classes_7 ε = ((sDX (dMut isLst extD (dV 1) (aCons (dLst (aCons (d1 (isiEO errTab "Unlike") (dV 0)) (aCons (d1 (isiEO errTab "NoPlace") (dV 0)) aNil))) aNil))) ε).bind (thenF B_L_classes_6) := rfl
def B_L_classes_8 : Dn Fl := (bDC (sDX (dMut isLst extD (dV 1) (aCons (dLst (aCons (d1 (isiEO errTab "Unreadable") (dV 0)) (aCons (d1 (isiEO errTab "InvalidRow") (dV 0)) aNil))) aNil))) B_L_classes_7)
@[simp] theorem B_L_classes_8_ev (ε : Ev) : B_L_classes_8 ε = ((sDX (dMut isLst extD (dV 1) (aCons (dLst (aCons (d1 (isiEO errTab "Unreadable") (dV 0)) (aCons (d1 (isiEO errTab "InvalidRow") (dV 0)) aNil))) aNil))) ε).bind (thenF B_L_classes_7) := rfl
def B_L_classes_9 : Dn Fl := (bDC (sDX (dMut isLst extD (dV 1) (aCons (dLst (aCons (d1 (isiEO errTab "NoBack") (dV 0)) (aCons (d1 (isiEO errTab "Unbounded") (dV 0)) aNil))) aNil))) B_L_classes_8)
@[simp] theorem B_L_classes_9_ev (ε : Ev) : B_L_classes_9 ε = ((sDX (dMut isLst extD (dV 1) (aCons (dLst (aCons (d1 (isiEO errTab "NoBack") (dV 0)) (aCons (d1 (isiEO errTab "Unbounded") (dV 0)) aNil))) aNil))) ε).bind (thenF B_L_classes_8) := rfl
def B_L_classes_10 : Dn Fl := (bDC (sDX (dMut isLst extD (dV 1) (aCons (dLst (aCons (d1 (isiEO errTab "NoExchange") (dV 0)) (aCons (d1 (isiEO errTab "NoMirror") (dV 0)) aNil))) aNil))) B_L_classes_9)
@[simp] theorem B_L_classes_10_ev (ε : Ev) : B_L_classes_10 ε = ((sDX (dMut isLst extD (dV 1) (aCons (dLst (aCons (d1 (isiEO errTab "NoExchange") (dV 0)) (aCons (d1 (isiEO errTab "NoMirror") (dV 0)) aNil))) aNil))) ε).bind (thenF B_L_classes_9) := rfl
def B_L_classes_11 : Dn Fl := (bDC (sDX (dMut isLst extD (dV 1) (aCons (dLst (aCons (d1 (isiEO errTab "InvalidProgram") (dV 0)) (aCons (d1 (isiEO errTab "InvalidRun") (dV 0)) aNil))) aNil))) B_L_classes_10)
@[simp] theorem B_L_classes_11_ev (ε : Ev) : B_L_classes_11 ε = ((sDX (dMut isLst extD (dV 1) (aCons (dLst (aCons (d1 (isiEO errTab "InvalidProgram") (dV 0)) (aCons (d1 (isiEO errTab "InvalidRun") (dV 0)) aNil))) aNil))) ε).bind (thenF B_L_classes_10) := rfl
def B_L_classes_12 : Dn Fl := (bDC (sDX (dMut isLst extD (dV 1) (aCons (dLst (aCons (d1 (isiEO errTab "InvalidEdit") (dV 0)) (aCons (d1 (isiEO errTab "InvalidChange") (dV 0)) aNil))) aNil))) B_L_classes_11)
@[simp] theorem B_L_classes_12_ev (ε : Ev) : B_L_classes_12 ε = ((sDX (dMut isLst extD (dV 1) (aCons (dLst (aCons (d1 (isiEO errTab "InvalidEdit") (dV 0)) (aCons (d1 (isiEO errTab "InvalidChange") (dV 0)) aNil))) aNil))) ε).bind (thenF B_L_classes_11) := rfl
def B_L_classes_13 : Dn Fl := (bDC (sDX (dMut isLst extD (dV 1) (aCons (dLst (aCons (d1 (isiEO errTab "InvalidName") (dV 0)) (aCons (d1 (isiEO errTab "InvalidPart") (dV 0)) aNil))) aNil))) B_L_classes_12)
@[simp] theorem B_L_classes_13_ev (ε : Ev) : B_L_classes_13 ε = ((sDX (dMut isLst extD (dV 1) (aCons (dLst (aCons (d1 (isiEO errTab "InvalidName") (dV 0)) (aCons (d1 (isiEO errTab "InvalidPart") (dV 0)) aNil))) aNil))) ε).bind (thenF B_L_classes_12) := rfl
def B_L_classes_14 : Dn Fl := (bDC (sDX (dMut isLst extD (dV 1) (aCons (dLst (aCons (d1 (isiEO errTab "InvalidHand") (dV 0)) (aCons (d1 (isiEO errTab "InvalidFiles") (dV 0)) aNil))) aNil))) B_L_classes_13)
@[simp] theorem B_L_classes_14_ev (ε : Ev) : B_L_classes_14 ε = ((sDX (dMut isLst extD (dV 1) (aCons (dLst (aCons (d1 (isiEO errTab "InvalidHand") (dV 0)) (aCons (d1 (isiEO errTab "InvalidFiles") (dV 0)) aNil))) aNil))) ε).bind (thenF B_L_classes_13) := rfl
def B_L_classes_15 : Dn Fl := (bDC (sDX (dMut isLst extD (dV 1) (aCons (dLst (aCons (d1 (isiEO errTab "InvalidCount") (dV 0)) (aCons (d1 (isiEO errTab "InvalidSpot") (dV 0)) aNil))) aNil))) B_L_classes_14)
@[simp] theorem B_L_classes_15_ev (ε : Ev) : B_L_classes_15 ε = ((sDX (dMut isLst extD (dV 1) (aCons (dLst (aCons (d1 (isiEO errTab "InvalidCount") (dV 0)) (aCons (d1 (isiEO errTab "InvalidSpot") (dV 0)) aNil))) aNil))) ε).bind (thenF B_L_classes_14) := rfl
def B_L_classes_16 : Dn Fl := (bDC (sDX (dMut isLst extD (dV 1) (aCons (dLst (aCons (d1 (isiEO errTab "InvalidText") (dV 0)) (aCons (d1 (isiEO errTab "InvalidTable") (dV 0)) aNil))) aNil))) B_L_classes_15)
@[simp] theorem B_L_classes_16_ev (ε : Ev) : B_L_classes_16 ε = ((sDX (dMut isLst extD (dV 1) (aCons (dLst (aCons (d1 (isiEO errTab "InvalidText") (dV 0)) (aCons (d1 (isiEO errTab "InvalidTable") (dV 0)) aNil))) aNil))) ε).bind (thenF B_L_classes_15) := rfl
def B_L_classes_17 : Dn Fl := (bDC (sDX (dMut isLst extD (dV 1) (aCons (dLst (aCons (d1 (isiEO errTab "InvalidOld") (dV 0)) (aCons (d1 (isiEO errTab "InvalidNew") (dV 0)) aNil))) aNil))) B_L_classes_16)
@[simp] theorem B_L_classes_17_ev (ε : Ev) : B_L_classes_17 ε = ((sDX (dMut isLst extD (dV 1) (aCons (dLst (aCons (d1 (isiEO errTab "InvalidOld") (dV 0)) (aCons (d1 (isiEO errTab "InvalidNew") (dV 0)) aNil))) aNil))) ε).bind (thenF B_L_classes_16) := rfl
def B_L_classes_18 : Dn Fl := (bDC (sDSet 1 (dLst aNil)) B_L_classes_17)
@[simp] theorem B_L_classes_18_ev (ε : Ev) : B_L_classes_18 ε = ((sDSet 1 (dLst aNil)) ε).bind (thenF B_L_classes_17) := rfl
def F_L_classes : List D → Rf := bodyF [false] 2 B_L_classes_18
-- law 0:_law_script 1:_law_pen_here 2:_law_turn 3:_law_thing 4:_law_kept 5:_law_every 6:_law_error 7:_law_titled 8:_law_placed 9:_law_sort 10:_law_some
def B_law_0 : Dn Fl := (sDR (eDA (d2 eqO (dN repD (aCons (dV 10) aNil)) (dC (.str (tl ("[40, 4, 3, 8, 12, 20, 8, 4]" : Str))))) (d2 eqO (dN repD (aCons (dC (.int 1000000000000000000000000000000)) aNil)) (dN repD (aCons (d2 powD (dC (.int 10)) (dC (.int 30))) aNil)))))
@[simp] theorem B_law_0_ev (ε : Ev) : B_law_0 ε = (sDR (eDA (d2 eqO (dN repD (aCons (dV 10) aNil)) (dC (.str (tl ("[40, 4, 3, 8, 12, 20, 8, 4]" : Str))))) (d2 eqO (dN repD (aCons (dC (.int 1000000000000000000000000000000)) aNil)) (dN repD (aCons (d2 powD (dC (.int 10)) (dC (.int 30))) aNil))))) ε := rfl
def B_law_1 : Dn Fl := (bDC (sDSet 10 (dLst (aCons (dC (.int 40)) (aCons (dC (.int 4)) (aCons (dC (.int 3)) (aCons (dC (.int 8)) (aCons (dC (.int 12)) (aCons (dC (.int 20)) (aCons (dC (.int 8)) (aCons (dC (.int 4)) aNil)))))))))) B_law_0)
@[simp] theorem B_law_1_ev (ε : Ev) : B_law_1 ε = ((sDSet 10 (dLst (aCons (dC (.int 40)) (aCons (dC (.int 4)) (aCons (dC (.int 3)) (aCons (dC (.int 8)) (aCons (dC (.int 12)) (aCons (dC (.int 20)) (aCons (dC (.int 8)) (aCons (dC (.int 4)) aNil)))))))))) ε).bind (thenF B_law_0) := rfl
def B_law_2 : Dn Fl := (sDIf (tDO (bT (d2 neO (d1 (cntF true) (dCall [false] F_L_classes (aCons (dV 6) aNil))) (dC (.int 1)))) (bT (d2 neO (dN repD (aCons (dV 3) aNil)) (dV 4))))
  (sDR (dC (.bl false)))
  bDN)
@[simp] theorem B_law_2_ev (ε : Ev) : B_law_2 ε = (sDIf (tDO (bT (d2 neO (d1 (cntF true) (dCall [false] F_L_classes (aCons (dV 6) aNil))) (dC (.int 1)))) (bT (d2 neO (dN repD (aCons (dV 3) aNil)) (dV 4))))
  (sDR (dC (.bl false)))
  bDN) ε := rfl
def B_law_3 : Dn Fl := (bDC (sDIf (tDO (bT (d2 neO (dN repD (aCons (dLst (aCons (dV 7) (aCons (dV 8) aNil))) aNil)) (dN repD (aCons (dLst (aCons (dV 3) (aCons (dV 3) aNil))) aNil)))) (bT (d2 neO (dCall [false] F_L_sorts (aCons (dV 6) aNil)) (dLst (aCons (dV 9) aNil)))))
  (sDR (dC (.bl false)))
  bDN) B_law_2)
@[simp] theorem B_law_3_ev (ε : Ev) : B_law_3 ε = ((sDIf (tDO (bT (d2 neO (dN repD (aCons (dLst (aCons (dV 7) (aCons (dV 8) aNil))) aNil)) (dN repD (aCons (dLst (aCons (dV 3) (aCons (dV 3) aNil))) aNil)))) (bT (d2 neO (dCall [false] F_L_sorts (aCons (dV 6) aNil)) (dLst (aCons (dV 9) aNil)))))
  (sDR (dC (.bl false)))
  bDN) ε).bind (thenF B_law_2) := rfl
def B_law_4 : Dn Fl := (sDF (dI (dV 5)) (tgT 4 (tgsC (tgN 6) (tgsC (tgN 7) (tgsC (tgN 8) (tgsC (tgN 9) tgsN)))))
  B_law_3)
@[simp] theorem B_law_4_ev (ε : Ev) : B_law_4 ε = (sDF (dI (dV 5)) (tgT 4 (tgsC (tgN 6) (tgsC (tgN 7) (tgsC (tgN 8) (tgsC (tgN 9) tgsN)))))
  B_law_3) ε := rfl
def B_law_5 : Dn Fl := (bDC (sDPar [4, 5] (afC (dN repD (aCons (dV 3) aNil)) (afC (d2 addD (dCall [false] F_L_some_errors (aCons (dV 3) aNil)) (dCall [false] F_L_other_errors (aCons (dV 3) aNil))) afN))) B_law_4)
@[simp] theorem B_law_5_ev (ε : Ev) : B_law_5 ε = ((sDPar [4, 5] (afC (dN repD (aCons (dV 3) aNil)) (afC (d2 addD (dCall [false] F_L_some_errors (aCons (dV 3) aNil)) (dCall [false] F_L_other_errors (aCons (dV 3) aNil))) afN))) ε).bind (thenF B_law_4) := rfl
def B_law_6 : Dn Fl := (bDC (sDSet 3 (dCall [true] F_L_any_value (aCons (dV 1) aNil))) B_law_5)
@[simp] theorem B_law_6_ev (ε : Ev) : B_law_6 ε = ((sDSet 3 (dCall [true] F_L_any_value (aCons (dV 1) aNil))) ε).bind (thenF B_law_5) := rfl
def B_law_7 : Dn Fl := (bDC (sDF (fun ε => ((aCons (d2 addD (dC (.int 3)) (dN minD (aCons (dC (.int 5)) (aCons (dN lenD (aCons (dV 0) aNil)) aNil)))) aNil) ε).bind rng1) (tgN 2)
  B_law_6) B_law_1)
@[simp] theorem B_law_7_ev (ε : Ev) : B_law_7 ε = ((sDF (fun ε => ((aCons (d2 addD (dC (.int 3)) (dN minD (aCons (dC (.int 5)) (aCons (dN lenD (aCons (dV 0) aNil)) aNil)))) aNil) ε).bind rng1) (tgN 2)
  B_law_6) ε).bind (thenF B_law_1) := rfl
def B_law_8 : Dn Fl := (bDC (sDSet 1 (dCall [false] F_L_pen (aCons (dV 0) aNil))) B_law_7)
@[simp] theorem B_law_8_ev (ε : Ev) : B_law_8 ε = ((sDSet 1 (dCall [false] F_L_pen (aCons (dV 0) aNil))) ε).bind (thenF B_law_7) := rfl
def F_law : List D → Rf := bodyF [false] 11 B_law_8
theorem F_law_ev (ds : List D) : F_law ds = fnE [false] (B_law_8 (startE [false] ds ++ List.replicate 10 .no)) := body_ev _ _ _ _
end Den
namespace PL
open PySem PySem.Spec PyProof.Rows L2
open TL (tl)
open AB (sl)
/-! ### the source of draws -/
def penDD (xs : List Int) (t l : Int) : D := .dct [(.inr "cells", .lst (xs.map .int)), (.inr "turn", .int t), (.inr "left", .int l)]
theorem key_tl (s : Str) : keyD (.str (tl s)) = some (.inr s) := by
  show some (Sum.inr (sl (tl s))) = _
  rw [sl_tl]
theorem ix_dct (es : List (Key × D)) (d : D) : ixD (.dct es) d = (keyD d).bind fun k => (valD es k).map .sh := by cases d <;> rfl
section
variable (xs : List Int) (t l : Int)
@[simp] theorem pen_left : ixD (penDD xs t l) (.str (tl (Str.ofString "left"))) = some (.sh (.int l)) := by
  unfold penDD
  rw [ix_dct, key_tl]
  simp [valD, AB.e13, AB.e23]
@[simp] theorem pen_turn : ixD (penDD xs t l) (.str (tl (Str.ofString "turn"))) = some (.sh (.int t)) := by
  unfold penDD
  rw [ix_dct, key_tl]
  simp [valD, AB.e12]
@[simp] theorem pen_cells : ixD (penDD xs t l) (.str (tl (Str.ofString "cells"))) = some (.sh (.lst (xs.map .int))) := by
  unfold penDD
  rw [ix_dct, key_tl]
  simp [valD]
@[simp] theorem pen_setL (v : Int) : setD (penDD xs t l) [.int v, .str (tl (Str.ofString "left"))] = some (penDD xs t v, .non) := by
  unfold penDD setD
  dsimp only
  rw [key_tl]
  simp [putD, AB.e13, AB.e23]
@[simp] theorem pen_setT (v : Int) : setD (penDD xs t l) [.int v, .str (tl (Str.ofString "turn"))] = some (penDD xs v l, .non) := by
  unfold penDD setD
  dsimp only
  rw [key_tl]
  simp [putD, AB.e12, AB.e32]
end
/-! operations on numbers -/
@[simp] theorem addD_int (i j : Int) : addD (.int i) (.int j) = some (.sh (.int (i + j))) := rfl
@[simp] theorem subD_int (i j : Int) : subD (.int i) (.int j) = some (.sh (.int (i - j))) := rfl
theorem modD_int (i j : Int) (h : 0 < j) : modD (.int i) (.int j) = some (.sh (.int (i % j))) := if_pos h
theorem fdivD_int (i j : Int) (h : 0 < j) (h2 : j < 2 ^ 64) : fdivD (.int i) (.int j) = some (.sh (.int (i / j))) := by
  refine if_pos ⟨h, ?_⟩
  have : j.natAbs < 2 ^ 64 := by omega
  exact Nat.lt_trans (AB.log_lt2 (by decide) this) (by decide)
theorem log_lt {m k : Nat} (hk : 0 < k) (h : m < 2 ^ k) : m.log2 < k := AB.log_lt2 hk h
@[simp] theorem intD_int (i : Int) : intD [.int i] = some (.sh (.int i)) := rfl
@[simp] theorem intD_bl (b : Bool) : intD [.bl b] = some (.sh (.int (if b then 1 else 0))) := rfl
@[simp] theorem lenD_lst (ds : List D) : lenD [.lst ds] = some (.sh (.int ds.length)) := rfl
@[simp] theorem lenD_flz (ds : List D) : lenD [.flz ds] = some (.sh (.int ds.length)) := rfl
@[simp] theorem lenD_tup (ds : List D) : lenD [.tup ds] = some (.sh (.int ds.length)) := rfl
@[simp] theorem absD_int (i : Int) : absD [.int i] = some (.sh (.int (if i < 0 then -i else i))) := rfl
@[simp] theorem cmpI_int (g : Int → Int → Bool) (i j : Int) : cmpI g (.int i) (.int j) = some (.sh (.bl (g i j))) := rfl
@[simp] theorem ix_lst (ds : List D) (i : Int) : ixD (.lst ds) (.int i) = (atI ds i).map .sh := rfl
@[simp] theorem ix_tup (ds : List D) (i : Int) : ixD (.tup ds) (.int i) = (atI ds i).map .sh := rfl
@[simp] theorem negD_int (i : Int) : negD (.int i) = some (.sh (.int (-i))) := rfl
end PL
namespace Den
open PySem PySem.Spec PyProof.Rows L2 PL
open TL (tl)
theorem draw_left (xs : List Int) (t l m : Int) (hl : 0 < l) (hm : 0 < m) (h2 : m < 2 ^ 64) : F_L_draw [penDD xs t l, .int m] = .ok (.sh (.int (l % m))) [penDD xs t (l / m)] := by
  simp -implicitDefEqProofs [F_L_draw_ev, hl, modD_int _ _ hm, fdivD_int _ _ hm h2]
end Den
namespace PL
open PySem PySem.Spec PyProof.Rows L2 AB
open TL (tl)
/-! ### loops, in plain words -/
section
variable {g : Tg} {b : Dn Fl}
theorem forD_cons' (d : D) (ds : List D) (ε ε1 : Ev) (h : g d ε = some ε1) : forD g b (d :: ds) ε = (b ε1).bind (loopF (forD g b ds)) := by rw [forD_cons, h]; rfl
/-- a loop without an early end -/
theorem for_inv {P : Nat → Ev → Prop} : ∀ (ds : List D) (i : Nat) (ε : Ev), P i ε → (∀ j d ε, ds[j]? = some d → P (i + j) ε → ∃ ε1 ε2, g d ε = some ε1 ∧ b ε1 = .ok .nx ε2 ∧ P (i + j + 1) ε2) → ∃ ε', forD g b ds ε = .ok .nx ε' ∧ P (i + ds.length) ε'
  | [], i, ε, p, _ => ⟨ε, rfl, p⟩
  | d :: ds, i, ε, p, st => by
    obtain ⟨ε1, ε2, e1, e2, p2⟩ := st 0 d ε rfl p
    obtain ⟨ε', e, q⟩ := for_inv (P := P) ds (i + 1) ε2 p2 fun j d' ε3 hd p3 => by
      have := st (j + 1) d' ε3 (by simpa using hd) (by rw [show i + (j + 1) = i + 1 + j by omega]; exact p3)
      rw [show i + (j + 1) + 1 = i + 1 + j + 1 by omega] at this
      exact this
    refine ⟨ε', ?_, ?_⟩
    · rw [forD_cons' _ _ _ _ e1, e2]; exact e
    · rw [List.length_cons, show i + (ds.length + 1) = i + 1 + ds.length by omega]; exact q
end
end PL
namespace PL
open PySem PySem.Spec PyProof.Rows L2 AB
open TL (tl)
def PenOk (n : Nat) (p : D) : Prop := ∃ (xs : List Int) (t l : Int), p = penDD xs t l ∧ xs.length ≤ 63 ∧ 0 ≤ t ∧ t ≤ n ∧ 0 ≤ l
theorem PenOk.mono {n m : Nat} {p : D} (h : PenOk n p) (hn : n ≤ m) : PenOk m p := by
  obtain ⟨xs, t, l, e, h1, h2, h3, h4⟩ := h
  exact ⟨xs, t, l, e, h1, h2, by omega, h4⟩
@[simp] theorem neE_lst (ds : List D) : neE (.lst ds) (.lst []) = some (.sh (.bl (!ds.isEmpty))) := rfl
@[simp] theorem neE_tup (ds : List D) : neE (.tup ds) (.tup []) = some (.sh (.bl (!ds.isEmpty))) := rfl
@[simp] theorem eqE_lst (ds : List D) : eqE (.lst ds) (.lst []) = some (.sh (.bl ds.isEmpty)) := rfl
@[simp] theorem eqE_tup (ds : List D) : eqE (.tup ds) (.tup []) = some (.sh (.bl ds.isEmpty)) := rfl
theorem atI_get {α : Type} (ds : List α) (i : Int) (h : 0 ≤ i) (h2 : i < ds.length) : atI ds i = ds[i.toNat]? := by
  obtain ⟨k, rfl⟩ := Int.eq_ofNat_of_zero_le h
  have hk : k < ds.length := by omega
  rw [atI_nat (List.getElem?_eq_getElem hk)]
  simp [hk]
theorem atI_of {α : Type} (ds : List α) (i : Int) (h : 0 ≤ i) (h2 : i < ds.length) : ∃ d, atI ds i = some d ∧ d ∈ ds := by
  have hi : i.toNat < ds.length := by omega
  exact ⟨ds[i.toNat], by rw [atI_get ds i h h2, List.getElem?_eq_getElem hi], List.getElem_mem _⟩
@[simp] theorem pow18 : powD (.int 10) (.int 18) = some (.sh (.int 1000000000000000000)) := by
  have e : ((0 : Int) ≤ 18 ∧ (18 : Int) ≤ 1000000 ∧ (10 : Int).natAbs < 2 ^ 64) := ⟨by decide, by decide, by decide⟩
  have e2 : (10 : Int) ^ (18 : Int).toNat = 1000000000000000000 := by decide +kernel
  unfold powD
  dsimp only
  rw [if_pos e, e2]
theorem mul_lt {a b : Int} {n m : Nat} (hn : 0 < n) (hm : 0 < m) (h : a.natAbs < 2 ^ n) (h2 : b.natAbs < 2 ^ m) (hk : n + m ≤ 900) : mulD (.int a) (.int b) = some (.sh (.int (a * b))) := by
  refine if_pos ?_
  have := log_lt hn h
  have := log_lt hm h2
  omega
theorem mulP {a b : Int} (h : 0 ≤ a) (h2 : a < 1000000000000000000000000) (k : 0 ≤ b) (k2 : b < 1000000000000000000000000) : mulD (.int a) (.int b) = some (.sh (.int (a * b))) :=
  mul_lt (n := 100) (m := 100) (by decide) (by decide) (by omega) (by omega) (by decide)
theorem primeD (t : Int) : ∃ r, atI [D.int 2147483629, D.int 2147483647, D.int 2147483587, D.int 2147483563, D.int 2147483579] (t % 5) = some (.int r) ∧ 0 < r ∧ r < 2147483648 := by
  have h1 := Int.emod_nonneg t (b := 5) (by decide)
  have h2 := Int.emod_lt_of_pos t (b := 5) (by decide)
  generalize t % 5 = k at h1 h2
  have : k = 0 ∨ k = 1 ∨ k = 2 ∨ k = 3 ∨ k = 4 := by omega
  rcases this with rfl | rfl | rfl | rfl | rfl
  all_goals exact ⟨_, rfl, by decide, by decide⟩
end PL
namespace Den
open PySem PySem.Spec PyProof.Rows L2 PL
open TL (tl)
theorem tail_facts (c t : Int) (ht : 0 ≤ t) (htn : t < 2 ^ 61) : ∃ r q x y, atI [D.int 2147483629, D.int 2147483647, D.int 2147483587, D.int 2147483563, D.int 2147483579] (t % 5) = some (.int r) ∧ 0 < r ∧
    atI [D.int 2147483629, D.int 2147483647, D.int 2147483587, D.int 2147483563, D.int 2147483579] ((t + 2) % 5) = some (.int q) ∧ 0 < q ∧
    mulD (.int 43) (.int t) = some (.sh (.int (43 * t))) ∧ mulD (.int (c % r)) (.int 39373) = some (.sh (.int (c % r * 39373))) ∧ mulD (.int 30011) (.int t) = some (.sh (.int (30011 * t))) ∧
    mulD (.int t) (.int (30011 * t + 8117)) = some (.sh (.int (t * (30011 * t + 8117)))) ∧ (c % r * 39373 + t * (30011 * t + 8117) + 23) % r = x ∧ mulD (.int x) (.int (x + 69621)) = some (.sh (.int (x * (x + 69621)))) ∧
    x * (x + 69621) % q = y ∧ mulD (.int y) (.int y) = some (.sh (.int (y * y))) ∧ mulD (.int 16807) (.int y) = some (.sh (.int (16807 * y))) := by
  obtain ⟨r, hr, r0, r1⟩ := primeD t
  obtain ⟨q, hq, q0, q1⟩ := primeD (t + 2)
  have a0 := Int.emod_nonneg c (b := r) (by omega)
  have a1 := Int.emod_lt_of_pos c r0
  have x0 := Int.emod_nonneg (c % r * 39373 + t * (30011 * t + 8117) + 23) (b := r) (by omega)
  have x1 := Int.emod_lt_of_pos (c % r * 39373 + t * (30011 * t + 8117) + 23) r0
  generalize hx : (c % r * 39373 + t * (30011 * t + 8117) + 23) % r = x at x0 x1
  have y0 := Int.emod_nonneg (x * (x + 69621)) (b := q) (by omega)
  have y1 := Int.emod_lt_of_pos (x * (x + 69621)) q0
  generalize hy : x * (x + 69621) % q = y at y0 y1
  exact ⟨r, q, x, y, hr, r0, hq, q0, mulP (by omega) (by omega) (by omega) (by omega), mulP (by omega) (by omega) (by omega) (by omega), mulP (by omega) (by omega) (by omega) (by omega), mulP (by omega) (by omega) (by omega) (by omega), hx,
    mulP (by omega) (by omega) (by omega) (by omega), hy, mulP (by omega) (by omega) (by omega) (by omega), mulP (by omega) (by omega) (by omega) (by omega)⟩
theorem draw_ok {n : Nat} {p : D} {m : Int} (hp : PenOk n p) (hn : n < 2 ^ 60) (hm : 0 < m) (h2 : m < 2 ^ 60) : ∃ i p', F_L_draw [p, .int m] = .ok (.sh (.int i)) [p'] ∧ 0 ≤ i ∧ i < m ∧ PenOk (n + 1) p' := by
  obtain ⟨xs, t, l, rfl, hxs, ht, htn, hl⟩ := hp
  by_cases l0 : 0 < l
  · exact ⟨_, _, draw_left xs t l m l0 hm (by omega), Int.emod_nonneg _ (by omega), Int.emod_lt_of_pos _ hm, xs, t, l / m, rfl, hxs, ht, by omega, Int.ediv_nonneg hl (by omega)⟩
  · have hm5 : (0 : Int) < 5 := by decide
    by_cases e : xs = []
    · subst e
      obtain ⟨c, hc⟩ : ∃ c, c = 43 * t + 19 := ⟨_, rfl⟩
      obtain ⟨r, q, x, y, hr, r0, hq, q0, m1, m2, m3, m4, hx, m5, hy, m6, m7⟩ := tail_facts c t ht (by omega)
      have t0 : ¬ t < 0 := by omega
      refine ⟨_, _, ?_, Int.emod_nonneg ((y * y + 16807 * y + t) % 2147483549 / 64) (b := m) (by omega), Int.emod_lt_of_pos _ hm, [], t + 1, l, rfl, by decide, by omega, by omega, hl⟩
      simp -implicitDefEqProofs [F_L_draw_ev, l0, m1, ← hc, t0, hr, hq, m2, m3, m4, m5, m6, m7, hx, hy, modD_int _ _ r0, modD_int _ _ q0, modD_int _ _ hm, modD_int _ 5 (by decide), modD_int _ 2147483549 (by decide), fdivD_int _ 64 (by decide) (by decide)]
    · have xl : 0 < xs.length := List.length_pos_iff.mpr e
      have hxe : xs.isEmpty = false := by cases xs <;> simp_all
      obtain ⟨d, hd, hmem⟩ := atI_of (xs.map D.int) (t % (xs.length : Int)) (Int.emod_nonneg _ (by omega)) (by rw [List.length_map]; exact Int.emod_lt_of_pos _ (by omega))
      obtain ⟨c, _, rfl⟩ := List.mem_map.mp hmem
      have xl' : (0 : Int) < xs.length := by omega
      by_cases big : t < xs.length ∧ 1000000000000000000 ≤ (if c < 0 then -c else c)
      · obtain ⟨b1, b2⟩ := big
        have m1 : mulD (.int 43) (.int t) = some (.sh (.int (43 * t))) := mulP (by omega) (by omega) (by omega) (by omega)
        refine ⟨_, _, ?_, Int.emod_nonneg ((if c < 0 then -c else c) - 1000000000000000000) (b := m) (by omega), Int.emod_lt_of_pos _ hm, xs, t + 1, ((if c < 0 then -c else c) - 1000000000000000000) / m, rfl, hxs, by omega, by omega, Int.ediv_nonneg (by omega) (by omega)⟩
        simp -implicitDefEqProofs [F_L_draw_ev, l0, m1, hxe, hd, b1, b2, modD_int _ _ hm, modD_int _ _ xl', fdivD_int _ _ hm (by omega)]
      · obtain ⟨r, q, x, y, hr, r0, hq, q0, m1, m2, m3, m4, hx, m5, hy, m6, m7⟩ := tail_facts c t ht (by omega)
        refine ⟨_, _, ?_, Int.emod_nonneg ((y * y + 16807 * y + t) % 2147483549 / 64) (b := m) (by omega), Int.emod_lt_of_pos _ hm, xs, t + 1, l, rfl, hxs, by omega, by omega, hl⟩
        by_cases b1 : t < xs.length
        · have b2 : ¬ 1000000000000000000 ≤ (if c < 0 then -c else c) := fun z => big ⟨b1, z⟩
          simp -implicitDefEqProofs [F_L_draw_ev, l0, m1, hxe, hd, b1, b2, hr, hq, m2, m3, m4, m5, m6, m7, hx, hy, modD_int _ _ xl', modD_int _ _ r0, modD_int _ _ q0, modD_int _ _ hm, modD_int _ 5 (by decide), modD_int _ 2147483549 (by decide), fdivD_int _ 64 (by decide) (by decide)]
        · simp -implicitDefEqProofs [F_L_draw_ev, l0, m1, hxe, hd, b1, hr, hq, m2, m3, m4, m5, m6, m7, hx, hy, modD_int _ _ xl', modD_int _ _ r0, modD_int _ _ q0, modD_int _ _ hm, modD_int _ 5 (by decide), modD_int _ 2147483549 (by decide), fdivD_int _ 64 (by decide) (by decide)]
end Den
namespace PL
open PySem PySem.Spec PyProof.Rows L2 AB
open TL (tl)
/-! ### comprehensions, read step by step -/
section
variable (vs : List Nat) (g : Tg) (c : Dn Bool) (e : Dn Fv) (xs acc : List D)
def cKe : Option (List D × Ev) → Re (List D)
  | some ([d], ε4) => if acc.length < 16000000 then compD vs g c e xs (acc ++ [d]) (wipeE ε4 vs) else .no
  | _ => .no
def cKd : Re Fv → Re (List D)
  | .ok fv ε3 => cKe vs g c e xs acc (shr [fv.old] ε3)
  | _ => .no
def cKc : Re Bool → Re (List D)
  | .ok true ε2 => cKd vs g c e xs acc (e ε2)
  | .ok false ε2 => compD vs g c e xs acc (wipeE ε2 vs)
  | _ => .no
def cKg : Option Ev → Re (List D)
  | some ε1 => cKc vs g c e xs acc (c ε1)
  | none => .no
@[simp] theorem cKe_some (d : D) (ε : Ev) : cKe vs g c e xs acc (some ([d], ε)) = if acc.length < 16000000 then compD vs g c e xs (acc ++ [d]) (wipeE ε vs) else .no := rfl
@[simp] theorem cKd_ok (fv : Fv) (ε : Ev) : cKd vs g c e xs acc (.ok fv ε) = cKe vs g c e xs acc (shr [fv.old] ε) := rfl
@[simp] theorem cKc_t (ε : Ev) : cKc vs g c e xs acc (.ok true ε) = cKd vs g c e xs acc (e ε) := rfl
@[simp] theorem cKc_f (ε : Ev) : cKc vs g c e xs acc (.ok false ε) = compD vs g c e xs acc (wipeE ε vs) := rfl
@[simp] theorem cKg_some (ε : Ev) : cKg vs g c e xs acc (some ε) = cKc vs g c e xs acc (c ε) := rfl
@[simp] theorem compD_nil (ε : Ev) : compD vs g c e [] acc ε = .ok acc ε := rfl
end
@[simp] theorem wipeE_nil (ε : Ev) : wipeE ε [] = ε := rfl
@[simp] theorem wipeE_cons (ε : Ev) (v : Nat) (vs : List Nat) : wipeE ε (v :: vs) = (wipeE ε vs).set v .no := rfl
def slotAt (ε : Ev) (v : Nat) : Sl := match ε[v]? with
  | some s => s
  | none => .no
@[simp] theorem slotAt_0 (s : Sl) (ε : Ev) : slotAt (s :: ε) 0 = s := rfl
@[simp] theorem slotAt_s (s : Sl) (ε : Ev) (v : Nat) : slotAt (s :: ε) (v + 1) = slotAt ε v := rfl
@[simp] theorem resE_nil (ε' ε1 : Ev) : resE ε' ε1 [] = ε' := rfl
@[simp] theorem resE_cons (ε' ε1 : Ev) (v : Nat) (vs : List Nat) : resE ε' ε1 (v :: vs) = resE (ε'.set v (slotAt ε1 v)) ε1 vs := rfl
def mutAt (ε : Ev) (v : Nat) : Bool := match ε[v]? with
  | some s => !s.mut
  | none => false
@[simp] theorem mutAt_0no (ε : Ev) : mutAt (.no :: ε) 0 = true := rfl
@[simp] theorem mutAt_0sh (d : D) (ε : Ev) : mutAt (.sh d :: ε) 0 = true := rfl
@[simp] theorem mutAt_s (s : Sl) (ε : Ev) (v : Nat) : mutAt (s :: ε) (v + 1) = mutAt ε v := rfl
@[simp] theorem noMut_nil (ε : Ev) : noMut ε [] = true := rfl
@[simp] theorem noMut_cons (ε : Ev) (v : Nat) (vs : List Nat) : noMut ε (v :: vs) = (mutAt ε v && noMut ε vs) := rfl
def kLc2 (ε1 : Ev) (vs : List Nat) (ds : List D) (ε2 : Ev) : Re Fv := .ok (.fr (.lst ds)) (resE ε2 ε1 vs)
@[simp] theorem kLc2_ev (ε1 : Ev) (vs : List Nat) (ds : List D) (ε2 : Ev) : kLc2 ε1 vs ds ε2 = .ok (.fr (.lst ds)) (resE ε2 ε1 vs) := rfl
def kLc (vs : List Nat) (g : Tg) (c : Dn Bool) (e : Dn Fv) (xs : List D) (ε1 : Ev) : Re Fv := if noMut ε1 vs = true then (compD vs g c e xs [] (wipeE ε1 vs)).bind (kLc2 ε1 vs) else .no
@[simp] theorem kLc_ev (vs : List Nat) (g : Tg) (c : Dn Bool) (e : Dn Fv) (xs : List D) (ε1 : Ev) : kLc vs g c e xs ε1 = if noMut ε1 vs = true then (compD vs g c e xs [] (wipeE ε1 vs)).bind (kLc2 ε1 vs) else .no := rfl
@[simp] theorem dLc_ev (di : Dn (List D)) (vs : List Nat) (g : Tg) (c : Dn Bool) (e : Dn Fv) (ε : Ev) : dLc di vs g c e ε = (di ε).bind (kLc vs g c e) := rfl
/-! slices -/
theorem sIx_none (n d : Nat) : HT.sIx n d none = d := rfl
theorem sIx_nat (n d k : Nat) : HT.sIx n d (some (k : Int)) = min k n := by
  show (if ((k : Int) < 0) then ((k : Int) + (n : Int)).toNat else min (k : Int).toNat n) = _
  rw [if_neg (by omega), Int.toNat_natCast]
theorem cut_take {α : Type} (l : List α) (k : Nat) : cutL l none (some (k : Int)) = l.take k := by
  unfold cutL
  rw [sIx_none, sIx_nat, List.drop_zero, Nat.sub_zero]
  by_cases h : k ≤ l.length
  · rw [Nat.min_eq_left h]
  · rw [Nat.min_eq_right (by omega), List.take_of_length_le (Nat.le_refl _), List.take_of_length_le (by omega)]
@[simp] theorem tl_nil : tl (Str.ofString "") = [] := by decide +kernel
end PL
namespace Den
open PySem PySem.Spec PyProof.Rows L2 PL AB
open TL (tl)
theorem pick_lst {n : Nat} {p : D} {ds : List D} (hp : PenOk n p) (hn : n < 2 ^ 60) (h0 : 0 < ds.length) (h1 : ds.length < 2 ^ 60) : ∃ d p', F_L_pick [p, .lst ds] = .ok (.sh d) [p'] ∧ d ∈ ds ∧ PenOk (n + 1) p' := by
  obtain ⟨i, p', e, i0, i1, hp'⟩ := draw_ok (m := (ds.length : Int)) hp hn (by omega) (by omega)
  obtain ⟨d, hd, hm⟩ := atI_of ds i i0 i1
  exact ⟨d, p', by simp -implicitDefEqProofs [F_L_pick_ev, e, hd], hm, hp'⟩
@[simp] theorem ix_str (l : List Nat) (i : Int) (h : l.length ≤ 16000000) : ixD (.str l) (.int i) = (atI l i).map fun c => .sh (.str [c]) := if_pos h
end Den
/-! PF1: loops and comprehensions in plain words -/
namespace PL
open PySem PySem.Spec PyProof.Rows L2 AB
open TL (tl)
theorem for_inv0 {g : Tg} {b : Dn Fl} {P : Nat → Ev → Prop} (ds : List D) (ε : Ev) (p : P 0 ε) (st : ∀ j d ε, ds[j]? = some d → P j ε → ∃ ε1 ε2, g d ε = some ε1 ∧ b ε1 = .ok .nx ε2 ∧ P (j + 1) ε2) : ∃ ε', forD g b ds ε = .ok .nx ε' ∧ P ds.length ε' := by
  have := for_inv (g := g) (b := b) (P := P) ds 0 ε p fun j d ε hd p => by
    rw [Nat.zero_add] at p ⊢
    exact st j d ε hd p
  rwa [Nat.zero_add] at this
/-- a slot that may be written -/
def Fs (s : Sl) : Prop := s = .no ∨ ∃ d, s = .sh d
theorem Fs.no : Fs .no := .inl rfl
theorem Fs.sh (d : D) : Fs (.sh d) := .inr ⟨d, rfl⟩
theorem setS_fs {s : Sl} (h : Fs s) (d : D) (ε : Ev) : setS (s :: ε) 0 (.sh d) = some (.sh d :: ε) := by
  rcases h with rfl | ⟨e, rfl⟩ <;> rfl
theorem setS_fsf {s : Sl} (h : Fs s) (d : D) (ε : Ev) : setS (s :: ε) 0 (.fr d) = some (.ow d :: ε) := by
  rcases h with rfl | ⟨e, rfl⟩ <;> rfl
theorem rngD_gt (lo : Int) (n j : Nat) (d : D) (h : (rngD lo n)[j]? = some d) : j < n ∧ d = .int (lo + (j : Int)) := by
  unfold rngD at h
  rw [List.getElem?_map] at h
  have hj : j < n := by
    by_cases q : j < n
    · exact q
    · rw [List.getElem?_eq_none (by simp; omega)] at h; cases h
  rw [List.getElem?_range hj] at h
  simp at h
  exact ⟨hj, h.symm⟩
@[simp] theorem rngD_len (lo : Int) (n : Nat) : (rngD lo n).length = n := by simp [rngD]
@[simp] theorem ne_int (i j : Int) : neO (.int i) (.int j) = some (.sh (.bl (!decide (i = j)))) := by
  show (if pl 60 (.int i) = true ∧ pl 60 (.int j) = true then some (Fv.sh (.bl (!(i == j)))) else none) = _
  rw [if_pos ⟨rfl, rfl⟩]
  by_cases h : i = j <;> simp [h]
@[simp] theorem eq_int (i j : Int) : eqO (.int i) (.int j) = some (.sh (.bl (decide (i = j)))) := by
  show (if pl 60 (.int i) = true ∧ pl 60 (.int j) = true then some (Fv.sh (.bl ((i == j)))) else none) = _
  rw [if_pos ⟨rfl, rfl⟩]
  by_cases h : i = j <;> simp [h]
@[simp] theorem eq_str (x y : List Nat) : eqO (.str x) (.str y) = some (.sh (.bl (x == y))) := rfl
@[simp] theorem ne_str (x y : List Nat) : neO (.str x) (.str y) = some (.sh (.bl (!(x == y)))) := rfl
@[simp] theorem minD_2 (i j : Int) : minD [.int i, .int j] = some (.sh (.int (if j < i then j else i))) := rfl
@[simp] theorem maxD_2 (i j : Int) : maxD [.int i, .int j] = some (.sh (.int (if j > i then j else i))) := rfl
@[simp] theorem tru_bl (b : Bool) : tru (.bl b) = some b := rfl
@[simp] theorem tru_int (i : Int) : tru (.int i) = some (i != 0) := rfl
end PL
/-! PFV0: the pen, values of any kind -/
namespace PL
open PySem PySem.Spec PyProof.Rows L2 AB
open TL (tl)
theorem addD_lst (a b : List D) (h : a.length + b.length ≤ 16000000) : addD (.lst a) (.lst b) = some (.fr (.lst (a ++ b))) := if_pos h
end PL
namespace Den
open PySem PySem.Spec PyProof.Rows L2 PL AB
open TL (tl)
theorem pen_ok (ns : List Int) (h : ns.length ≤ 63) : ∃ p, F_L_pen [.flz (ns.map .int)] = .ok (.fr p) [] ∧ PenOk 0 p := by
  refine ⟨penDD ns 0 0, ?_, ns, 0, 0, rfl, h, by omega, by omega, by omega⟩
  have c : cutL (ns.map D.int) none (some 63) = ns.map D.int := by
    rw [show (some (63 : Int)) = some ((63 : Nat) : Int) from rfl, cut_take, List.take_of_length_le (by simp; omega)]
  have e : (dN listD (aCons (dSl (dV 0) none (some (dC (.int 63)))) aNil)) [.sh (.flz (ns.map D.int))] = .ok (.fr (.lst (ns.map D.int))) [.sh (.flz (ns.map D.int))] := by
    simp -implicitDefEqProofs [slO_flz, c, listD]
  have pr : dDisp [((dC (.str (tl (Str.ofString "cells")))), (dN listD (aCons (dSl (dV 0) none (some (dC (.int 63)))) aNil))), ((dC (.str (tl (Str.ofString "turn")))), (dC (.int 0))), ((dC (.str (tl (Str.ofString "left")))), (dC (.int 0)))] [.sh (.flz (ns.map D.int))] = .ok (.fr (penDD ns 0 0)) [.sh (.flz (ns.map D.int))] := by
    unfold dDisp PL.prD
    simp only [dC_ev, Re.bind, e, PL.prD, Fv.old, dispF, List.map_cons, List.map_nil]
    have k1 : (rds [Sl.sh (D.flz (ns.map D.int))] [Fv.sh (D.str (tl (Str.ofString "cells"))), Fv.sh (D.str (tl (Str.ofString "turn"))), Fv.sh (D.str (tl (Str.ofString "left")))]).bind keysOf = some [.inr "cells", .inr "turn", .inr "left"] := by
      show keysOf [D.str (tl (Str.ofString "cells")), D.str (tl (Str.ofString "turn")), D.str (tl (Str.ofString "left"))] = _
      simp only [keysOf, key_tl]
    rw [k1]
    have k2 : shr [Fv.sh (D.lst (ns.map D.int)), Fv.sh (D.int 0), Fv.sh (D.int 0)] [Sl.sh (D.flz (ns.map D.int))] = some ([D.lst (ns.map D.int), .int 0, .int 0], [Sl.sh (D.flz (ns.map D.int))]) := by
      simp -implicitDefEqProofs
    rw [k2]
    simp [mergeD, putD, penDD, AB.e12, AB.e13, AB.e23]
  simp -implicitDefEqProofs [F_L_pen_ev, pr]
def aS (s : String) : D := .str (tl (Str.ofString s))
def aM (s : String) (n : Nat) : D := .str (List.replicate n (tl (Str.ofString s))).flatten
theorem mul_a {s : String} (n : Nat) (hs : (tl (Str.ofString s)).length = 1) (hn : n < 1000) : mulD (.str (tl (Str.ofString s))) (.int (n : Int)) = some (.sh (aM s n)) := by
  have h : (0 : Int) ≤ (n : Int) ∧ (n : Int) < 1000000 ∧ (tl (Str.ofString s)).length * (n : Int).toNat ≤ 1000000 := ⟨by omega, by omega, by rw [hs]; omega⟩
  simp only [mulD]
  rw [if_pos h, Int.toNat_natCast]
  rfl
def p59 : Int := 10 ^ 59
theorem pow59 : powD (.int 10) (.int 59) = some (.sh (.int p59)) := by
  have h : (0 : Int) ≤ 59 ∧ (59 : Int) ≤ 1000000 ∧ (10 : Int).natAbs < 2 ^ 64 := by decide
  simp only [powD]
  rw [if_pos h]
  rfl
theorem disp_ab (ε : Ev) : dDisp [((dC (.str (tl (Str.ofString "a")))), (dC (.str (tl (Str.ofString "b")))))] ε = .ok (.fr (.dct [(.inr (sl (tl (Str.ofString "a"))), aS "b")])) ε := rfl
def anyL : List D := [.non, .bl true, .bl false, .int 0, .int 1, .int (-1),   .int p59, .str [], aS "a", aS "\t", aS "a\t", aS "ab", .tup [], .tup [aS "a"], .tup [aS "a", aS "b"], .lst [aS "a", aS "b"], .dct [],
  .lst [.int 1], .tup [aS "a", .int 1], .tup [.str [], aS "a"], .tup [aS "a", aS "\t"], .tup [aS "a", aS "b", aS "c"], .dct [(.inr (sl (tl (Str.ofString "a"))), aS "b")], aS "once", .tup [aM "a" 41, .str []],
  .tup [aS "a", aM "b" 41], aM "a" 41, aM "b" 50, .tup [.int 0, .int 1], .lst [], .tup [aS "a", .non]]
end Den
/-! PFV: any value (needs _law_any_value) -/
namespace Den
open PySem PySem.Spec PyProof.Rows L2 PL AB
open TL (tl)
theorem any_value_eq {n : Nat} {p : D} (hp : PenOk n p) (hn : n < 2 ^ 50) : ∃ d p', F_L_any_value [p] = .ok (.sh d) [p'] ∧ d ∈ anyL ∧ PenOk (n + 1) p' := by
  obtain ⟨d, p', e, hd, hp'⟩ := pick_lst (ds := anyL) hp (by omega) (by decide) (by decide)
  refine ⟨d, p', ?_, hd, hp'⟩
  have m1 : mulD (.str (tl (Str.ofString "a"))) (.int 41) = some (.sh (aM "a" 41)) := mul_a 41 (by decide +kernel) (by decide)
  have m2 : mulD (.str (tl (Str.ofString "b"))) (.int 41) = some (.sh (aM "b" 41)) := mul_a 41 (by decide +kernel) (by decide)
  have m3 : mulD (.str (tl (Str.ofString "b"))) (.int 50) = some (.sh (aM "b" 50)) := mul_a 50 (by decide +kernel) (by decide)
  unfold anyL aS at e
  simp -implicitDefEqProofs [F_L_any_value_ev, m1, m2, m3, pow59, disp_ab, aS, addD_lst, e]
end Den
/-! PFG: slots that may own -/
namespace PL
open PySem PySem.Spec PyProof.Rows L2 AB
open TL (tl)
/-- a slot that may be written, also one that owns -/
def Gs (s : Sl) : Prop := s = .no ∨ (∃ d, s = .sh d) ∨ ∃ d, s = .ow d
theorem Gs.no : Gs .no := .inl rfl
theorem Gs.sh (d : D) : Gs (.sh d) := .inr (.inl ⟨d, rfl⟩)
theorem Gs.ow (d : D) : Gs (.ow d) := .inr (.inr ⟨d, rfl⟩)
theorem repD_ok {d : D} (h : okRep d) : repD [d] = some (.sh (.str (repL d))) := if_pos h
end PL
/-! PLAW: law k13 holds -/
namespace Den
open PySem PySem.Spec PyProof.Rows L2 PL AB
open TL (tl)
/-- a row: an error, its field twice, what it stands above -/
def rowE (x : Str) (fs : List (Str × D)) (d : D) (w : String) : D := .tup [.dcT (x, fs), d, d, .str (tl (w : Str))]
def rows1 (d : D) : List D := [rowE "InvalidOld" [("value", d)] d "value", rowE "InvalidNew" [("value", d)] d "value", rowE "InvalidText" [("value", d)] d "value", rowE "InvalidTable" [("value", d)] d "value", rowE "InvalidCount" [("value", d)] d "value",
  rowE "InvalidSpot" [("value", d)] d "value", rowE "InvalidHand" [("value", d)] d "value", rowE "InvalidFiles" [("value", d)] d "value", rowE "InvalidName" [("value", d)] d "value", rowE "InvalidPart" [("index", d)] d "value", rowE "InvalidEdit" [("index", d)] d "value",
  rowE "InvalidChange" [("index", d)] d "value", rowE "InvalidProgram" [("index", d)] d "value", rowE "InvalidRun" [("index", d)] d "value", rowE "NoExchange" [("index", d)] d "value", rowE "NoMirror" [("index", d)] d "value", rowE "NoBack" [("index", d)] d "value"]
def rows2 (d : D) : List D := [rowE "Unbounded" [("index", d)] d "value", rowE "Unreadable" [("index", d)] d "value", rowE "InvalidRow" [("row", d)] d "value", rowE "NoPlace" [("index", .int 0), ("number", d)] d "lookup", rowE "Overlap" [("index", d)] d "lookup",
  rowE "OutOfRange" [("value", d)] d "lookup", rowE "NoFile" [("name", d)] d "lookup", rowE "NoLabel" [("label", d)] d "lookup", rowE "TooMany" [("limit", d)] d "overflow", rowE "TooLong" [("limit", d)] d "overflow", rowE "NotRight" [("hand", d)] d "runtime",
  rowE "Clash" [("hand", .int 0), ("other", d)] d "runtime", rowE "FileNotRight" [("name", .int 0), ("index", d)] d "runtime", rowE "Apart" [("name", d)] d "runtime", rowE "Broken" [("name", d)] d "runtime", rowE "Unsafe" [("name", .int 0), ("case", d)] d "runtime", rowE "Unlike" [] d "value"]
theorem some_eq (d : D) : F_L_some_errors [d] = .ok (.fr (.lst (rows1 d))) [] := by kernel_rfl
theorem other_eq (d : D) : F_L_other_errors [d] = .ok (.fr (.lst (rows2 d))) [] := by kernel_rfl
def wOf (B : String) : String := if B = "ValueError" then "value" else if B = "LookupError" then "lookup" else if B = "OverflowError" then "overflow" else "runtime"
/-- the classes in the order in which they are asked -/
def clsO : List Str := [("InvalidOld" : Str), ("InvalidNew" : Str), ("InvalidText" : Str), ("InvalidTable" : Str), ("InvalidCount" : Str), ("InvalidSpot" : Str), ("InvalidHand" : Str), ("InvalidFiles" : Str), ("InvalidName" : Str), ("InvalidPart" : Str), ("InvalidEdit" : Str), ("InvalidChange" : Str), ("InvalidProgram" : Str), ("InvalidRun" : Str),
  ("NoExchange" : Str), ("NoMirror" : Str), ("NoBack" : Str), ("Unbounded" : Str), ("Unreadable" : Str), ("InvalidRow" : Str), ("Unlike" : Str), ("NoPlace" : Str), ("Overlap" : Str), ("OutOfRange" : Str), ("NoFile" : Str), ("NoLabel" : Str), ("TooMany" : Str), ("TooLong" : Str), ("NotRight" : Str), ("Clash" : Str), ("FileNotRight" : Str), ("Apart" : Str), ("Broken" : Str), ("Unsafe" : Str)]
def clD (x : Str) : List D := clsO.map fun q => .bl (x == q)
/-- what is asked of one class -/
structure RowF (x : Str) (B : String) : Prop where
  so : ∀ fs, F_L_sorts [.dcT (x, fs)] = .ok (.fr (.lst [.str (tl (wOf B : Str))])) []
  cl : ∀ fs, F_L_classes [.dcT (x, fs)] = .ok (.fr (.lst (clD x))) []
  ct : cntF true (.lst (clD x)) = some (.sh (.int 1))
  ne : neO (.lst [.str (tl (wOf B : Str))]) (.lst [.str (tl (wOf B : Str))]) = some (.sh (.bl false))
theorem rowF : ∀ p ∈ errTab, RowF p.1 p.2 := by
  intro p hp
  simp only [errTab, List.mem_cons, List.not_mem_nil, or_false] at hp
  rcases hp with rfl | rfl | rfl | rfl | rfl | rfl | rfl | rfl | rfl | rfl | rfl | rfl | rfl | rfl | rfl | rfl | rfl | rfl | rfl | rfl | rfl | rfl | rfl | rfl | rfl | rfl | rfl | rfl | rfl | rfl | rfl | rfl | rfl | rfl <;>
    exact ⟨fun fs => by kernel_rfl, fun fs => by kernel_rfl, by kernel_rfl, by kernel_rfl⟩
theorem rows_all (d : D) : ∀ r ∈ rows1 d ++ rows2 d, ∃ (x : Str) (B : String) (fs : List (Str × D)), (x, B) ∈ errTab ∧ r = rowE x fs d (wOf B) := by
  intro r hr
  have key : ∀ {x : Str} {w : String} {fs : List (Str × D)} (B : String), (x, B) ∈ errTab → w = wOf B → ∃ (x' : Str) (B : String) (fs' : List (Str × D)), (x', B) ∈ errTab ∧ rowE x fs d w = rowE x' fs' d (wOf B) := fun {x w fs} B h e => ⟨x, B, fs, h, congrArg (rowE x fs d) e⟩
  simp only [rows1, rows2, List.cons_append, List.nil_append, List.mem_cons, List.not_mem_nil, or_false] at hr
  rcases hr with rfl | rfl | rfl | rfl | rfl | rfl | rfl | rfl | rfl | rfl | rfl | rfl | rfl | rfl | rfl | rfl | rfl | rfl | rfl | rfl | rfl | rfl | rfl | rfl | rfl | rfl | rfl | rfl | rfl | rfl | rfl | rfl | rfl | rfl <;>
    first
    | exact key "ValueError" (by decide +kernel) (by decide +kernel)
    | exact key "LookupError" (by decide +kernel) (by decide +kernel)
    | exact key "OverflowError" (by decide +kernel) (by decide +kernel)
    | exact key "RuntimeError" (by decide +kernel) (by decide +kernel)
theorem row_ok {S0 S1 S2 S5 S10 : Sl} {d : D} {R R2 : List Nat} {x : Str} {B : String} {fs : List (Str × D)} (h : (x, B) ∈ errTab) (r1 : repD [d] = some (.sh (.str R))) (r2 : repD [.lst [d, d]] = some (.sh (.str R2))) :
    B_law_3 [S0, S1, S2, .sh d, .sh (.str R), S5, .sh (.dcT (x, fs)), .sh d, .sh d, .sh (.str (tl (wOf B : Str))), S10] = .ok .nx [S0, S1, S2, .sh d, .sh (.str R), S5, .sh (.dcT (x, fs)), .sh d, .sh d, .sh (.str (tl (wOf B : Str))), S10] := by
  obtain ⟨so, cl, ct, ne⟩ := rowF (x, B) h
  have so := so fs
  have cl := cl fs
  dsimp only at so cl ct ne
  generalize tl (wOf B : Str) = w at *
  generalize clD x = L at *
  generalize hE : D.dcT (x, fs) = E at *
  have e1 : neO (.str R2) (.str R2) = some (.sh (.bl false)) := by simp
  have e2 : neO (.str R) (.str R) = some (.sh (.bl false)) := by simp
  have e3 : neO (.int 1) (.int 1) = some (.sh (.bl false)) := by simp
  simp -implicitDefEqProofs [so, cl, ct, ne, r1, r2, e1, e2, e3]
theorem any_rep : ∀ d ∈ anyL, okRep d ∧ okRep (.lst [d, d]) := by
  have h : anyL.all (fun d => decide (okRep d) && decide (okRep (.lst [d, d]))) = true := by decide +kernel
  intro d hd
  have := List.all_eq_true.mp h d hd
  rw [Bool.and_eq_true] at this
  exact ⟨of_decide_eq_true this.1, of_decide_eq_true this.2⟩
inductive Fs : Sl → Prop
  | no : Fs .no
  | sh (d : D) : Fs (.sh d)
  | ow (d : D) : Fs (.ow d)
theorem setS_fs {s : Sl} (h : Fs s) (d : D) (ε : Ev) : setS (s :: ε) 0 (.sh d) = some (.sh d :: ε) := by
  cases h <;> rfl
theorem setS_fsf {s : Sl} (h : Fs s) (d : D) (ε : Ev) : setS (s :: ε) 0 (.fr d) = some (.ow d :: ε) := by
  cases h <;> rfl
theorem turn_ok {S0 s2 s3 s4 s5 s6 s7 s8 s9 s10 : Sl} {n : Nat} {p : D} (hp : PenOk n p) (hn : n < 2 ^ 37) (h3 : Fs s3) (h4 : Fs s4) (h5 : Fs s5) (h6 : Fs s6) (h7 : Fs s7) (h8 : Fs s8) (h9 : Fs s9) :
    ∃ p' u3 u4 u5 u6 u7 u8 u9, B_law_6 [S0, .ow p, s2, s3, s4, s5, s6, s7, s8, s9, s10] = .ok .nx [S0, .ow p', s2, u3, u4, u5, u6, u7, u8, u9, s10] ∧ PenOk (n + 1) p' ∧ Fs u3 ∧ Fs u4 ∧ Fs u5 ∧ Fs u6 ∧ Fs u7 ∧ Fs u8 ∧ Fs u9 := by
  obtain ⟨d, p1, e1, hd, hp1⟩ := any_value_eq hp (by omega)
  obtain ⟨k1, k2⟩ := any_rep d hd
  have r1 := repD_ok k1
  have r2 := repD_ok k2
  have ea := addD_lst (rows1 d) (rows2 d) (by show 17 + 17 ≤ 16000000; omega)
  have so := some_eq d
  have ot := other_eq d
  have al := rows_all d
  generalize repL d = R at *
  generalize repL (.lst [d, d]) = R2 at *
  generalize rows1 d ++ rows2 d = L at *
  generalize rows1 d = L1 at *
  generalize rows2 d = L2 at *
  obtain ⟨ε', el, u6, u7, u8, u9, rfl, g6, g7, g8, g9⟩ := for_inv0 (g := tgT 4 (tgsC (tgN 6) (tgsC (tgN 7) (tgsC (tgN 8) (tgsC (tgN 9) tgsN))))) (b := B_law_3)
    (P := fun _ ε => ∃ s6 s7 s8 s9, ε = [S0, .ow p1, s2, .sh d, .sh (.str R), .sh (.lst L), s6, s7, s8, s9, s10] ∧ Fs s6 ∧ Fs s7 ∧ Fs s8 ∧ Fs s9)
    L [S0, .ow p1, s2, .sh d, .sh (.str R), .sh (.lst L), s6, s7, s8, s9, s10] ⟨s6, s7, s8, s9, rfl, h6, h7, h8, h9⟩ (fun j r ε hr ⟨t6, t7, t8, t9, e, f6, f7, f8, f9⟩ => by
      subst e
      obtain ⟨x, B, fs, hx, rfl⟩ := al r (List.mem_of_getElem? hr)
      refine ⟨_, _, ?_, row_ok (d := d) (fs := fs) hx r1 r2, _, _, _, _, rfl, .sh _, .sh _, .sh _, .sh _⟩
      unfold rowE
      generalize tl (wOf B : Str) = w
      generalize D.dcT (x, fs) = E
      simp -implicitDefEqProofs [tgN, setS_fs f6, setS_fs f7, setS_fs f8, setS_fs f9])
  refine ⟨p1, _, _, _, _, _, _, _, ?_, hp1, .sh d, .sh (.str R), .sh (.lst L), g6, g7, g8, g9⟩
  simp -implicitDefEqProofs [-B_law_3_ev, e1, so, ot, ea, r1, setS_fs h3, setS_fs h4, setS_fsf h5, el]
theorem min2 (a b : Nat) : minD [.int (a : Int), .int (b : Int)] = some (.sh (.int ((min a b : Nat) : Int))) := by
  show some (Fv.sh (D.int (if (b : Int) < (a : Int) then (b : Int) else (a : Int)))) = _
  by_cases h : b < a
  · rw [if_pos (by omega), Nat.min_eq_right (by omega)]
  · rw [if_neg (by omega), Nat.min_eq_left (by omega)]
theorem last_ok (S0 S1 S2 S3 S4 S5 S6 S7 S8 S9 : Sl) : B_law_1 [S0, S1, S2, S3, S4, S5, S6, S7, S8, S9, .no] = .ok (.rt (.sh (.bl true))) [S0, S1, S2, S3, S4, S5, S6, S7, S8, S9, .ow (.lst [.int 40, .int 4, .int 3, .int 8, .int 12, .int 20, .int 8, .int 4])] := by kernel_rfl
theorem law_holds (ns : List Int) (hn : ns.length ≤ 63) : ∃ outs, F_law [.flz (ns.map .int)] = .ok (.sh (.bl true)) outs := by
  obtain ⟨p0, e0, hp0⟩ := pen_ok ns hn
  obtain ⟨N, hN⟩ : ∃ N, N = min 5 ns.length := ⟨_, rfl⟩
  have mn : minD [.int 5, .int (ns.length : Int)] = some (.sh (.int (N : Int))) := by rw [hN]; exact min2 5 ns.length
  have ln : lenD [.flz (ns.map D.int)] = some (.sh (.int (ns.length : Int))) := by
    show some (Fv.sh (D.int ((ns.map D.int).length : Int))) = _
    rw [List.length_map]
  obtain ⟨K, hK, K2⟩ : ∃ K : Nat, (3 : Int) + (N : Int) = (K : Int) ∧ K ≤ 20 := ⟨3 + N, by omega, by omega⟩
  have kk : (K : Int) < 4611686018427387904 := by omega
  obtain ⟨ε', el, p, u2, u3, u4, u5, u6, u7, u8, u9, rfl, _⟩ := for_inv0 (g := tgN 2) (b := B_law_6)
    (P := fun j ε => ∃ p s2 s3 s4 s5 s6 s7 s8 s9, ε = [.sh (.flz (ns.map .int)), .ow p, s2, s3, s4, s5, s6, s7, s8, s9, .no] ∧ PenOk j p ∧ Fs s2 ∧ Fs s3 ∧ Fs s4 ∧ Fs s5 ∧ Fs s6 ∧ Fs s7 ∧ Fs s8 ∧ Fs s9)
    (rngD 0 K) [.sh (.flz (ns.map .int)), .ow p0, .no, .no, .no, .no, .no, .no, .no, .no, .no] ⟨p0, .no, .no, .no, .no, .no, .no, .no, .no, rfl, hp0, .no, .no, .no, .no, .no, .no, .no, .no⟩
    (fun j d ε hd ⟨p, s2, s3, s4, s5, s6, s7, s8, s9, e, hp, h2, h3, h4, h5, h6, h7, h8, h9⟩ => by
      subst e
      obtain ⟨hj, rfl⟩ := rngD_gt _ _ _ _ hd
      obtain ⟨p', u3, u4, u5, u6, u7, u8, u9, e, hp', g3, g4, g5, g6, g7, g8, g9⟩ := turn_ok (S0 := .sh (.flz (ns.map .int))) (s2 := .sh (.int (0 + (j : Int)))) (s10 := .no) hp (by omega) h3 h4 h5 h6 h7 h8 h9
      exact ⟨_, _, by simp -implicitDefEqProofs [tgN, setS_fs h2] <;> rfl, e, p', _, u3, u4, u5, u6, u7, u8, u9, rfl, hp', .sh _, g3, g4, g5, g6, g7, g8, g9⟩)
  have la := last_ok (.sh (.flz (ns.map .int))) (.ow p) u2 u3 u4 u5 u6 u7 u8 u9
  generalize ns.map D.int = A at *
  exact ⟨[], by simp -implicitDefEqProofs [-B_law_6_ev, -B_law_1_ev, F_law_ev, e0, ln, mn, hK, kk, el, la]⟩
end Den
namespace Law
open PySem PySem.Spec PyProof.Rows L2 AB PL Den LamX
open TL (tl)
def topS (i : Nat) : Stmt := PySem.Challenge.pw_anchoredits_k13_errors_and_limits.main.body.getD i (.Pass ⟨0, 0, 0, 0⟩)
abbrev s_L_pen : Stmt := topS 45
abbrev N_L_pen : List Str := ["_law_script"]
abbrev P_L_pen : List Str := ["_law_script"]
theorem sc_L_pen : FnScope N_L_pen P_L_pen (defScope s_L_pen) :=
  ⟨rfl, rfl, rfl, by decide +kernel, rfl, by decide +kernel, by decide +kernel⟩
abbrev s_L_draw : Stmt := topS 46
abbrev N_L_draw : List Str := ["_law_pen_here", "_law_many", "_law_digit", "_law_turn", "_law_cell", "_law_primes", "_law_prime", "_law_drawn"]
abbrev P_L_draw : List Str := ["_law_pen_here", "_law_many"]
theorem sc_L_draw : FnScope N_L_draw P_L_draw (defScope s_L_draw) :=
  ⟨rfl, rfl, rfl, by decide +kernel, rfl, by decide +kernel, by decide +kernel⟩
abbrev s_L_pick : Stmt := topS 47
abbrev N_L_pick : List Str := ["_law_pen_here", "_law_options"]
abbrev P_L_pick : List Str := ["_law_pen_here", "_law_options"]
theorem sc_L_pick : FnScope N_L_pick P_L_pick (defScope s_L_pick) :=
  ⟨rfl, rfl, rfl, by decide +kernel, rfl, by decide +kernel, by decide +kernel⟩
abbrev s_L_any_value : Stmt := topS 48
abbrev N_L_any_value : List Str := ["_law_pen_here", "_law_some"]
abbrev P_L_any_value : List Str := ["_law_pen_here"]
theorem sc_L_any_value : FnScope N_L_any_value P_L_any_value (defScope s_L_any_value) :=
  ⟨rfl, rfl, rfl, by decide +kernel, rfl, by decide +kernel, by decide +kernel⟩
abbrev s_L_some_errors : Stmt := topS 49
abbrev N_L_some_errors : List Str := ["_law_thing", "_law_found"]
abbrev P_L_some_errors : List Str := ["_law_thing"]
theorem sc_L_some_errors : FnScope N_L_some_errors P_L_some_errors (defScope s_L_some_errors) :=
  ⟨rfl, rfl, rfl, by decide +kernel, rfl, by decide +kernel, by decide +kernel⟩
abbrev s_L_other_errors : Stmt := topS 50
abbrev N_L_other_errors : List Str := ["_law_thing", "_law_found", "_law_error"]
abbrev P_L_other_errors : List Str := ["_law_thing"]
theorem sc_L_other_errors : FnScope N_L_other_errors P_L_other_errors (defScope s_L_other_errors) :=
  ⟨rfl, rfl, rfl, by decide +kernel, rfl, by decide +kernel, by decide +kernel⟩
abbrev s_L_sorts : Stmt := topS 52
abbrev N_L_sorts : List Str := ["_law_error", "_law_flags", "_law_flag", "_law_one"]
abbrev P_L_sorts : List Str := ["_law_error"]
theorem sc_L_sorts : FnScope N_L_sorts P_L_sorts (defScope s_L_sorts) :=
  ⟨rfl, rfl, rfl, by decide +kernel, rfl, by decide +kernel, by decide +kernel⟩
abbrev s_L_classes : Stmt := topS 51
abbrev N_L_classes : List Str := ["_law_error", "_law_found"]
abbrev P_L_classes : List Str := ["_law_error"]
theorem sc_L_classes : FnScope N_L_classes P_L_classes (defScope s_L_classes) :=
  ⟨rfl, rfl, rfl, by decide +kernel, rfl, by decide +kernel, by decide +kernel⟩
abbrev s_law : Stmt := topS 53
abbrev N_law : List Str := ["_law_script", "_law_pen_here", "_law_turn", "_law_thing", "_law_kept", "_law_every", "_law_error", "_law_titled", "_law_placed", "_law_sort", "_law_some"]
abbrev P_law : List Str := ["_law_script"]
theorem sc_law : FnScope N_law P_law (defScope s_law) :=
  ⟨rfl, rfl, rfl, by decide +kernel, rfl, by decide +kernel, by decide +kernel⟩
theorem ok_L_pen {G : Gx} {f : Addr} {fd : FuncData} (X_L_pen : FX G.K G.mg "_law_pen" s_L_pen P_L_pen f fd) (b_list : G.mg "list" = none) :
    FnP G 1 f fd P_L_pen [false] F_L_pen := by
  unfold F_L_pen
  exact fn_plain X_L_pen.F sc_L_pen rfl (by decide) (fun cdv A outer s H E cx =>
  (bOne (sR (eDisp (dens := [((dC (.str (tl ("cells" : Str)))), (dN listD (aCons (dSl (dV 0) none (some (dC (.int 63)))) aNil))), ((dC (.str (tl ("turn" : Str)))), (dC (.int 0))), ((dC (.str (tl ("left" : Str)))), (dC (.int 0)))]) cx (pps_cons eStr (eT cx (bList cx) (by rfl) b_list (by decide +kernel) (pCons (eSl cx (vV 0) oN0 (oS eInt)) pNil)) (pps_cons eStr eInt (pps_cons eStr eInt pps_nil))) (by rfl) (by rfl) (fun z => by cases z) (by decide)))))
theorem ok_L_draw {G : Gx} {f : Addr} {fd : FuncData} (X_L_draw : FX G.K G.mg "_law_draw" s_L_draw P_L_draw f fd) (b_abs : G.mg "abs" = none) (b_int : G.mg "int" = none) (b_len : G.mg "len" = none) :
    FnP G 1 f fd P_L_draw [true, false] F_L_draw := by
  unfold F_L_draw
  exact fn_plain X_L_draw.F sc_L_draw rfl (by decide) (fun cdv A outer s H E cx =>
  (bCons (sIf (tCmp cGt (eIx cx (vV 0) eStr (fun _ _ => rfl) (fun _ _ => rfl)) eInt (nomark _))
  (bCons (sSet (i := 2) sc_L_draw.nd rfl (.inl rfl) (eMod (eT cx bInt (by rfl) b_int (by decide +kernel) (pCons (eIx cx (vV 0) eStr (fun _ _ => rfl) (fun _ _ => rfl)) pNil)) (vV 1)))
  (bCons (sDput cx (vV 0) eStr (eFdiv (eIx cx (vV 0) eStr (fun _ _ => rfl) (fun _ _ => rfl)) (vV 1)) rfl)
  (bOne (sR (vV 2)))))
  bNil)
  (bCons (sSet (i := 3) sc_L_draw.nd rfl (.inl rfl) (eIx cx (vV 0) eStr (fun _ _ => rfl) (fun _ _ => rfl)))
  (bCons (sDput cx (vV 0) eStr (eAdd cx (vV 3) eInt) rfl)
  (bCons (sSet (i := 4) sc_L_draw.nd rfl (.inl rfl) (eAdd cx (eMul eInt (vV 3)) eInt))
  (bCons (sIf (tCmp (cNeE cx) (eIx cx (vV 0) eStr (fun _ _ => rfl) (fun _ _ => rfl)) (eLst pNil) (nomark _))
  (bOne (sSet (i := 4) sc_L_draw.nd rfl (.inl rfl) (eIx cx (eIx cx (vV 0) eStr (fun _ _ => rfl) (fun _ _ => rfl)) (eMod (eT cx bInt (by rfl) b_int (by decide +kernel) (pCons (vV 3) pNil)) (eB cx (bLen cx) (by rfl) b_len (by decide +kernel) (pCons (eIx cx (vV 0) eStr (fun _ _ => rfl) (fun _ _ => rfl)) pNil))) (fun _ _ => rfl) (fun _ _ => rfl))))
  bNil)
  (bCons (sIf (tW (wAn (tCmp cLt (vV 3) (eB cx (bLen cx) (by rfl) b_len (by decide +kernel) (pCons (eIx cx (vV 0) eStr (fun _ _ => rfl) (fun _ _ => rfl)) pNil)) (nomark _)) (wA1 (tCmp cGe (eB cx bAbs (by rfl) b_abs (by decide +kernel) (pCons (vV 4) pNil)) (ePow eInt eInt) (nomark _)))))
  (bCons (sDput cx (vV 0) eStr (eFdiv (eSub (eB cx bAbs (by rfl) b_abs (by decide +kernel) (pCons (vV 4) pNil)) (ePow eInt eInt)) (vV 1)) rfl)
  (bOne (sR (eMod (eSub (eB cx bAbs (by rfl) b_abs (by decide +kernel) (pCons (vV 4) pNil)) (ePow eInt eInt)) (vV 1)))))
  bNil)
  (bCons (sSet (i := 5) sc_L_draw.nd rfl (.inl rfl) (eLst (pCons eInt (pCons eInt (pCons eInt (pCons eInt (pCons eInt pNil)))))))
  (bCons (sSet (i := 6) sc_L_draw.nd rfl (.inl rfl) (eIx cx (vV 5) (eMod (eT cx bInt (by rfl) b_int (by decide +kernel) (pCons (vV 3) pNil)) eInt) (fun _ _ => rfl) (fun _ _ => rfl)))
  (bCons (sSet (i := 7) sc_L_draw.nd rfl (.inl rfl) (eMod (eT cx bInt (by rfl) b_int (by decide +kernel) (pCons (eAdd cx (eAdd cx (eMul (eMod (eT cx bInt (by rfl) b_int (by decide +kernel) (pCons (vV 4) pNil)) (vV 6)) eInt) (eMul (vV 3) (eAdd cx (eMul eInt (vV 3)) eInt))) eInt) pNil)) (vV 6)))
  (bCons (sSet (i := 7) sc_L_draw.nd rfl (.inl rfl) (eMod (eT cx bInt (by rfl) b_int (by decide +kernel) (pCons (eMul (vV 7) (eAdd cx (vV 7) eInt)) pNil)) (eIx cx (vV 5) (eMod (eT cx bInt (by rfl) b_int (by decide +kernel) (pCons (eAdd cx (vV 3) eInt) pNil)) eInt) (fun _ _ => rfl) (fun _ _ => rfl))))
  (bOne (sR (eMod (eT cx bInt (by rfl) b_int (by decide +kernel) (pCons (eFdiv (eMod (eT cx bInt (by rfl) b_int (by decide +kernel) (pCons (eAdd cx (eAdd cx (eMul (vV 7) (vV 7)) (eMul eInt (vV 7))) (vV 3)) pNil)) eInt) eInt) pNil)) (vV 1)))))))))))))))
theorem ok_L_pick {G : Gx} {f : Addr} {fd : FuncData} (X_L_pick : FX G.K G.mg "_law_pick" s_L_pick P_L_pick f fd)
    {f0 : Addr} {fd0 : FuncData} (X_L_draw : FX G.K G.mg "_law_draw" s_L_draw P_L_draw f0 fd0) (G_L_draw : FnP G 1 f0 fd0 P_L_draw [true, false] F_L_draw) (b_len : G.mg "len" = none) :
    FnP G 2 f fd P_L_pick [true, false] F_L_pick := by
  unfold F_L_pick
  exact fn_plain X_L_pick.F sc_L_pick rfl (by decide) (fun cdv A outer s H E cx =>
  (bOne (sR (eIx cx (vV 1) (eCall cx G_L_draw (by decide) (by rfl) X_L_draw.g X_L_draw.F.kp X_L_draw.b (pCons (vV 0) (pCons (eB cx (bLen cx) (by rfl) b_len (by decide +kernel) (pCons (vV 1) pNil)) pNil))) (fun _ _ => rfl) (fun _ _ => rfl)))))
theorem ok_L_any_value {G : Gx} {f : Addr} {fd : FuncData} (X_L_any_value : FX G.K G.mg "_law_any_value" s_L_any_value P_L_any_value f fd)
    {f0 : Addr} {fd0 : FuncData} (X_L_pick : FX G.K G.mg "_law_pick" s_L_pick P_L_pick f0 fd0) (G_L_pick : FnP G 2 f0 fd0 P_L_pick [true, false] F_L_pick) :
    FnP G 3 f fd P_L_any_value [true] F_L_any_value := by
  unfold F_L_any_value
  exact fn_plain X_L_any_value.F sc_L_any_value rfl (by decide) (fun cdv A outer s H E cx =>
  (bCons (sSet (i := 1) sc_L_any_value.nd rfl (.inl rfl) (eLst (pCons eNon (pCons eBl (pCons eBl (pCons eInt (pCons eInt (pCons (eNeg eInt) (pCons (ePow eInt eInt) (pCons eStr (pCons eStr (pCons eStr (pCons eStr (pCons eStr (pCons (eTup pNil) (pCons (eTup (pCons eStr pNil)) (pCons (eTup (pCons eStr (pCons eStr pNil))) (pCons (eLst (pCons eStr (pCons eStr pNil))) (pCons eDict0 pNil)))))))))))))))))))
  (bCons (sSet (i := 1) sc_L_any_value.nd rfl (.inl rfl) (eAdd cx (vV 1) (eLst (pCons (eLst (pCons eInt pNil)) (pCons (eTup (pCons eStr (pCons eInt pNil))) (pCons (eTup (pCons eStr (pCons eStr pNil))) (pCons (eTup (pCons eStr (pCons eStr pNil))) (pCons (eTup (pCons eStr (pCons eStr (pCons eStr pNil)))) (pCons (eDisp (dens := [((dC (.str (tl ("a" : Str)))), (dC (.str (tl ("b" : Str)))))]) cx (pps_cons eStr eStr pps_nil) (by rfl) (by rfl) (fun z => by cases z) (by decide)) (pCons eStr (pCons (eTup (pCons (eMul eStr eInt) (pCons eStr pNil))) pNil)))))))))))
  (bOne (sR (eCall cx G_L_pick (by decide) (by rfl) X_L_pick.g X_L_pick.F.kp X_L_pick.b (pCons (vV 0) (pCons (eAdd cx (vV 1) (eLst (pCons (eTup (pCons eStr (pCons (eMul eStr eInt) pNil))) (pCons (eMul eStr eInt) (pCons (eMul eStr eInt) (pCons (eTup (pCons eInt (pCons eInt pNil))) (pCons (eLst pNil) (pCons (eTup (pCons eStr (pCons eNon pNil))) pNil)))))))) pNil))))))))
theorem ok_L_some_errors {G : Gx} {f : Addr} {fd : FuncData} (X_L_some_errors : FX G.K G.mg "_law_some_errors" s_L_some_errors P_L_some_errors f fd) {C_InvalidChange : Addr} {C_InvalidCount : Addr} {C_InvalidEdit : Addr} {C_InvalidFiles : Addr} {C_InvalidHand : Addr} {C_InvalidName : Addr} {C_InvalidNew : Addr} {C_InvalidOld : Addr} {C_InvalidPart : Addr} {C_InvalidProgram : Addr} {C_InvalidRun : Addr} {C_InvalidSpot : Addr} {C_InvalidTable : Addr} {C_InvalidText : Addr} {C_NoBack : Addr} {C_NoExchange : Addr} {C_NoMirror : Addr} (XC_InvalidChange : XCl G "InvalidChange" ["index"] C_InvalidChange) (XC_InvalidCount : XCl G "InvalidCount" ["value"] C_InvalidCount) (XC_InvalidEdit : XCl G "InvalidEdit" ["index"] C_InvalidEdit) (XC_InvalidFiles : XCl G "InvalidFiles" ["value"] C_InvalidFiles) (XC_InvalidHand : XCl G "InvalidHand" ["value"] C_InvalidHand) (XC_InvalidName : XCl G "InvalidName" ["value"] C_InvalidName) (XC_InvalidNew : XCl G "InvalidNew" ["value"] C_InvalidNew) (XC_InvalidOld : XCl G "InvalidOld" ["value"] C_InvalidOld) (XC_InvalidPart : XCl G "InvalidPart" ["index"] C_InvalidPart) (XC_InvalidProgram : XCl G "InvalidProgram" ["index"] C_InvalidProgram) (XC_InvalidRun : XCl G "InvalidRun" ["index"] C_InvalidRun) (XC_InvalidSpot : XCl G "InvalidSpot" ["value"] C_InvalidSpot) (XC_InvalidTable : XCl G "InvalidTable" ["value"] C_InvalidTable) (XC_InvalidText : XCl G "InvalidText" ["value"] C_InvalidText) (XC_NoBack : XCl G "NoBack" ["index"] C_NoBack) (XC_NoExchange : XCl G "NoExchange" ["index"] C_NoExchange) (XC_NoMirror : XCl G "NoMirror" ["index"] C_NoMirror) (mc_InvalidChange : G.mg "InvalidChange" = some (.ref C_InvalidChange)) (xh_InvalidChange : XHd G.K C_InvalidChange) (mc_InvalidCount : G.mg "InvalidCount" = some (.ref C_InvalidCount)) (xh_InvalidCount : XHd G.K C_InvalidCount) (mc_InvalidEdit : G.mg "InvalidEdit" = some (.ref C_InvalidEdit)) (xh_InvalidEdit : XHd G.K C_InvalidEdit) (mc_InvalidFiles : G.mg "InvalidFiles" = some (.ref C_InvalidFiles)) (xh_InvalidFiles : XHd G.K C_InvalidFiles) (mc_InvalidHand : G.mg "InvalidHand" = some (.ref C_InvalidHand)) (xh_InvalidHand : XHd G.K C_InvalidHand) (mc_InvalidName : G.mg "InvalidName" = some (.ref C_InvalidName)) (xh_InvalidName : XHd G.K C_InvalidName) (mc_InvalidNew : G.mg "InvalidNew" = some (.ref C_InvalidNew)) (xh_InvalidNew : XHd G.K C_InvalidNew) (mc_InvalidOld : G.mg "InvalidOld" = some (.ref C_InvalidOld)) (xh_InvalidOld : XHd G.K C_InvalidOld) (mc_InvalidPart : G.mg "InvalidPart" = some (.ref C_InvalidPart)) (xh_InvalidPart : XHd G.K C_InvalidPart) (mc_InvalidProgram : G.mg "InvalidProgram" = some (.ref C_InvalidProgram)) (xh_InvalidProgram : XHd G.K C_InvalidProgram) (mc_InvalidRun : G.mg "InvalidRun" = some (.ref C_InvalidRun)) (xh_InvalidRun : XHd G.K C_InvalidRun) (mc_InvalidSpot : G.mg "InvalidSpot" = some (.ref C_InvalidSpot)) (xh_InvalidSpot : XHd G.K C_InvalidSpot) (mc_InvalidTable : G.mg "InvalidTable" = some (.ref C_InvalidTable)) (xh_InvalidTable : XHd G.K C_InvalidTable) (mc_InvalidText : G.mg "InvalidText" = some (.ref C_InvalidText)) (xh_InvalidText : XHd G.K C_InvalidText) (mc_NoBack : G.mg "NoBack" = some (.ref C_NoBack)) (xh_NoBack : XHd G.K C_NoBack) (mc_NoExchange : G.mg "NoExchange" = some (.ref C_NoExchange)) (xh_NoExchange : XHd G.K C_NoExchange) (mc_NoMirror : G.mg "NoMirror" = some (.ref C_NoMirror)) (xh_NoMirror : XHd G.K C_NoMirror) (nf_InvalidChange_index : PySem.W.findIn G.K (.ref C_InvalidChange) "index" = some none) (nf_InvalidCount_value : PySem.W.findIn G.K (.ref C_InvalidCount) "value" = some none) (nf_InvalidEdit_index : PySem.W.findIn G.K (.ref C_InvalidEdit) "index" = some none) (nf_InvalidFiles_value : PySem.W.findIn G.K (.ref C_InvalidFiles) "value" = some none) (nf_InvalidHand_value : PySem.W.findIn G.K (.ref C_InvalidHand) "value" = some none) (nf_InvalidName_value : PySem.W.findIn G.K (.ref C_InvalidName) "value" = some none) (nf_InvalidNew_value : PySem.W.findIn G.K (.ref C_InvalidNew) "value" = some none) (nf_InvalidOld_value : PySem.W.findIn G.K (.ref C_InvalidOld) "value" = some none) (nf_InvalidPart_index : PySem.W.findIn G.K (.ref C_InvalidPart) "index" = some none) (nf_InvalidProgram_index : PySem.W.findIn G.K (.ref C_InvalidProgram) "index" = some none) (nf_InvalidRun_index : PySem.W.findIn G.K (.ref C_InvalidRun) "index" = some none) (nf_InvalidSpot_value : PySem.W.findIn G.K (.ref C_InvalidSpot) "value" = some none) (nf_InvalidTable_value : PySem.W.findIn G.K (.ref C_InvalidTable) "value" = some none) (nf_InvalidText_value : PySem.W.findIn G.K (.ref C_InvalidText) "value" = some none) (nf_NoBack_index : PySem.W.findIn G.K (.ref C_NoBack) "index" = some none) (nf_NoExchange_index : PySem.W.findIn G.K (.ref C_NoExchange) "index" = some none) (nf_NoMirror_index : PySem.W.findIn G.K (.ref C_NoMirror) "index" = some none) :
    FnP G 2 f fd P_L_some_errors [false] F_L_some_errors := by
  unfold F_L_some_errors
  exact fn_plain X_L_some_errors.F sc_L_some_errors rfl (by decide) (fun cdv A outer s H E cx =>
  (bCons (sSet (i := 1) sc_L_some_errors.nd rfl (.inl rfl) (eLst pNil))
  (bCons (sX (eML cx mt_append mAppend PySem.F.slot_list_append PySem.F.type_list_append (vV 1) (pCons (eTup (pCons (eErr cx (by decide) XC_InvalidOld (by rfl) (by decide) (pCons (vV 0) pNil)) (pCons (eErrFld cx mc_InvalidOld xh_InvalidOld nf_InvalidOld_value (eErrK cx (by decide) XC_InvalidOld (by rfl) (by decide) (kCons (vV 0) kNil) rfl)) (pCons (eErrFld cx mc_InvalidOld xh_InvalidOld nf_InvalidOld_value (eErr cx (by decide) XC_InvalidOld (by rfl) (by decide) (pCons (vV 0) pNil))) (pCons eStr pNil))))) pNil)))
  (bCons (sX (eML cx mt_append mAppend PySem.F.slot_list_append PySem.F.type_list_append (vV 1) (pCons (eTup (pCons (eErr cx (by decide) XC_InvalidNew (by rfl) (by decide) (pCons (vV 0) pNil)) (pCons (eErrFld cx mc_InvalidNew xh_InvalidNew nf_InvalidNew_value (eErrK cx (by decide) XC_InvalidNew (by rfl) (by decide) (kCons (vV 0) kNil) rfl)) (pCons (eErrFld cx mc_InvalidNew xh_InvalidNew nf_InvalidNew_value (eErr cx (by decide) XC_InvalidNew (by rfl) (by decide) (pCons (vV 0) pNil))) (pCons eStr pNil))))) pNil)))
  (bCons (sX (eML cx mt_append mAppend PySem.F.slot_list_append PySem.F.type_list_append (vV 1) (pCons (eTup (pCons (eErr cx (by decide) XC_InvalidText (by rfl) (by decide) (pCons (vV 0) pNil)) (pCons (eErrFld cx mc_InvalidText xh_InvalidText nf_InvalidText_value (eErrK cx (by decide) XC_InvalidText (by rfl) (by decide) (kCons (vV 0) kNil) rfl)) (pCons (eErrFld cx mc_InvalidText xh_InvalidText nf_InvalidText_value (eErr cx (by decide) XC_InvalidText (by rfl) (by decide) (pCons (vV 0) pNil))) (pCons eStr pNil))))) pNil)))
  (bCons (sX (eML cx mt_append mAppend PySem.F.slot_list_append PySem.F.type_list_append (vV 1) (pCons (eTup (pCons (eErr cx (by decide) XC_InvalidTable (by rfl) (by decide) (pCons (vV 0) pNil)) (pCons (eErrFld cx mc_InvalidTable xh_InvalidTable nf_InvalidTable_value (eErrK cx (by decide) XC_InvalidTable (by rfl) (by decide) (kCons (vV 0) kNil) rfl)) (pCons (eErrFld cx mc_InvalidTable xh_InvalidTable nf_InvalidTable_value (eErr cx (by decide) XC_InvalidTable (by rfl) (by decide) (pCons (vV 0) pNil))) (pCons eStr pNil))))) pNil)))
  (bCons (sX (eML cx mt_append mAppend PySem.F.slot_list_append PySem.F.type_list_append (vV 1) (pCons (eTup (pCons (eErr cx (by decide) XC_InvalidCount (by rfl) (by decide) (pCons (vV 0) pNil)) (pCons (eErrFld cx mc_InvalidCount xh_InvalidCount nf_InvalidCount_value (eErrK cx (by decide) XC_InvalidCount (by rfl) (by decide) (kCons (vV 0) kNil) rfl)) (pCons (eErrFld cx mc_InvalidCount xh_InvalidCount nf_InvalidCount_value (eErr cx (by decide) XC_InvalidCount (by rfl) (by decide) (pCons (vV 0) pNil))) (pCons eStr pNil))))) pNil)))
  (bCons (sX (eML cx mt_append mAppend PySem.F.slot_list_append PySem.F.type_list_append (vV 1) (pCons (eTup (pCons (eErr cx (by decide) XC_InvalidSpot (by rfl) (by decide) (pCons (vV 0) pNil)) (pCons (eErrFld cx mc_InvalidSpot xh_InvalidSpot nf_InvalidSpot_value (eErrK cx (by decide) XC_InvalidSpot (by rfl) (by decide) (kCons (vV 0) kNil) rfl)) (pCons (eErrFld cx mc_InvalidSpot xh_InvalidSpot nf_InvalidSpot_value (eErr cx (by decide) XC_InvalidSpot (by rfl) (by decide) (pCons (vV 0) pNil))) (pCons eStr pNil))))) pNil)))
  (bCons (sX (eML cx mt_append mAppend PySem.F.slot_list_append PySem.F.type_list_append (vV 1) (pCons (eTup (pCons (eErr cx (by decide) XC_InvalidHand (by rfl) (by decide) (pCons (vV 0) pNil)) (pCons (eErrFld cx mc_InvalidHand xh_InvalidHand nf_InvalidHand_value (eErrK cx (by decide) XC_InvalidHand (by rfl) (by decide) (kCons (vV 0) kNil) rfl)) (pCons (eErrFld cx mc_InvalidHand xh_InvalidHand nf_InvalidHand_value (eErr cx (by decide) XC_InvalidHand (by rfl) (by decide) (pCons (vV 0) pNil))) (pCons eStr pNil))))) pNil)))
  (bCons (sX (eML cx mt_append mAppend PySem.F.slot_list_append PySem.F.type_list_append (vV 1) (pCons (eTup (pCons (eErr cx (by decide) XC_InvalidFiles (by rfl) (by decide) (pCons (vV 0) pNil)) (pCons (eErrFld cx mc_InvalidFiles xh_InvalidFiles nf_InvalidFiles_value (eErrK cx (by decide) XC_InvalidFiles (by rfl) (by decide) (kCons (vV 0) kNil) rfl)) (pCons (eErrFld cx mc_InvalidFiles xh_InvalidFiles nf_InvalidFiles_value (eErr cx (by decide) XC_InvalidFiles (by rfl) (by decide) (pCons (vV 0) pNil))) (pCons eStr pNil))))) pNil)))
  (bCons (sX (eML cx mt_append mAppend PySem.F.slot_list_append PySem.F.type_list_append (vV 1) (pCons (eTup (pCons (eErr cx (by decide) XC_InvalidName (by rfl) (by decide) (pCons (vV 0) pNil)) (pCons (eErrFld cx mc_InvalidName xh_InvalidName nf_InvalidName_value (eErrK cx (by decide) XC_InvalidName (by rfl) (by decide) (kCons (vV 0) kNil) rfl)) (pCons (eErrFld cx mc_InvalidName xh_InvalidName nf_InvalidName_value (eErr cx (by decide) XC_InvalidName (by rfl) (by decide) (pCons (vV 0) pNil))) (pCons eStr pNil))))) pNil)))
  (bCons (sX (eML cx mt_append mAppend PySem.F.slot_list_append PySem.F.type_list_append (vV 1) (pCons (eTup (pCons (eErr cx (by decide) XC_InvalidPart (by rfl) (by decide) (pCons (vV 0) pNil)) (pCons (eErrFld cx mc_InvalidPart xh_InvalidPart nf_InvalidPart_index (eErrK cx (by decide) XC_InvalidPart (by rfl) (by decide) (kCons (vV 0) kNil) rfl)) (pCons (eErrFld cx mc_InvalidPart xh_InvalidPart nf_InvalidPart_index (eErr cx (by decide) XC_InvalidPart (by rfl) (by decide) (pCons (vV 0) pNil))) (pCons eStr pNil))))) pNil)))
  (bCons (sX (eML cx mt_append mAppend PySem.F.slot_list_append PySem.F.type_list_append (vV 1) (pCons (eTup (pCons (eErr cx (by decide) XC_InvalidEdit (by rfl) (by decide) (pCons (vV 0) pNil)) (pCons (eErrFld cx mc_InvalidEdit xh_InvalidEdit nf_InvalidEdit_index (eErrK cx (by decide) XC_InvalidEdit (by rfl) (by decide) (kCons (vV 0) kNil) rfl)) (pCons (eErrFld cx mc_InvalidEdit xh_InvalidEdit nf_InvalidEdit_index (eErr cx (by decide) XC_InvalidEdit (by rfl) (by decide) (pCons (vV 0) pNil))) (pCons eStr pNil))))) pNil)))
  (bCons (sX (eML cx mt_append mAppend PySem.F.slot_list_append PySem.F.type_list_append (vV 1) (pCons (eTup (pCons (eErr cx (by decide) XC_InvalidChange (by rfl) (by decide) (pCons (vV 0) pNil)) (pCons (eErrFld cx mc_InvalidChange xh_InvalidChange nf_InvalidChange_index (eErrK cx (by decide) XC_InvalidChange (by rfl) (by decide) (kCons (vV 0) kNil) rfl)) (pCons (eErrFld cx mc_InvalidChange xh_InvalidChange nf_InvalidChange_index (eErr cx (by decide) XC_InvalidChange (by rfl) (by decide) (pCons (vV 0) pNil))) (pCons eStr pNil))))) pNil)))
  (bCons (sX (eML cx mt_append mAppend PySem.F.slot_list_append PySem.F.type_list_append (vV 1) (pCons (eTup (pCons (eErr cx (by decide) XC_InvalidProgram (by rfl) (by decide) (pCons (vV 0) pNil)) (pCons (eErrFld cx mc_InvalidProgram xh_InvalidProgram nf_InvalidProgram_index (eErrK cx (by decide) XC_InvalidProgram (by rfl) (by decide) (kCons (vV 0) kNil) rfl)) (pCons (eErrFld cx mc_InvalidProgram xh_InvalidProgram nf_InvalidProgram_index (eErr cx (by decide) XC_InvalidProgram (by rfl) (by decide) (pCons (vV 0) pNil))) (pCons eStr pNil))))) pNil)))
  (bCons (sX (eML cx mt_append mAppend PySem.F.slot_list_append PySem.F.type_list_append (vV 1) (pCons (eTup (pCons (eErr cx (by decide) XC_InvalidRun (by rfl) (by decide) (pCons (vV 0) pNil)) (pCons (eErrFld cx mc_InvalidRun xh_InvalidRun nf_InvalidRun_index (eErrK cx (by decide) XC_InvalidRun (by rfl) (by decide) (kCons (vV 0) kNil) rfl)) (pCons (eErrFld cx mc_InvalidRun xh_InvalidRun nf_InvalidRun_index (eErr cx (by decide) XC_InvalidRun (by rfl) (by decide) (pCons (vV 0) pNil))) (pCons eStr pNil))))) pNil)))
  (bCons (sX (eML cx mt_append mAppend PySem.F.slot_list_append PySem.F.type_list_append (vV 1) (pCons (eTup (pCons (eErr cx (by decide) XC_NoExchange (by rfl) (by decide) (pCons (vV 0) pNil)) (pCons (eErrFld cx mc_NoExchange xh_NoExchange nf_NoExchange_index (eErrK cx (by decide) XC_NoExchange (by rfl) (by decide) (kCons (vV 0) kNil) rfl)) (pCons (eErrFld cx mc_NoExchange xh_NoExchange nf_NoExchange_index (eErr cx (by decide) XC_NoExchange (by rfl) (by decide) (pCons (vV 0) pNil))) (pCons eStr pNil))))) pNil)))
  (bCons (sX (eML cx mt_append mAppend PySem.F.slot_list_append PySem.F.type_list_append (vV 1) (pCons (eTup (pCons (eErr cx (by decide) XC_NoMirror (by rfl) (by decide) (pCons (vV 0) pNil)) (pCons (eErrFld cx mc_NoMirror xh_NoMirror nf_NoMirror_index (eErrK cx (by decide) XC_NoMirror (by rfl) (by decide) (kCons (vV 0) kNil) rfl)) (pCons (eErrFld cx mc_NoMirror xh_NoMirror nf_NoMirror_index (eErr cx (by decide) XC_NoMirror (by rfl) (by decide) (pCons (vV 0) pNil))) (pCons eStr pNil))))) pNil)))
  (bCons (sX (eML cx mt_append mAppend PySem.F.slot_list_append PySem.F.type_list_append (vV 1) (pCons (eTup (pCons (eErr cx (by decide) XC_NoBack (by rfl) (by decide) (pCons (vV 0) pNil)) (pCons (eErrFld cx mc_NoBack xh_NoBack nf_NoBack_index (eErrK cx (by decide) XC_NoBack (by rfl) (by decide) (kCons (vV 0) kNil) rfl)) (pCons (eErrFld cx mc_NoBack xh_NoBack nf_NoBack_index (eErr cx (by decide) XC_NoBack (by rfl) (by decide) (pCons (vV 0) pNil))) (pCons eStr pNil))))) pNil)))
  (bOne (sR (vV 1))))))))))))))))))))))
theorem ok_L_other_errors {G : Gx} {f : Addr} {fd : FuncData} (X_L_other_errors : FX G.K G.mg "_law_other_errors" s_L_other_errors P_L_other_errors f fd) {C_Apart : Addr} {C_Broken : Addr} {C_Clash : Addr} {C_FileNotRight : Addr} {C_InvalidRow : Addr} {C_NoFile : Addr} {C_NoLabel : Addr} {C_NoPlace : Addr} {C_NotRight : Addr} {C_OutOfRange : Addr} {C_Overlap : Addr} {C_TooLong : Addr} {C_TooMany : Addr} {C_Unbounded : Addr} {C_Unreadable : Addr} {C_Unsafe : Addr} (XC_Apart : XCl G "Apart" ["name"] C_Apart) (XC_Broken : XCl G "Broken" ["name"] C_Broken) (XC_Clash : XCl G "Clash" ["hand", "other"] C_Clash) (XC_FileNotRight : XCl G "FileNotRight" ["name", "index"] C_FileNotRight) (XC_InvalidRow : XCl G "InvalidRow" ["row"] C_InvalidRow) (XC_NoFile : XCl G "NoFile" ["name"] C_NoFile) (XC_NoLabel : XCl G "NoLabel" ["label"] C_NoLabel) (XC_NoPlace : XCl G "NoPlace" ["index", "number"] C_NoPlace) (XC_NotRight : XCl G "NotRight" ["hand"] C_NotRight) (XC_OutOfRange : XCl G "OutOfRange" ["value"] C_OutOfRange) (XC_Overlap : XCl G "Overlap" ["index"] C_Overlap) (XC_TooLong : XCl G "TooLong" ["limit"] C_TooLong) (XC_TooMany : XCl G "TooMany" ["limit"] C_TooMany) (XC_Unbounded : XCl G "Unbounded" ["index"] C_Unbounded) (XC_Unreadable : XCl G "Unreadable" ["index"] C_Unreadable) (XC_Unsafe : XCl G "Unsafe" ["name", "case"] C_Unsafe) (mc_Apart : G.mg "Apart" = some (.ref C_Apart)) (xh_Apart : XHd G.K C_Apart) (mc_Broken : G.mg "Broken" = some (.ref C_Broken)) (xh_Broken : XHd G.K C_Broken) (mc_Clash : G.mg "Clash" = some (.ref C_Clash)) (xh_Clash : XHd G.K C_Clash) (mc_FileNotRight : G.mg "FileNotRight" = some (.ref C_FileNotRight)) (xh_FileNotRight : XHd G.K C_FileNotRight) (mc_InvalidRow : G.mg "InvalidRow" = some (.ref C_InvalidRow)) (xh_InvalidRow : XHd G.K C_InvalidRow) (mc_NoFile : G.mg "NoFile" = some (.ref C_NoFile)) (xh_NoFile : XHd G.K C_NoFile) (mc_NoLabel : G.mg "NoLabel" = some (.ref C_NoLabel)) (xh_NoLabel : XHd G.K C_NoLabel) (mc_NoPlace : G.mg "NoPlace" = some (.ref C_NoPlace)) (xh_NoPlace : XHd G.K C_NoPlace) (mc_NotRight : G.mg "NotRight" = some (.ref C_NotRight)) (xh_NotRight : XHd G.K C_NotRight) (mc_OutOfRange : G.mg "OutOfRange" = some (.ref C_OutOfRange)) (xh_OutOfRange : XHd G.K C_OutOfRange) (mc_Overlap : G.mg "Overlap" = some (.ref C_Overlap)) (xh_Overlap : XHd G.K C_Overlap) (mc_TooLong : G.mg "TooLong" = some (.ref C_TooLong)) (xh_TooLong : XHd G.K C_TooLong) (mc_TooMany : G.mg "TooMany" = some (.ref C_TooMany)) (xh_TooMany : XHd G.K C_TooMany) (mc_Unbounded : G.mg "Unbounded" = some (.ref C_Unbounded)) (xh_Unbounded : XHd G.K C_Unbounded) (mc_Unreadable : G.mg "Unreadable" = some (.ref C_Unreadable)) (xh_Unreadable : XHd G.K C_Unreadable) (mc_Unsafe : G.mg "Unsafe" = some (.ref C_Unsafe)) (xh_Unsafe : XHd G.K C_Unsafe) (nf_Apart_name : PySem.W.findIn G.K (.ref C_Apart) "name" = some none) (nf_Broken_name : PySem.W.findIn G.K (.ref C_Broken) "name" = some none) (nf_Clash_hand : PySem.W.findIn G.K (.ref C_Clash) "hand" = some none) (nf_Clash_other : PySem.W.findIn G.K (.ref C_Clash) "other" = some none) (nf_FileNotRight_index : PySem.W.findIn G.K (.ref C_FileNotRight) "index" = some none) (nf_FileNotRight_name : PySem.W.findIn G.K (.ref C_FileNotRight) "name" = some none) (nf_InvalidRow_row : PySem.W.findIn G.K (.ref C_InvalidRow) "row" = some none) (nf_NoFile_name : PySem.W.findIn G.K (.ref C_NoFile) "name" = some none) (nf_NoLabel_label : PySem.W.findIn G.K (.ref C_NoLabel) "label" = some none) (nf_NoPlace_index : PySem.W.findIn G.K (.ref C_NoPlace) "index" = some none) (nf_NoPlace_number : PySem.W.findIn G.K (.ref C_NoPlace) "number" = some none) (nf_NotRight_hand : PySem.W.findIn G.K (.ref C_NotRight) "hand" = some none) (nf_OutOfRange_value : PySem.W.findIn G.K (.ref C_OutOfRange) "value" = some none) (nf_Overlap_index : PySem.W.findIn G.K (.ref C_Overlap) "index" = some none) (nf_TooLong_limit : PySem.W.findIn G.K (.ref C_TooLong) "limit" = some none) (nf_TooMany_limit : PySem.W.findIn G.K (.ref C_TooMany) "limit" = some none) (nf_Unbounded_index : PySem.W.findIn G.K (.ref C_Unbounded) "index" = some none) (nf_Unreadable_index : PySem.W.findIn G.K (.ref C_Unreadable) "index" = some none) (nf_Unsafe_case : PySem.W.findIn G.K (.ref C_Unsafe) "case" = some none) (nf_Unsafe_name : PySem.W.findIn G.K (.ref C_Unsafe) "name" = some none) {C_Unlike : Addr} (XO_Unlike : XCo G "Unlike" C_Unlike) :
    FnP G 2 f fd P_L_other_errors [false] F_L_other_errors := by
  unfold F_L_other_errors
  exact fn_plain X_L_other_errors.F sc_L_other_errors rfl (by decide) (fun cdv A outer s H E cx =>
  (bCons (sSet (i := 1) sc_L_other_errors.nd rfl (.inl rfl) (eLst pNil))
  (bCons (sX (eML cx mt_append mAppend PySem.F.slot_list_append PySem.F.type_list_append (vV 1) (pCons (eTup (pCons (eErr cx (by decide) XC_Unbounded (by rfl) (by decide) (pCons (vV 0) pNil)) (pCons (eErrFld cx mc_Unbounded xh_Unbounded nf_Unbounded_index (eErrK cx (by decide) XC_Unbounded (by rfl) (by decide) (kCons (vV 0) kNil) rfl)) (pCons (eErrFld cx mc_Unbounded xh_Unbounded nf_Unbounded_index (eErr cx (by decide) XC_Unbounded (by rfl) (by decide) (pCons (vV 0) pNil))) (pCons eStr pNil))))) pNil)))
  (bCons (sX (eML cx mt_append mAppend PySem.F.slot_list_append PySem.F.type_list_append (vV 1) (pCons (eTup (pCons (eErr cx (by decide) XC_Unreadable (by rfl) (by decide) (pCons (vV 0) pNil)) (pCons (eErrFld cx mc_Unreadable xh_Unreadable nf_Unreadable_index (eErrK cx (by decide) XC_Unreadable (by rfl) (by decide) (kCons (vV 0) kNil) rfl)) (pCons (eErrFld cx mc_Unreadable xh_Unreadable nf_Unreadable_index (eErr cx (by decide) XC_Unreadable (by rfl) (by decide) (pCons (vV 0) pNil))) (pCons eStr pNil))))) pNil)))
  (bCons (sX (eML cx mt_append mAppend PySem.F.slot_list_append PySem.F.type_list_append (vV 1) (pCons (eTup (pCons (eErr cx (by decide) XC_InvalidRow (by rfl) (by decide) (pCons (vV 0) pNil)) (pCons (eErrFld cx mc_InvalidRow xh_InvalidRow nf_InvalidRow_row (eErrK cx (by decide) XC_InvalidRow (by rfl) (by decide) (kCons (vV 0) kNil) rfl)) (pCons (eErrFld cx mc_InvalidRow xh_InvalidRow nf_InvalidRow_row (eErr cx (by decide) XC_InvalidRow (by rfl) (by decide) (pCons (vV 0) pNil))) (pCons eStr pNil))))) pNil)))
  (bCons (sX (eML cx mt_append mAppend PySem.F.slot_list_append PySem.F.type_list_append (vV 1) (pCons (eTup (pCons (eErr cx (by decide) XC_NoPlace (by rfl) (by decide) (pCons eInt (pCons (vV 0) pNil))) (pCons (eErrFld cx mc_NoPlace xh_NoPlace nf_NoPlace_number (eErrK cx (by decide) XC_NoPlace (by rfl) (by decide) (kCons (vV 0) (kCons eInt kNil)) rfl)) (pCons (eErrFld cx mc_NoPlace xh_NoPlace nf_NoPlace_index (eErr cx (by decide) XC_NoPlace (by rfl) (by decide) (pCons (vV 0) (pCons eInt pNil)))) (pCons eStr pNil))))) pNil)))
  (bCons (sX (eML cx mt_append mAppend PySem.F.slot_list_append PySem.F.type_list_append (vV 1) (pCons (eTup (pCons (eErr cx (by decide) XC_Overlap (by rfl) (by decide) (pCons (vV 0) pNil)) (pCons (eErrFld cx mc_Overlap xh_Overlap nf_Overlap_index (eErrK cx (by decide) XC_Overlap (by rfl) (by decide) (kCons (vV 0) kNil) rfl)) (pCons (eErrFld cx mc_Overlap xh_Overlap nf_Overlap_index (eErr cx (by decide) XC_Overlap (by rfl) (by decide) (pCons (vV 0) pNil))) (pCons eStr pNil))))) pNil)))
  (bCons (sX (eML cx mt_append mAppend PySem.F.slot_list_append PySem.F.type_list_append (vV 1) (pCons (eTup (pCons (eErr cx (by decide) XC_OutOfRange (by rfl) (by decide) (pCons (vV 0) pNil)) (pCons (eErrFld cx mc_OutOfRange xh_OutOfRange nf_OutOfRange_value (eErrK cx (by decide) XC_OutOfRange (by rfl) (by decide) (kCons (vV 0) kNil) rfl)) (pCons (eErrFld cx mc_OutOfRange xh_OutOfRange nf_OutOfRange_value (eErr cx (by decide) XC_OutOfRange (by rfl) (by decide) (pCons (vV 0) pNil))) (pCons eStr pNil))))) pNil)))
  (bCons (sX (eML cx mt_append mAppend PySem.F.slot_list_append PySem.F.type_list_append (vV 1) (pCons (eTup (pCons (eErr cx (by decide) XC_NoFile (by rfl) (by decide) (pCons (vV 0) pNil)) (pCons (eErrFld cx mc_NoFile xh_NoFile nf_NoFile_name (eErrK cx (by decide) XC_NoFile (by rfl) (by decide) (kCons (vV 0) kNil) rfl)) (pCons (eErrFld cx mc_NoFile xh_NoFile nf_NoFile_name (eErr cx (by decide) XC_NoFile (by rfl) (by decide) (pCons (vV 0) pNil))) (pCons eStr pNil))))) pNil)))
  (bCons (sX (eML cx mt_append mAppend PySem.F.slot_list_append PySem.F.type_list_append (vV 1) (pCons (eTup (pCons (eErr cx (by decide) XC_NoLabel (by rfl) (by decide) (pCons (vV 0) pNil)) (pCons (eErrFld cx mc_NoLabel xh_NoLabel nf_NoLabel_label (eErrK cx (by decide) XC_NoLabel (by rfl) (by decide) (kCons (vV 0) kNil) rfl)) (pCons (eErrFld cx mc_NoLabel xh_NoLabel nf_NoLabel_label (eErr cx (by decide) XC_NoLabel (by rfl) (by decide) (pCons (vV 0) pNil))) (pCons eStr pNil))))) pNil)))
  (bCons (sX (eML cx mt_append mAppend PySem.F.slot_list_append PySem.F.type_list_append (vV 1) (pCons (eTup (pCons (eErr cx (by decide) XC_TooMany (by rfl) (by decide) (pCons (vV 0) pNil)) (pCons (eErrFld cx mc_TooMany xh_TooMany nf_TooMany_limit (eErrK cx (by decide) XC_TooMany (by rfl) (by decide) (kCons (vV 0) kNil) rfl)) (pCons (eErrFld cx mc_TooMany xh_TooMany nf_TooMany_limit (eErr cx (by decide) XC_TooMany (by rfl) (by decide) (pCons (vV 0) pNil))) (pCons eStr pNil))))) pNil)))
  (bCons (sX (eML cx mt_append mAppend PySem.F.slot_list_append PySem.F.type_list_append (vV 1) (pCons (eTup (pCons (eErr cx (by decide) XC_TooLong (by rfl) (by decide) (pCons (vV 0) pNil)) (pCons (eErrFld cx mc_TooLong xh_TooLong nf_TooLong_limit (eErrK cx (by decide) XC_TooLong (by rfl) (by decide) (kCons (vV 0) kNil) rfl)) (pCons (eErrFld cx mc_TooLong xh_TooLong nf_TooLong_limit (eErr cx (by decide) XC_TooLong (by rfl) (by decide) (pCons (vV 0) pNil))) (pCons eStr pNil))))) pNil)))
  (bCons (sX (eML cx mt_append mAppend PySem.F.slot_list_append PySem.F.type_list_append (vV 1) (pCons (eTup (pCons (eErr cx (by decide) XC_NotRight (by rfl) (by decide) (pCons (vV 0) pNil)) (pCons (eErrFld cx mc_NotRight xh_NotRight nf_NotRight_hand (eErrK cx (by decide) XC_NotRight (by rfl) (by decide) (kCons (vV 0) kNil) rfl)) (pCons (eErrFld cx mc_NotRight xh_NotRight nf_NotRight_hand (eErr cx (by decide) XC_NotRight (by rfl) (by decide) (pCons (vV 0) pNil))) (pCons eStr pNil))))) pNil)))
  (bCons (sX (eML cx mt_append mAppend PySem.F.slot_list_append PySem.F.type_list_append (vV 1) (pCons (eTup (pCons (eErr cx (by decide) XC_Clash (by rfl) (by decide) (pCons eInt (pCons (vV 0) pNil))) (pCons (eErrFld cx mc_Clash xh_Clash nf_Clash_other (eErrK cx (by decide) XC_Clash (by rfl) (by decide) (kCons (vV 0) (kCons eInt kNil)) rfl)) (pCons (eErrFld cx mc_Clash xh_Clash nf_Clash_hand (eErr cx (by decide) XC_Clash (by rfl) (by decide) (pCons (vV 0) (pCons eInt pNil)))) (pCons eStr pNil))))) pNil)))
  (bCons (sSet (i := 2) sc_L_other_errors.nd rfl (.inl rfl) (eErrK cx (by decide) XC_FileNotRight (by rfl) (by decide) (kCons (vV 0) (kCons eInt kNil)) rfl))
  (bCons (sX (eML cx mt_append mAppend PySem.F.slot_list_append PySem.F.type_list_append (vV 1) (pCons (eTup (pCons (eErr cx (by decide) XC_FileNotRight (by rfl) (by decide) (pCons eInt (pCons (vV 0) pNil))) (pCons (eErrFld cx mc_FileNotRight xh_FileNotRight nf_FileNotRight_index (vV 2)) (pCons (eErrFld cx mc_FileNotRight xh_FileNotRight nf_FileNotRight_name (eErr cx (by decide) XC_FileNotRight (by rfl) (by decide) (pCons (vV 0) (pCons eInt pNil)))) (pCons eStr pNil))))) pNil)))
  (bCons (sX (eML cx mt_append mAppend PySem.F.slot_list_append PySem.F.type_list_append (vV 1) (pCons (eTup (pCons (eErr cx (by decide) XC_Apart (by rfl) (by decide) (pCons (vV 0) pNil)) (pCons (eErrFld cx mc_Apart xh_Apart nf_Apart_name (eErrK cx (by decide) XC_Apart (by rfl) (by decide) (kCons (vV 0) kNil) rfl)) (pCons (eErrFld cx mc_Apart xh_Apart nf_Apart_name (eErr cx (by decide) XC_Apart (by rfl) (by decide) (pCons (vV 0) pNil))) (pCons eStr pNil))))) pNil)))
  (bCons (sX (eML cx mt_append mAppend PySem.F.slot_list_append PySem.F.type_list_append (vV 1) (pCons (eTup (pCons (eErr cx (by decide) XC_Broken (by rfl) (by decide) (pCons (vV 0) pNil)) (pCons (eErrFld cx mc_Broken xh_Broken nf_Broken_name (eErrK cx (by decide) XC_Broken (by rfl) (by decide) (kCons (vV 0) kNil) rfl)) (pCons (eErrFld cx mc_Broken xh_Broken nf_Broken_name (eErr cx (by decide) XC_Broken (by rfl) (by decide) (pCons (vV 0) pNil))) (pCons eStr pNil))))) pNil)))
  (bCons (sX (eML cx mt_append mAppend PySem.F.slot_list_append PySem.F.type_list_append (vV 1) (pCons (eTup (pCons (eErr cx (by decide) XC_Unsafe (by rfl) (by decide) (pCons eInt (pCons (vV 0) pNil))) (pCons (eErrFld cx mc_Unsafe xh_Unsafe nf_Unsafe_case (eErrK cx (by decide) XC_Unsafe (by rfl) (by decide) (kCons (vV 0) (kCons eInt kNil)) rfl)) (pCons (eErrFld cx mc_Unsafe xh_Unsafe nf_Unsafe_name (eErr cx (by decide) XC_Unsafe (by rfl) (by decide) (pCons (vV 0) (pCons eInt pNil)))) (pCons eStr pNil))))) pNil)))
  (bCons (sX (eML cx mt_append mAppend PySem.F.slot_list_append PySem.F.type_list_append (vV 1) (pCons (eTup (pCons (eErr0 cx XO_Unlike (by rfl)) (pCons (vV 0) (pCons (vV 0) (pCons eStr pNil))))) pNil)))
  (bOne (sR (vV 1)))))))))))))))))))))))
theorem ok_L_sorts {G : Gx} {f : Addr} {fd : FuncData} (X_L_sorts : FX G.K G.mg "_law_sorts" s_L_sorts P_L_sorts f fd) (EB : ErrB G errTab) (b_LookupError : G.mg "LookupError" = none) (b_OverflowError : G.mg "OverflowError" = none) (b_RuntimeError : G.mg "RuntimeError" = none) (b_ValueError : G.mg "ValueError" = none) (b_isinstance : G.mg "isinstance" = none) (b_zip : G.mg "zip" = none) :
    FnP G 1 f fd P_L_sorts [false] F_L_sorts := by
  unfold F_L_sorts
  exact fn_plain X_L_sorts.F sc_L_sorts rfl (by decide) (fun cdv A outer s H E cx =>
  (bCons (sSet (i := 1) sc_L_sorts.nd rfl (.inl rfl) (eLst (pCons (eIsEB cx EB (by decide) (vV 0) (by rfl) b_isinstance (by rfl) b_ValueError (by decide +kernel)) (pCons (eIsEB cx EB (by decide) (vV 0) (by rfl) b_isinstance (by rfl) b_LookupError (by decide +kernel)) pNil))))
  (bCons (sSet (i := 1) sc_L_sorts.nd rfl (.inl rfl) (eAdd cx (vV 1) (eLst (pCons (eIsEB cx EB (by decide) (vV 0) (by rfl) b_isinstance (by rfl) b_OverflowError (by decide +kernel)) (pCons (eIsEB cx EB (by decide) (vV 0) (by rfl) b_isinstance (by rfl) b_RuntimeError (by decide +kernel)) pNil)))))
  (bOne (sR (eLc (own := [("_law_flag", 2), ("_law_one", 3)])  cx sc_L_sorts.nd  (iZ cx (by rfl) b_zip (pCons (eLst (pCons eStr (pCons eStr (pCons eStr (pCons eStr pNil))))) (pCons (vV 1) pNil))) (blkOk_by (own := [("_law_flag", 2), ("_law_one", 3)]) (N := N_L_sorts) (sc := defScope s_L_sorts) (by decide +kernel)) (by decide) (by decide) (fun _ _ _ _ _ cx => (gT (n := 2) cx.hK cx.calm (gCons (gN (i := 3) sc_L_sorts.nd rfl (.inl rfl)) (gCons (gN (i := 2) sc_L_sorts.nd rfl (.inl rfl)) gNil)))) (fun _ _ _ _ _ cx => (cOne (tV cx.hK (vV 2)))) (fun _ _ _ _ _ cx => (vV 3))))))))
theorem ok_L_classes {G : Gx} {f : Addr} {fd : FuncData} (X_L_classes : FX G.K G.mg "_law_classes" s_L_classes P_L_classes f fd) {C_Apart : Addr} {C_Broken : Addr} {C_Clash : Addr} {C_FileNotRight : Addr} {C_InvalidChange : Addr} {C_InvalidCount : Addr} {C_InvalidEdit : Addr} {C_InvalidFiles : Addr} {C_InvalidHand : Addr} {C_InvalidName : Addr} {C_InvalidNew : Addr} {C_InvalidOld : Addr} {C_InvalidPart : Addr} {C_InvalidProgram : Addr} {C_InvalidRow : Addr} {C_InvalidRun : Addr} {C_InvalidSpot : Addr} {C_InvalidTable : Addr} {C_InvalidText : Addr} {C_NoBack : Addr} {C_NoExchange : Addr} {C_NoFile : Addr} {C_NoLabel : Addr} {C_NoMirror : Addr} {C_NoPlace : Addr} {C_NotRight : Addr} {C_OutOfRange : Addr} {C_Overlap : Addr} {C_TooLong : Addr} {C_TooMany : Addr} {C_Unbounded : Addr} {C_Unlike : Addr} {C_Unreadable : Addr} {C_Unsafe : Addr} (mc_Apart : G.mg "Apart" = some (.ref C_Apart)) (xh_Apart : XHd G.K C_Apart) (mc_Broken : G.mg "Broken" = some (.ref C_Broken)) (xh_Broken : XHd G.K C_Broken) (mc_Clash : G.mg "Clash" = some (.ref C_Clash)) (xh_Clash : XHd G.K C_Clash) (mc_FileNotRight : G.mg "FileNotRight" = some (.ref C_FileNotRight)) (xh_FileNotRight : XHd G.K C_FileNotRight) (mc_InvalidChange : G.mg "InvalidChange" = some (.ref C_InvalidChange)) (xh_InvalidChange : XHd G.K C_InvalidChange) (mc_InvalidCount : G.mg "InvalidCount" = some (.ref C_InvalidCount)) (xh_InvalidCount : XHd G.K C_InvalidCount) (mc_InvalidEdit : G.mg "InvalidEdit" = some (.ref C_InvalidEdit)) (xh_InvalidEdit : XHd G.K C_InvalidEdit) (mc_InvalidFiles : G.mg "InvalidFiles" = some (.ref C_InvalidFiles)) (xh_InvalidFiles : XHd G.K C_InvalidFiles) (mc_InvalidHand : G.mg "InvalidHand" = some (.ref C_InvalidHand)) (xh_InvalidHand : XHd G.K C_InvalidHand) (mc_InvalidName : G.mg "InvalidName" = some (.ref C_InvalidName)) (xh_InvalidName : XHd G.K C_InvalidName) (mc_InvalidNew : G.mg "InvalidNew" = some (.ref C_InvalidNew)) (xh_InvalidNew : XHd G.K C_InvalidNew) (mc_InvalidOld : G.mg "InvalidOld" = some (.ref C_InvalidOld)) (xh_InvalidOld : XHd G.K C_InvalidOld) (mc_InvalidPart : G.mg "InvalidPart" = some (.ref C_InvalidPart)) (xh_InvalidPart : XHd G.K C_InvalidPart) (mc_InvalidProgram : G.mg "InvalidProgram" = some (.ref C_InvalidProgram)) (xh_InvalidProgram : XHd G.K C_InvalidProgram) (mc_InvalidRow : G.mg "InvalidRow" = some (.ref C_InvalidRow)) (xh_InvalidRow : XHd G.K C_InvalidRow) (mc_InvalidRun : G.mg "InvalidRun" = some (.ref C_InvalidRun)) (xh_InvalidRun : XHd G.K C_InvalidRun) (mc_InvalidSpot : G.mg "InvalidSpot" = some (.ref C_InvalidSpot)) (xh_InvalidSpot : XHd G.K C_InvalidSpot) (mc_InvalidTable : G.mg "InvalidTable" = some (.ref C_InvalidTable)) (xh_InvalidTable : XHd G.K C_InvalidTable) (mc_InvalidText : G.mg "InvalidText" = some (.ref C_InvalidText)) (xh_InvalidText : XHd G.K C_InvalidText) (mc_NoBack : G.mg "NoBack" = some (.ref C_NoBack)) (xh_NoBack : XHd G.K C_NoBack) (mc_NoExchange : G.mg "NoExchange" = some (.ref C_NoExchange)) (xh_NoExchange : XHd G.K C_NoExchange) (mc_NoFile : G.mg "NoFile" = some (.ref C_NoFile)) (xh_NoFile : XHd G.K C_NoFile) (mc_NoLabel : G.mg "NoLabel" = some (.ref C_NoLabel)) (xh_NoLabel : XHd G.K C_NoLabel) (mc_NoMirror : G.mg "NoMirror" = some (.ref C_NoMirror)) (xh_NoMirror : XHd G.K C_NoMirror) (mc_NoPlace : G.mg "NoPlace" = some (.ref C_NoPlace)) (xh_NoPlace : XHd G.K C_NoPlace) (mc_NotRight : G.mg "NotRight" = some (.ref C_NotRight)) (xh_NotRight : XHd G.K C_NotRight) (mc_OutOfRange : G.mg "OutOfRange" = some (.ref C_OutOfRange)) (xh_OutOfRange : XHd G.K C_OutOfRange) (mc_Overlap : G.mg "Overlap" = some (.ref C_Overlap)) (xh_Overlap : XHd G.K C_Overlap) (mc_TooLong : G.mg "TooLong" = some (.ref C_TooLong)) (xh_TooLong : XHd G.K C_TooLong) (mc_TooMany : G.mg "TooMany" = some (.ref C_TooMany)) (xh_TooMany : XHd G.K C_TooMany) (mc_Unbounded : G.mg "Unbounded" = some (.ref C_Unbounded)) (xh_Unbounded : XHd G.K C_Unbounded) (mc_Unlike : G.mg "Unlike" = some (.ref C_Unlike)) (xh_Unlike : XHd G.K C_Unlike) (mc_Unreadable : G.mg "Unreadable" = some (.ref C_Unreadable)) (xh_Unreadable : XHd G.K C_Unreadable) (mc_Unsafe : G.mg "Unsafe" = some (.ref C_Unsafe)) (xh_Unsafe : XHd G.K C_Unsafe) (EB : ErrB G errTab) (b_isinstance : G.mg "isinstance" = none) :
    FnP G 2 f fd P_L_classes [false] F_L_classes := by
  unfold F_L_classes
  exact fn_plain X_L_classes.F sc_L_classes rfl (by decide) (fun cdv A outer s H E cx =>
  (bCons (sSet (i := 1) sc_L_classes.nd rfl (.inl rfl) (eLst pNil))
  (bCons (sX (eML cx mt_extend mExtend PySem.F.slot_list_extend PySem.F.type_list_extend (vV 1) (pCons (eLst (pCons (eIsEO cx EB ⟨_, rfl⟩ (vV 0) (by rfl) b_isinstance (by rfl) mc_InvalidOld) (pCons (eIsEO cx EB ⟨_, rfl⟩ (vV 0) (by rfl) b_isinstance (by rfl) mc_InvalidNew) pNil))) pNil)))
  (bCons (sX (eML cx mt_extend mExtend PySem.F.slot_list_extend PySem.F.type_list_extend (vV 1) (pCons (eLst (pCons (eIsEO cx EB ⟨_, rfl⟩ (vV 0) (by rfl) b_isinstance (by rfl) mc_InvalidText) (pCons (eIsEO cx EB ⟨_, rfl⟩ (vV 0) (by rfl) b_isinstance (by rfl) mc_InvalidTable) pNil))) pNil)))
  (bCons (sX (eML cx mt_extend mExtend PySem.F.slot_list_extend PySem.F.type_list_extend (vV 1) (pCons (eLst (pCons (eIsEO cx EB ⟨_, rfl⟩ (vV 0) (by rfl) b_isinstance (by rfl) mc_InvalidCount) (pCons (eIsEO cx EB ⟨_, rfl⟩ (vV 0) (by rfl) b_isinstance (by rfl) mc_InvalidSpot) pNil))) pNil)))
  (bCons (sX (eML cx mt_extend mExtend PySem.F.slot_list_extend PySem.F.type_list_extend (vV 1) (pCons (eLst (pCons (eIsEO cx EB ⟨_, rfl⟩ (vV 0) (by rfl) b_isinstance (by rfl) mc_InvalidHand) (pCons (eIsEO cx EB ⟨_, rfl⟩ (vV 0) (by rfl) b_isinstance (by rfl) mc_InvalidFiles) pNil))) pNil)))
  (bCons (sX (eML cx mt_extend mExtend PySem.F.slot_list_extend PySem.F.type_list_extend (vV 1) (pCons (eLst (pCons (eIsEO cx EB ⟨_, rfl⟩ (vV 0) (by rfl) b_isinstance (by rfl) mc_InvalidName) (pCons (eIsEO cx EB ⟨_, rfl⟩ (vV 0) (by rfl) b_isinstance (by rfl) mc_InvalidPart) pNil))) pNil)))
  (bCons (sX (eML cx mt_extend mExtend PySem.F.slot_list_extend PySem.F.type_list_extend (vV 1) (pCons (eLst (pCons (eIsEO cx EB ⟨_, rfl⟩ (vV 0) (by rfl) b_isinstance (by rfl) mc_InvalidEdit) (pCons (eIsEO cx EB ⟨_, rfl⟩ (vV 0) (by rfl) b_isinstance (by rfl) mc_InvalidChange) pNil))) pNil)))
  (bCons (sX (eML cx mt_extend mExtend PySem.F.slot_list_extend PySem.F.type_list_extend (vV 1) (pCons (eLst (pCons (eIsEO cx EB ⟨_, rfl⟩ (vV 0) (by rfl) b_isinstance (by rfl) mc_InvalidProgram) (pCons (eIsEO cx EB ⟨_, rfl⟩ (vV 0) (by rfl) b_isinstance (by rfl) mc_InvalidRun) pNil))) pNil)))
  (bCons (sX (eML cx mt_extend mExtend PySem.F.slot_list_extend PySem.F.type_list_extend (vV 1) (pCons (eLst (pCons (eIsEO cx EB ⟨_, rfl⟩ (vV 0) (by rfl) b_isinstance (by rfl) mc_NoExchange) (pCons (eIsEO cx EB ⟨_, rfl⟩ (vV 0) (by rfl) b_isinstance (by rfl) mc_NoMirror) pNil))) pNil)))
  (bCons (sX (eML cx mt_extend mExtend PySem.F.slot_list_extend PySem.F.type_list_extend (vV 1) (pCons (eLst (pCons (eIsEO cx EB ⟨_, rfl⟩ (vV 0) (by rfl) b_isinstance (by rfl) mc_NoBack) (pCons (eIsEO cx EB ⟨_, rfl⟩ (vV 0) (by rfl) b_isinstance (by rfl) mc_Unbounded) pNil))) pNil)))
  (bCons (sX (eML cx mt_extend mExtend PySem.F.slot_list_extend PySem.F.type_list_extend (vV 1) (pCons (eLst (pCons (eIsEO cx EB ⟨_, rfl⟩ (vV 0) (by rfl) b_isinstance (by rfl) mc_Unreadable) (pCons (eIsEO cx EB ⟨_, rfl⟩ (vV 0) (by rfl) b_isinstance (by rfl) mc_InvalidRow) pNil))) pNil)))
  (bCons (sX (eML cx mt_extend mExtend PySem.F.slot_list_extend PySem.F.type_list_extend (vV 1) (pCons (eLst (pCons (eIsEO cx EB ⟨_, rfl⟩ (vV 0) (by rfl) b_isinstance (by rfl) mc_Unlike) (pCons (eIsEO cx EB ⟨_, rfl⟩ (vV 0) (by rfl) b_isinstance (by rfl) mc_NoPlace) pNil))) pNil)))
  (bCons (sX (eML cx mt_extend mExtend PySem.F.slot_list_extend PySem.F.type_list_extend (vV 1) (pCons (eLst (pCons (eIsEO cx EB ⟨_, rfl⟩ (vV 0) (by rfl) b_isinstance (by rfl) mc_Overlap) (pCons (eIsEO cx EB ⟨_, rfl⟩ (vV 0) (by rfl) b_isinstance (by rfl) mc_OutOfRange) pNil))) pNil)))
  (bCons (sX (eML cx mt_extend mExtend PySem.F.slot_list_extend PySem.F.type_list_extend (vV 1) (pCons (eLst (pCons (eIsEO cx EB ⟨_, rfl⟩ (vV 0) (by rfl) b_isinstance (by rfl) mc_NoFile) (pCons (eIsEO cx EB ⟨_, rfl⟩ (vV 0) (by rfl) b_isinstance (by rfl) mc_NoLabel) pNil))) pNil)))
  (bCons (sX (eML cx mt_extend mExtend PySem.F.slot_list_extend PySem.F.type_list_extend (vV 1) (pCons (eLst (pCons (eIsEO cx EB ⟨_, rfl⟩ (vV 0) (by rfl) b_isinstance (by rfl) mc_TooMany) (pCons (eIsEO cx EB ⟨_, rfl⟩ (vV 0) (by rfl) b_isinstance (by rfl) mc_TooLong) pNil))) pNil)))
  (bCons (sX (eML cx mt_extend mExtend PySem.F.slot_list_extend PySem.F.type_list_extend (vV 1) (pCons (eLst (pCons (eIsEO cx EB ⟨_, rfl⟩ (vV 0) (by rfl) b_isinstance (by rfl) mc_NotRight) (pCons (eIsEO cx EB ⟨_, rfl⟩ (vV 0) (by rfl) b_isinstance (by rfl) mc_Clash) pNil))) pNil)))
  (bCons (sX (eML cx mt_extend mExtend PySem.F.slot_list_extend PySem.F.type_list_extend (vV 1) (pCons (eLst (pCons (eIsEO cx EB ⟨_, rfl⟩ (vV 0) (by rfl) b_isinstance (by rfl) mc_FileNotRight) (pCons (eIsEO cx EB ⟨_, rfl⟩ (vV 0) (by rfl) b_isinstance (by rfl) mc_Apart) pNil))) pNil)))
  (bCons (sX (eML cx mt_extend mExtend PySem.F.slot_list_extend PySem.F.type_list_extend (vV 1) (pCons (eLst (pCons (eIsEO cx EB ⟨_, rfl⟩ (vV 0) (by rfl) b_isinstance (by rfl) mc_Broken) (pCons (eIsEO cx EB ⟨_, rfl⟩ (vV 0) (by rfl) b_isinstance (by rfl) mc_Unsafe) pNil))) pNil)))
  (bOne (sR (vV 1))))))))))))))))))))))
theorem ok_law {G : Gx} {f : Addr} {fd : FuncData} (X_law : FX G.K G.mg "law" s_law P_law f fd)
    {f0 : Addr} {fd0 : FuncData} (X_L_pen : FX G.K G.mg "_law_pen" s_L_pen P_L_pen f0 fd0) (G_L_pen : FnP G 1 f0 fd0 P_L_pen [false] F_L_pen)
    {f1 : Addr} {fd1 : FuncData} (X_L_any_value : FX G.K G.mg "_law_any_value" s_L_any_value P_L_any_value f1 fd1) (G_L_any_value : FnP G 3 f1 fd1 P_L_any_value [true] F_L_any_value)
    {f2 : Addr} {fd2 : FuncData} (X_L_some_errors : FX G.K G.mg "_law_some_errors" s_L_some_errors P_L_some_errors f2 fd2) (G_L_some_errors : FnP G 2 f2 fd2 P_L_some_errors [false] F_L_some_errors)
    {f3 : Addr} {fd3 : FuncData} (X_L_other_errors : FX G.K G.mg "_law_other_errors" s_L_other_errors P_L_other_errors f3 fd3) (G_L_other_errors : FnP G 2 f3 fd3 P_L_other_errors [false] F_L_other_errors)
    {f4 : Addr} {fd4 : FuncData} (X_L_classes : FX G.K G.mg "_law_classes" s_L_classes P_L_classes f4 fd4) (G_L_classes : FnP G 2 f4 fd4 P_L_classes [false] F_L_classes)
    {f5 : Addr} {fd5 : FuncData} (X_L_sorts : FX G.K G.mg "_law_sorts" s_L_sorts P_L_sorts f5 fd5) (G_L_sorts : FnP G 1 f5 fd5 P_L_sorts [false] F_L_sorts) (b_len : G.mg "len" = none) (b_min : G.mg "min" = none) (b_range : G.mg "range" = none) (b_repr : G.mg "repr" = none) {tk_MAX_EDITS : Tok} (g_MAX_EDITS : G.mg "MAX_EDITS" = some (Value.int 4 tk_MAX_EDITS)) {tk_MAX_FILES : Tok} (g_MAX_FILES : G.mg "MAX_FILES" = some (Value.int 8 tk_MAX_FILES)) {tk_MAX_HANDS : Tok} (g_MAX_HANDS : G.mg "MAX_HANDS" = some (Value.int 4 tk_MAX_HANDS)) {tk_MAX_NEWS : Tok} (g_MAX_NEWS : G.mg "MAX_NEWS" = some (Value.int 12 tk_MAX_NEWS)) {tk_MAX_OLDS : Tok} (g_MAX_OLDS : G.mg "MAX_OLDS" = some (Value.int 8 tk_MAX_OLDS)) {tk_MAX_PARTS : Tok} (g_MAX_PARTS : G.mg "MAX_PARTS" = some (Value.int 3 tk_MAX_PARTS)) {tk_MAX_RUNS : Tok} (g_MAX_RUNS : G.mg "MAX_RUNS" = some (Value.int 20 tk_MAX_RUNS)) {tk_MAX_TIMES : Tok} (g_MAX_TIMES : G.mg "MAX_TIMES" = some (Value.int 1000000000000000000000000000000 tk_MAX_TIMES)) {tk_MAX_WORD : Tok} (g_MAX_WORD : G.mg "MAX_WORD" = some (Value.int 40 tk_MAX_WORD)) (hGq : G.q) :
    FnP G 4 f fd P_law [false] F_law := by
  unfold F_law
  exact fn_plain X_law.F sc_law rfl (by decide) (fun cdv A outer s H E cx =>
  (bCons (sSet (i := 1) sc_law.nd rfl (.inl rfl) (eCall cx G_L_pen (by decide) (by rfl) X_L_pen.g X_L_pen.F.kp X_L_pen.b (pCons (vV 0) pNil)))
  (bCons (sFor cx.po cx.calm (iR1 (by rfl) (by rw [cx.hm]; exact b_range) (pCons (eAdd cx eInt (eB cx (bMin cx) (by rfl) b_min (by decide +kernel) (pCons eInt (pCons (eB cx (bLen cx) (by rfl) b_len (by decide +kernel) (pCons (vV 0) pNil)) pNil)))) pNil)) (gN (i := 2) sc_law.nd rfl (.inl rfl))
  (bCons (sSet (i := 3) sc_law.nd rfl (.inl rfl) (eCall cx G_L_any_value (by decide) (by rfl) X_L_any_value.g X_L_any_value.F.kp X_L_any_value.b (pCons (vV 1) pNil)))
  (bCons (sPar2 (i := 4) (j := 5) cx sc_law.nd rfl rfl (by decide) rfl rfl (pFCons (eB cx (bRepr cx) (by rfl) b_repr (by decide +kernel) (pCons (vV 3) pNil)) (pFCons (eAdd cx (eCall cx G_L_some_errors (by decide) (by rfl) X_L_some_errors.g X_L_some_errors.F.kp X_L_some_errors.b (pCons (vV 3) pNil)) (eCall cx G_L_other_errors (by decide) (by rfl) X_L_other_errors.g X_L_other_errors.F.kp X_L_other_errors.b (pCons (vV 3) pNil))) pFNil)) (by rfl))
  (bOne (sFor cx.po cx.calm (iV cx.hK (vV 5)) (gT (n := 4) cx.hK cx.calm (gCons (gN (i := 6) sc_law.nd rfl (.inl rfl)) (gCons (gN (i := 7) sc_law.nd rfl (.inl rfl)) (gCons (gN (i := 8) sc_law.nd rfl (.inl rfl)) (gCons (gN (i := 9) sc_law.nd rfl (.inl rfl)) gNil)))))
  (bCons (sIf (tW (wOn (tCmp (cNe cx) (eB cx (bRepr cx) (by rfl) b_repr (by decide +kernel) (pCons (eLst (pCons (vV 7) (pCons (vV 8) pNil))) pNil)) (eB cx (bRepr cx) (by rfl) b_repr (by decide +kernel) (pCons (eLst (pCons (vV 3) (pCons (vV 3) pNil))) pNil)) (nomark _)) (wO1 (tCmp (cNe cx) (eCall cx G_L_sorts (by decide) (by rfl) X_L_sorts.g X_L_sorts.F.kp X_L_sorts.b (pCons (vV 6) pNil)) (eLst (pCons (vV 9) pNil)) (nomark _)))))
  (bOne (sR eBl))
  bNil)
  (bOne (sIf (tW (wOn (tCmp (cNe cx) (eCountB cx (eCall cx G_L_classes (by decide) (by rfl) X_L_classes.g X_L_classes.F.kp X_L_classes.b (pCons (vV 6) pNil))) eInt (nomark _)) (wO1 (tCmp (cNe cx) (eB cx (bRepr cx) (by rfl) b_repr (by decide +kernel) (pCons (vV 3) pNil)) (vV 4) (nomark _)))))
  (bOne (sR eBl))
  bNil))))))))
  (bCons (sSet (i := 10) sc_law.nd rfl (.inl rfl) (eLst (pCons (eGlob (v := .int 40) cx (by rfl) g_MAX_WORD ⟨_, rfl⟩ (fun _ _ => .int _)) (pCons (eGlob (v := .int 4) cx (by rfl) g_MAX_EDITS ⟨_, rfl⟩ (fun _ _ => .int _)) (pCons (eGlob (v := .int 3) cx (by rfl) g_MAX_PARTS ⟨_, rfl⟩ (fun _ _ => .int _)) (pCons (eGlob (v := .int 8) cx (by rfl) g_MAX_OLDS ⟨_, rfl⟩ (fun _ _ => .int _)) (pCons (eGlob (v := .int 12) cx (by rfl) g_MAX_NEWS ⟨_, rfl⟩ (fun _ _ => .int _)) (pCons (eGlob (v := .int 20) cx (by rfl) g_MAX_RUNS ⟨_, rfl⟩ (fun _ _ => .int _)) (pCons (eGlob (v := .int 8) cx (by rfl) g_MAX_FILES ⟨_, rfl⟩ (fun _ _ => .int _)) (pCons (eGlob (v := .int 4) cx (by rfl) g_MAX_HANDS ⟨_, rfl⟩ (fun _ _ => .int _)) pNil))))))))))
  (bOne (sR (eAnd cx.hK (eCmp (cEq cx) (eB cx (bRepr cx) (by rfl) b_repr (by decide +kernel) (pCons (vV 10) pNil)) eStr (nomark _)) (eOne (eCmp (cEq cx) (eB cx (bRepr cx) (by rfl) b_repr (by decide +kernel) (pCons (eGlob (v := .int 1000000000000000000000000000000) cx (by rfl) g_MAX_TIMES ⟨_, rfl⟩ (fun _ _ => .int _)) pNil)) (eB cx (bRepr cx) (by rfl) b_repr (by decide +kernel) (pCons (ePow eInt eInt) pNil)) (nomark _))))))))))
end Law
namespace Law
open PySem PySem.Spec PySem.W PySem.Calls PyProof.Rows L2 AB PL Den LamX
theorem all_mk {P : Program} {w : World} {K : PySem.W.Frag} {h : Heap} {mg : Str → Option Value} {fa f0 f1 f2 f3 f4 f5 f6 f7 f8 : Addr} {ts : List Addr} (X : K.In h) (G : h.Ns mainGlobals mg) (hfa : mg "law" = some (.ref fa))
    {od0 an0 od1 an1 od2 an2 od3 an3 od4 an4 od5 an5 od6 an6 od7 an7 od8 an8 : Option Addr} {sl0 sl1 sl2 sl3 sl4 sl5 sl6 sl7 sl8 : Array (Option Value)} {oc0 kV0 dc0 pm0 ct0 cd0 oc1 kV1 dc1 pm1 ct1 cd1 oc2 kV2 dc2 pm2 ct2 cd2 oc3 kV3 dc3 pm3 ct3 cd3 oc4 kV4 dc4 pm4 ct4 cd4 oc5 kV5 dc5 pm5 ct5 cd5 oc6 kV6 dc6 pm6 ct6 cd6 oc7 kV7 dc7 pm7 ct7 cd7 oc8 kV8 dc8 pm8 ct8 cd8 : Value}
    (a0 : PySem.W.nsIn K mainGlobals "_law_pen" = some (some (.ref f0)))
    (l0 : K.lookup f0 = some ⟨oc0, od0, .func (PySem.W.fnOf "_law_pen" "_law_pen" (defArgs s_L_pen) (defBody s_L_pen) (defScope s_L_pen) .none kV0 dc0 pm0 an0 cd0 ct0), sl0⟩)
    (c0 : PySem.W.codeIn K cd0 "_law_pen" = true)
    (k0 : PySem.W.keepIn K (.ref f0) = true)
    (a1 : PySem.W.nsIn K mainGlobals "_law_draw" = some (some (.ref f1)))
    (l1 : K.lookup f1 = some ⟨oc1, od1, .func (PySem.W.fnOf "_law_draw" "_law_draw" (defArgs s_L_draw) (defBody s_L_draw) (defScope s_L_draw) .none kV1 dc1 pm1 an1 cd1 ct1), sl1⟩)
    (c1 : PySem.W.codeIn K cd1 "_law_draw" = true)
    (k1 : PySem.W.keepIn K (.ref f1) = true)
    (a2 : PySem.W.nsIn K mainGlobals "_law_pick" = some (some (.ref f2)))
    (l2 : K.lookup f2 = some ⟨oc2, od2, .func (PySem.W.fnOf "_law_pick" "_law_pick" (defArgs s_L_pick) (defBody s_L_pick) (defScope s_L_pick) .none kV2 dc2 pm2 an2 cd2 ct2), sl2⟩)
    (c2 : PySem.W.codeIn K cd2 "_law_pick" = true)
    (k2 : PySem.W.keepIn K (.ref f2) = true)
    (a3 : PySem.W.nsIn K mainGlobals "_law_any_value" = some (some (.ref f3)))
    (l3 : K.lookup f3 = some ⟨oc3, od3, .func (PySem.W.fnOf "_law_any_value" "_law_any_value" (defArgs s_L_any_value) (defBody s_L_any_value) (defScope s_L_any_value) .none kV3 dc3 pm3 an3 cd3 ct3), sl3⟩)
    (c3 : PySem.W.codeIn K cd3 "_law_any_value" = true)
    (k3 : PySem.W.keepIn K (.ref f3) = true)
    (a4 : PySem.W.nsIn K mainGlobals "_law_some_errors" = some (some (.ref f4)))
    (l4 : K.lookup f4 = some ⟨oc4, od4, .func (PySem.W.fnOf "_law_some_errors" "_law_some_errors" (defArgs s_L_some_errors) (defBody s_L_some_errors) (defScope s_L_some_errors) .none kV4 dc4 pm4 an4 cd4 ct4), sl4⟩)
    (c4 : PySem.W.codeIn K cd4 "_law_some_errors" = true)
    (k4 : PySem.W.keepIn K (.ref f4) = true)
    (a5 : PySem.W.nsIn K mainGlobals "_law_other_errors" = some (some (.ref f5)))
    (l5 : K.lookup f5 = some ⟨oc5, od5, .func (PySem.W.fnOf "_law_other_errors" "_law_other_errors" (defArgs s_L_other_errors) (defBody s_L_other_errors) (defScope s_L_other_errors) .none kV5 dc5 pm5 an5 cd5 ct5), sl5⟩)
    (c5 : PySem.W.codeIn K cd5 "_law_other_errors" = true)
    (k5 : PySem.W.keepIn K (.ref f5) = true)
    (a6 : PySem.W.nsIn K mainGlobals "_law_sorts" = some (some (.ref f6)))
    (l6 : K.lookup f6 = some ⟨oc6, od6, .func (PySem.W.fnOf "_law_sorts" "_law_sorts" (defArgs s_L_sorts) (defBody s_L_sorts) (defScope s_L_sorts) .none kV6 dc6 pm6 an6 cd6 ct6), sl6⟩)
    (c6 : PySem.W.codeIn K cd6 "_law_sorts" = true)
    (k6 : PySem.W.keepIn K (.ref f6) = true)
    (a7 : PySem.W.nsIn K mainGlobals "_law_classes" = some (some (.ref f7)))
    (l7 : K.lookup f7 = some ⟨oc7, od7, .func (PySem.W.fnOf "_law_classes" "_law_classes" (defArgs s_L_classes) (defBody s_L_classes) (defScope s_L_classes) .none kV7 dc7 pm7 an7 cd7 ct7), sl7⟩)
    (c7 : PySem.W.codeIn K cd7 "_law_classes" = true)
    (k7 : PySem.W.keepIn K (.ref f7) = true)
    (a8 : PySem.W.nsIn K mainGlobals "law" = some (some (.ref f8)))
    (l8 : K.lookup f8 = some ⟨oc8, od8, .func (PySem.W.fnOf "law" "law" (defArgs s_law) (defBody s_law) (defScope s_law) .none kV8 dc8 pm8 an8 cd8 ct8), sl8⟩)
    (c8 : PySem.W.codeIn K cd8 "law" = true)
    (k8 : PySem.W.keepIn K (.ref f8) = true)
    {tk0 : Tok}
    (gl0 : PySem.W.nsIn K mainGlobals "MAX_EDITS" = some (some (Value.int 4 tk0)))
    {tk1 : Tok}
    (gl1 : PySem.W.nsIn K mainGlobals "MAX_FILES" = some (some (Value.int 8 tk1)))
    {tk2 : Tok}
    (gl2 : PySem.W.nsIn K mainGlobals "MAX_HANDS" = some (some (Value.int 4 tk2)))
    {tk3 : Tok}
    (gl3 : PySem.W.nsIn K mainGlobals "MAX_NEWS" = some (some (Value.int 12 tk3)))
    {tk4 : Tok}
    (gl4 : PySem.W.nsIn K mainGlobals "MAX_OLDS" = some (some (Value.int 8 tk4)))
    {tk5 : Tok}
    (gl5 : PySem.W.nsIn K mainGlobals "MAX_PARTS" = some (some (Value.int 3 tk5)))
    {tk6 : Tok}
    (gl6 : PySem.W.nsIn K mainGlobals "MAX_RUNS" = some (some (Value.int 20 tk6)))
    {tk7 : Tok}
    (gl7 : PySem.W.nsIn K mainGlobals "MAX_TIMES" = some (some (Value.int 1000000000000000000000000000000 tk7)))
    {tk8 : Tok}
    (gl8 : PySem.W.nsIn K mainGlobals "MAX_WORD" = some (some (Value.int 40 tk8)))
    (z0 : PySem.W.nsIn K mainGlobals "LookupError" = some none)
    (z1 : PySem.W.nsIn K mainGlobals "OverflowError" = some none)
    (z2 : PySem.W.nsIn K mainGlobals "RuntimeError" = some none)
    (z3 : PySem.W.nsIn K mainGlobals "ValueError" = some none)
    (z4 : PySem.W.nsIn K mainGlobals "abs" = some none)
    (z5 : PySem.W.nsIn K mainGlobals "int" = some none)
    (z6 : PySem.W.nsIn K mainGlobals "isinstance" = some none)
    (z7 : PySem.W.nsIn K mainGlobals "len" = some none)
    (z8 : PySem.W.nsIn K mainGlobals "list" = some none)
    (z9 : PySem.W.nsIn K mainGlobals "min" = some none)
    (z10 : PySem.W.nsIn K mainGlobals "range" = some none)
    (z11 : PySem.W.nsIn K mainGlobals "repr" = some none)
    (z12 : PySem.W.nsIn K mainGlobals "zip" = some none)
    (xs : PySem.W.nsIn K mainGlobals "super" = some none)
    (xo : PySem.W.nsIn K cStatics "thirdparty.any" = some none)
    (xn : (P.main.scope.names.lookup ("super" : Str)).isSome = false)
    {C_Apart : Addr}
    (e0a : PySem.W.nsIn K mainGlobals "Apart" = some (some (.ref C_Apart)))
    {xI0 xN0 xda0 xcc0 : Addr} {xnm0 xq0 xqn0 : Str} {xbs0 xsu0 : List Value} {xsn0 : List Str} {xab0 : Bool} {xco0 : Option Bool} {xdd0 xod0 xan0 : Option Addr} {xk0_0 xk1_0 xk2_0 xk3_0 xk5_0 : Option Value} {xoc0 xdo0 xpm0 xct0 : Value} {xos0 : Array (Option Value)}
    {xp0_0 xp0_1 xp0_2 xp0_3 xp0_4 xp0_5 xp0_6 xp0_7 xp0_8 xp0_9 xp0_10 xp0_11 : Pos}
    (e0b : K.lookup C_Apart = some (excClassObj xnm0 xq0 C_Apart xN0 xbs0 [.type "RuntimeError", .type "Exception", .type "BaseException", .type "object"] true xsn0 xsu0 xab0 xco0 xdd0 xk0_0 xk1_0 xk2_0 xk3_0 xk5_0 "RuntimeError.__new__"))
    (e0c : PySem.W.findIn K (.ref C_Apart) "__setattr__" = some (some (.builtin "object.__setattr__")))
    (e0d0 : PySem.W.findIn K (.ref C_Apart) "name" = some none)
    (e0e : PySem.W.findIn K (.ref C_Apart) "__init__" = some (some (.ref xI0)))
    (e0f : PySem.W.typeIn K (.ref xI0) = some (.type "function"))
    (e0g : K.lookup xI0 = some ⟨xoc0, xod0, .func (ksFn "__init__" xqn0 (PX.iA [PX.aA "self" xp0_0, PX.aA "name" xp0_1]) [PX.sUp [.Name "name" xp0_7] xp0_2 xp0_3 xp0_4 xp0_5 xp0_6, PX.sFld "name" xp0_8 xp0_9 xp0_10 xp0_11] (PX.iS ["name"]) .none .none xdo0 xpm0 xan0 (.ref xda0) xct0 xcc0), xos0⟩)
    (e0h : PySem.W.codeIn K (.ref xda0) xqn0 = true)
    (e0i : fileB P K xda0 = true)
    (e0j : cellB K xcc0 C_Apart = true)
    (e0k : PySem.W.keepIn K (.ref C_Apart) = true)
    (e0l : PySem.W.subIn K (.ref C_Apart) (.type "BaseException") = some true)
    (e0m : PySem.W.typeIn K (.ref C_Apart) = some (.type "type"))
    (e0n : PX.UpOk ["name"] [.Name "name" xp0_7] xp0_2 xp0_3 xp0_4 xp0_5)
    (e0x : xhdB K C_Apart = true)
    {C_Broken : Addr}
    (e1a : PySem.W.nsIn K mainGlobals "Broken" = some (some (.ref C_Broken)))
    {xI1 xN1 xda1 xcc1 : Addr} {xnm1 xq1 xqn1 : Str} {xbs1 xsu1 : List Value} {xsn1 : List Str} {xab1 : Bool} {xco1 : Option Bool} {xdd1 xod1 xan1 : Option Addr} {xk0_1 xk1_1 xk2_1 xk3_1 xk5_1 : Option Value} {xoc1 xdo1 xpm1 xct1 : Value} {xos1 : Array (Option Value)}
    {xp1_0 xp1_1 xp1_2 xp1_3 xp1_4 xp1_5 xp1_6 xp1_7 xp1_8 xp1_9 xp1_10 xp1_11 : Pos}
    (e1b : K.lookup C_Broken = some (excClassObj xnm1 xq1 C_Broken xN1 xbs1 [.type "RuntimeError", .type "Exception", .type "BaseException", .type "object"] true xsn1 xsu1 xab1 xco1 xdd1 xk0_1 xk1_1 xk2_1 xk3_1 xk5_1 "RuntimeError.__new__"))
    (e1c : PySem.W.findIn K (.ref C_Broken) "__setattr__" = some (some (.builtin "object.__setattr__")))
    (e1d0 : PySem.W.findIn K (.ref C_Broken) "name" = some none)
    (e1e : PySem.W.findIn K (.ref C_Broken) "__init__" = some (some (.ref xI1)))
    (e1f : PySem.W.typeIn K (.ref xI1) = some (.type "function"))
    (e1g : K.lookup xI1 = some ⟨xoc1, xod1, .func (ksFn "__init__" xqn1 (PX.iA [PX.aA "self" xp1_0, PX.aA "name" xp1_1]) [PX.sUp [.Name "name" xp1_7] xp1_2 xp1_3 xp1_4 xp1_5 xp1_6, PX.sFld "name" xp1_8 xp1_9 xp1_10 xp1_11] (PX.iS ["name"]) .none .none xdo1 xpm1 xan1 (.ref xda1) xct1 xcc1), xos1⟩)
    (e1h : PySem.W.codeIn K (.ref xda1) xqn1 = true)
    (e1i : fileB P K xda1 = true)
    (e1j : cellB K xcc1 C_Broken = true)
    (e1k : PySem.W.keepIn K (.ref C_Broken) = true)
    (e1l : PySem.W.subIn K (.ref C_Broken) (.type "BaseException") = some true)
    (e1m : PySem.W.typeIn K (.ref C_Broken) = some (.type "type"))
    (e1n : PX.UpOk ["name"] [.Name "name" xp1_7] xp1_2 xp1_3 xp1_4 xp1_5)
    (e1x : xhdB K C_Broken = true)
    {C_Clash : Addr}
    (e2a : PySem.W.nsIn K mainGlobals "Clash" = some (some (.ref C_Clash)))
    {xI2 xN2 xda2 xcc2 : Addr} {xnm2 xq2 xqn2 : Str} {xbs2 xsu2 : List Value} {xsn2 : List Str} {xab2 : Bool} {xco2 : Option Bool} {xdd2 xod2 xan2 : Option Addr} {xk0_2 xk1_2 xk2_2 xk3_2 xk5_2 : Option Value} {xoc2 xdo2 xpm2 xct2 : Value} {xos2 : Array (Option Value)}
    {xp2_0 xp2_1 xp2_2 xp2_3 xp2_4 xp2_5 xp2_6 xp2_7 xp2_8 xp2_9 xp2_10 xp2_11 xp2_12 xp2_13 xp2_14 xp2_15 xp2_16 xp2_17 : Pos}
    (e2b : K.lookup C_Clash = some (excClassObj xnm2 xq2 C_Clash xN2 xbs2 [.type "RuntimeError", .type "Exception", .type "BaseException", .type "object"] true xsn2 xsu2 xab2 xco2 xdd2 xk0_2 xk1_2 xk2_2 xk3_2 xk5_2 "RuntimeError.__new__"))
    (e2c : PySem.W.findIn K (.ref C_Clash) "__setattr__" = some (some (.builtin "object.__setattr__")))
    (e2d0 : PySem.W.findIn K (.ref C_Clash) "hand" = some none)
    (e2d1 : PySem.W.findIn K (.ref C_Clash) "other" = some none)
    (e2e : PySem.W.findIn K (.ref C_Clash) "__init__" = some (some (.ref xI2)))
    (e2f : PySem.W.typeIn K (.ref xI2) = some (.type "function"))
    (e2g : K.lookup xI2 = some ⟨xoc2, xod2, .func (ksFn "__init__" xqn2 (PX.iA [PX.aA "self" xp2_0, PX.aA "hand" xp2_1, PX.aA "other" xp2_2]) [PX.sUp [.Name "hand" xp2_8, .Name "other" xp2_9] xp2_3 xp2_4 xp2_5 xp2_6 xp2_7, PX.sFld "hand" xp2_10 xp2_11 xp2_12 xp2_13, PX.sFld "other" xp2_14 xp2_15 xp2_16 xp2_17] (PX.iS ["hand", "other"]) .none .none xdo2 xpm2 xan2 (.ref xda2) xct2 xcc2), xos2⟩)
    (e2h : PySem.W.codeIn K (.ref xda2) xqn2 = true)
    (e2i : fileB P K xda2 = true)
    (e2j : cellB K xcc2 C_Clash = true)
    (e2k : PySem.W.keepIn K (.ref C_Clash) = true)
    (e2l : PySem.W.subIn K (.ref C_Clash) (.type "BaseException") = some true)
    (e2m : PySem.W.typeIn K (.ref C_Clash) = some (.type "type"))
    (e2n : PX.UpOk ["hand", "other"] [.Name "hand" xp2_8, .Name "other" xp2_9] xp2_3 xp2_4 xp2_5 xp2_6)
    (e2x : xhdB K C_Clash = true)
    {C_FileNotRight : Addr}
    (e3a : PySem.W.nsIn K mainGlobals "FileNotRight" = some (some (.ref C_FileNotRight)))
    {xI3 xN3 xda3 xcc3 : Addr} {xnm3 xq3 xqn3 : Str} {xbs3 xsu3 : List Value} {xsn3 : List Str} {xab3 : Bool} {xco3 : Option Bool} {xdd3 xod3 xan3 : Option Addr} {xk0_3 xk1_3 xk2_3 xk3_3 xk5_3 : Option Value} {xoc3 xdo3 xpm3 xct3 : Value} {xos3 : Array (Option Value)}
    {xp3_0 xp3_1 xp3_2 xp3_3 xp3_4 xp3_5 xp3_6 xp3_7 xp3_8 xp3_9 xp3_10 xp3_11 xp3_12 xp3_13 xp3_14 xp3_15 xp3_16 xp3_17 : Pos}
    (e3b : K.lookup C_FileNotRight = some (excClassObj xnm3 xq3 C_FileNotRight xN3 xbs3 [.type "RuntimeError", .type "Exception", .type "BaseException", .type "object"] true xsn3 xsu3 xab3 xco3 xdd3 xk0_3 xk1_3 xk2_3 xk3_3 xk5_3 "RuntimeError.__new__"))
    (e3c : PySem.W.findIn K (.ref C_FileNotRight) "__setattr__" = some (some (.builtin "object.__setattr__")))
    (e3d0 : PySem.W.findIn K (.ref C_FileNotRight) "name" = some none)
    (e3d1 : PySem.W.findIn K (.ref C_FileNotRight) "index" = some none)
    (e3e : PySem.W.findIn K (.ref C_FileNotRight) "__init__" = some (some (.ref xI3)))
    (e3f : PySem.W.typeIn K (.ref xI3) = some (.type "function"))
    (e3g : K.lookup xI3 = some ⟨xoc3, xod3, .func (ksFn "__init__" xqn3 (PX.iA [PX.aA "self" xp3_0, PX.aA "name" xp3_1, PX.aA "index" xp3_2]) [PX.sUp [.Name "name" xp3_8, .Name "index" xp3_9] xp3_3 xp3_4 xp3_5 xp3_6 xp3_7, PX.sFld "name" xp3_10 xp3_11 xp3_12 xp3_13, PX.sFld "index" xp3_14 xp3_15 xp3_16 xp3_17] (PX.iS ["name", "index"]) .none .none xdo3 xpm3 xan3 (.ref xda3) xct3 xcc3), xos3⟩)
    (e3h : PySem.W.codeIn K (.ref xda3) xqn3 = true)
    (e3i : fileB P K xda3 = true)
    (e3j : cellB K xcc3 C_FileNotRight = true)
    (e3k : PySem.W.keepIn K (.ref C_FileNotRight) = true)
    (e3l : PySem.W.subIn K (.ref C_FileNotRight) (.type "BaseException") = some true)
    (e3m : PySem.W.typeIn K (.ref C_FileNotRight) = some (.type "type"))
    (e3n : PX.UpOk ["name", "index"] [.Name "name" xp3_8, .Name "index" xp3_9] xp3_3 xp3_4 xp3_5 xp3_6)
    (e3x : xhdB K C_FileNotRight = true)
    {C_InvalidChange : Addr}
    (e4a : PySem.W.nsIn K mainGlobals "InvalidChange" = some (some (.ref C_InvalidChange)))
    {xI4 xN4 xda4 xcc4 : Addr} {xnm4 xq4 xqn4 : Str} {xbs4 xsu4 : List Value} {xsn4 : List Str} {xab4 : Bool} {xco4 : Option Bool} {xdd4 xod4 xan4 : Option Addr} {xk0_4 xk1_4 xk2_4 xk3_4 xk5_4 : Option Value} {xoc4 xdo4 xpm4 xct4 : Value} {xos4 : Array (Option Value)}
    {xp4_0 xp4_1 xp4_2 xp4_3 xp4_4 xp4_5 xp4_6 xp4_7 xp4_8 xp4_9 xp4_10 xp4_11 : Pos}
    (e4b : K.lookup C_InvalidChange = some (excClassObj xnm4 xq4 C_InvalidChange xN4 xbs4 [.type "ValueError", .type "Exception", .type "BaseException", .type "object"] true xsn4 xsu4 xab4 xco4 xdd4 xk0_4 xk1_4 xk2_4 xk3_4 xk5_4 "ValueError.__new__"))
    (e4c : PySem.W.findIn K (.ref C_InvalidChange) "__setattr__" = some (some (.builtin "object.__setattr__")))
    (e4d0 : PySem.W.findIn K (.ref C_InvalidChange) "index" = some none)
    (e4e : PySem.W.findIn K (.ref C_InvalidChange) "__init__" = some (some (.ref xI4)))
    (e4f : PySem.W.typeIn K (.ref xI4) = some (.type "function"))
    (e4g : K.lookup xI4 = some ⟨xoc4, xod4, .func (ksFn "__init__" xqn4 (PX.iA [PX.aA "self" xp4_0, PX.aA "index" xp4_1]) [PX.sUp [.Name "index" xp4_7] xp4_2 xp4_3 xp4_4 xp4_5 xp4_6, PX.sFld "index" xp4_8 xp4_9 xp4_10 xp4_11] (PX.iS ["index"]) .none .none xdo4 xpm4 xan4 (.ref xda4) xct4 xcc4), xos4⟩)
    (e4h : PySem.W.codeIn K (.ref xda4) xqn4 = true)
    (e4i : fileB P K xda4 = true)
    (e4j : cellB K xcc4 C_InvalidChange = true)
    (e4k : PySem.W.keepIn K (.ref C_InvalidChange) = true)
    (e4l : PySem.W.subIn K (.ref C_InvalidChange) (.type "BaseException") = some true)
    (e4m : PySem.W.typeIn K (.ref C_InvalidChange) = some (.type "type"))
    (e4n : PX.UpOk ["index"] [.Name "index" xp4_7] xp4_2 xp4_3 xp4_4 xp4_5)
    (e4x : xhdB K C_InvalidChange = true)
    {C_InvalidCount : Addr}
    (e5a : PySem.W.nsIn K mainGlobals "InvalidCount" = some (some (.ref C_InvalidCount)))
    {xI5 xN5 xda5 xcc5 : Addr} {xnm5 xq5 xqn5 : Str} {xbs5 xsu5 : List Value} {xsn5 : List Str} {xab5 : Bool} {xco5 : Option Bool} {xdd5 xod5 xan5 : Option Addr} {xk0_5 xk1_5 xk2_5 xk3_5 xk5_5 : Option Value} {xoc5 xdo5 xpm5 xct5 : Value} {xos5 : Array (Option Value)}
    {xp5_0 xp5_1 xp5_2 xp5_3 xp5_4 xp5_5 xp5_6 xp5_7 xp5_8 xp5_9 xp5_10 xp5_11 : Pos}
    (e5b : K.lookup C_InvalidCount = some (excClassObj xnm5 xq5 C_InvalidCount xN5 xbs5 [.type "ValueError", .type "Exception", .type "BaseException", .type "object"] true xsn5 xsu5 xab5 xco5 xdd5 xk0_5 xk1_5 xk2_5 xk3_5 xk5_5 "ValueError.__new__"))
    (e5c : PySem.W.findIn K (.ref C_InvalidCount) "__setattr__" = some (some (.builtin "object.__setattr__")))
    (e5d0 : PySem.W.findIn K (.ref C_InvalidCount) "value" = some none)
    (e5e : PySem.W.findIn K (.ref C_InvalidCount) "__init__" = some (some (.ref xI5)))
    (e5f : PySem.W.typeIn K (.ref xI5) = some (.type "function"))
    (e5g : K.lookup xI5 = some ⟨xoc5, xod5, .func (ksFn "__init__" xqn5 (PX.iA [PX.aA "self" xp5_0, PX.aA "value" xp5_1]) [PX.sUp [.Name "value" xp5_7] xp5_2 xp5_3 xp5_4 xp5_5 xp5_6, PX.sFld "value" xp5_8 xp5_9 xp5_10 xp5_11] (PX.iS ["value"]) .none .none xdo5 xpm5 xan5 (.ref xda5) xct5 xcc5), xos5⟩)
    (e5h : PySem.W.codeIn K (.ref xda5) xqn5 = true)
    (e5i : fileB P K xda5 = true)
    (e5j : cellB K xcc5 C_InvalidCount = true)
    (e5k : PySem.W.keepIn K (.ref C_InvalidCount) = true)
    (e5l : PySem.W.subIn K (.ref C_InvalidCount) (.type "BaseException") = some true)
    (e5m : PySem.W.typeIn K (.ref C_InvalidCount) = some (.type "type"))
    (e5n : PX.UpOk ["value"] [.Name "value" xp5_7] xp5_2 xp5_3 xp5_4 xp5_5)
    (e5x : xhdB K C_InvalidCount = true)
    {C_InvalidEdit : Addr}
    (e6a : PySem.W.nsIn K mainGlobals "InvalidEdit" = some (some (.ref C_InvalidEdit)))
    {xI6 xN6 xda6 xcc6 : Addr} {xnm6 xq6 xqn6 : Str} {xbs6 xsu6 : List Value} {xsn6 : List Str} {xab6 : Bool} {xco6 : Option Bool} {xdd6 xod6 xan6 : Option Addr} {xk0_6 xk1_6 xk2_6 xk3_6 xk5_6 : Option Value} {xoc6 xdo6 xpm6 xct6 : Value} {xos6 : Array (Option Value)}
    {xp6_0 xp6_1 xp6_2 xp6_3 xp6_4 xp6_5 xp6_6 xp6_7 xp6_8 xp6_9 xp6_10 xp6_11 : Pos}
    (e6b : K.lookup C_InvalidEdit = some (excClassObj xnm6 xq6 C_InvalidEdit xN6 xbs6 [.type "ValueError", .type "Exception", .type "BaseException", .type "object"] true xsn6 xsu6 xab6 xco6 xdd6 xk0_6 xk1_6 xk2_6 xk3_6 xk5_6 "ValueError.__new__"))
    (e6c : PySem.W.findIn K (.ref C_InvalidEdit) "__setattr__" = some (some (.builtin "object.__setattr__")))
    (e6d0 : PySem.W.findIn K (.ref C_InvalidEdit) "index" = some none)
    (e6e : PySem.W.findIn K (.ref C_InvalidEdit) "__init__" = some (some (.ref xI6)))
    (e6f : PySem.W.typeIn K (.ref xI6) = some (.type "function"))
    (e6g : K.lookup xI6 = some ⟨xoc6, xod6, .func (ksFn "__init__" xqn6 (PX.iA [PX.aA "self" xp6_0, PX.aA "index" xp6_1]) [PX.sUp [.Name "index" xp6_7] xp6_2 xp6_3 xp6_4 xp6_5 xp6_6, PX.sFld "index" xp6_8 xp6_9 xp6_10 xp6_11] (PX.iS ["index"]) .none .none xdo6 xpm6 xan6 (.ref xda6) xct6 xcc6), xos6⟩)
    (e6h : PySem.W.codeIn K (.ref xda6) xqn6 = true)
    (e6i : fileB P K xda6 = true)
    (e6j : cellB K xcc6 C_InvalidEdit = true)
    (e6k : PySem.W.keepIn K (.ref C_InvalidEdit) = true)
    (e6l : PySem.W.subIn K (.ref C_InvalidEdit) (.type "BaseException") = some true)
    (e6m : PySem.W.typeIn K (.ref C_InvalidEdit) = some (.type "type"))
    (e6n : PX.UpOk ["index"] [.Name "index" xp6_7] xp6_2 xp6_3 xp6_4 xp6_5)
    (e6x : xhdB K C_InvalidEdit = true)
    {C_InvalidFiles : Addr}
    (e7a : PySem.W.nsIn K mainGlobals "InvalidFiles" = some (some (.ref C_InvalidFiles)))
    {xI7 xN7 xda7 xcc7 : Addr} {xnm7 xq7 xqn7 : Str} {xbs7 xsu7 : List Value} {xsn7 : List Str} {xab7 : Bool} {xco7 : Option Bool} {xdd7 xod7 xan7 : Option Addr} {xk0_7 xk1_7 xk2_7 xk3_7 xk5_7 : Option Value} {xoc7 xdo7 xpm7 xct7 : Value} {xos7 : Array (Option Value)}
    {xp7_0 xp7_1 xp7_2 xp7_3 xp7_4 xp7_5 xp7_6 xp7_7 xp7_8 xp7_9 xp7_10 xp7_11 : Pos}
    (e7b : K.lookup C_InvalidFiles = some (excClassObj xnm7 xq7 C_InvalidFiles xN7 xbs7 [.type "ValueError", .type "Exception", .type "BaseException", .type "object"] true xsn7 xsu7 xab7 xco7 xdd7 xk0_7 xk1_7 xk2_7 xk3_7 xk5_7 "ValueError.__new__"))
    (e7c : PySem.W.findIn K (.ref C_InvalidFiles) "__setattr__" = some (some (.builtin "object.__setattr__")))
    (e7d0 : PySem.W.findIn K (.ref C_InvalidFiles) "value" = some none)
    (e7e : PySem.W.findIn K (.ref C_InvalidFiles) "__init__" = some (some (.ref xI7)))
    (e7f : PySem.W.typeIn K (.ref xI7) = some (.type "function"))
    (e7g : K.lookup xI7 = some ⟨xoc7, xod7, .func (ksFn "__init__" xqn7 (PX.iA [PX.aA "self" xp7_0, PX.aA "value" xp7_1]) [PX.sUp [.Name "value" xp7_7] xp7_2 xp7_3 xp7_4 xp7_5 xp7_6, PX.sFld "value" xp7_8 xp7_9 xp7_10 xp7_11] (PX.iS ["value"]) .none .none xdo7 xpm7 xan7 (.ref xda7) xct7 xcc7), xos7⟩)
    (e7h : PySem.W.codeIn K (.ref xda7) xqn7 = true)
    (e7i : fileB P K xda7 = true)
    (e7j : cellB K xcc7 C_InvalidFiles = true)
    (e7k : PySem.W.keepIn K (.ref C_InvalidFiles) = true)
    (e7l : PySem.W.subIn K (.ref C_InvalidFiles) (.type "BaseException") = some true)
    (e7m : PySem.W.typeIn K (.ref C_InvalidFiles) = some (.type "type"))
    (e7n : PX.UpOk ["value"] [.Name "value" xp7_7] xp7_2 xp7_3 xp7_4 xp7_5)
    (e7x : xhdB K C_InvalidFiles = true)
    {C_InvalidHand : Addr}
    (e8a : PySem.W.nsIn K mainGlobals "InvalidHand" = some (some (.ref C_InvalidHand)))
    {xI8 xN8 xda8 xcc8 : Addr} {xnm8 xq8 xqn8 : Str} {xbs8 xsu8 : List Value} {xsn8 : List Str} {xab8 : Bool} {xco8 : Option Bool} {xdd8 xod8 xan8 : Option Addr} {xk0_8 xk1_8 xk2_8 xk3_8 xk5_8 : Option Value} {xoc8 xdo8 xpm8 xct8 : Value} {xos8 : Array (Option Value)}
    {xp8_0 xp8_1 xp8_2 xp8_3 xp8_4 xp8_5 xp8_6 xp8_7 xp8_8 xp8_9 xp8_10 xp8_11 : Pos}
    (e8b : K.lookup C_InvalidHand = some (excClassObj xnm8 xq8 C_InvalidHand xN8 xbs8 [.type "ValueError", .type "Exception", .type "BaseException", .type "object"] true xsn8 xsu8 xab8 xco8 xdd8 xk0_8 xk1_8 xk2_8 xk3_8 xk5_8 "ValueError.__new__"))
    (e8c : PySem.W.findIn K (.ref C_InvalidHand) "__setattr__" = some (some (.builtin "object.__setattr__")))
    (e8d0 : PySem.W.findIn K (.ref C_InvalidHand) "value" = some none)
    (e8e : PySem.W.findIn K (.ref C_InvalidHand) "__init__" = some (some (.ref xI8)))
    (e8f : PySem.W.typeIn K (.ref xI8) = some (.type "function"))
    (e8g : K.lookup xI8 = some ⟨xoc8, xod8, .func (ksFn "__init__" xqn8 (PX.iA [PX.aA "self" xp8_0, PX.aA "value" xp8_1]) [PX.sUp [.Name "value" xp8_7] xp8_2 xp8_3 xp8_4 xp8_5 xp8_6, PX.sFld "value" xp8_8 xp8_9 xp8_10 xp8_11] (PX.iS ["value"]) .none .none xdo8 xpm8 xan8 (.ref xda8) xct8 xcc8), xos8⟩)
    (e8h : PySem.W.codeIn K (.ref xda8) xqn8 = true)
    (e8i : fileB P K xda8 = true)
    (e8j : cellB K xcc8 C_InvalidHand = true)
    (e8k : PySem.W.keepIn K (.ref C_InvalidHand) = true)
    (e8l : PySem.W.subIn K (.ref C_InvalidHand) (.type "BaseException") = some true)
    (e8m : PySem.W.typeIn K (.ref C_InvalidHand) = some (.type "type"))
    (e8n : PX.UpOk ["value"] [.Name "value" xp8_7] xp8_2 xp8_3 xp8_4 xp8_5)
    (e8x : xhdB K C_InvalidHand = true)
    {C_InvalidName : Addr}
    (e9a : PySem.W.nsIn K mainGlobals "InvalidName" = some (some (.ref C_InvalidName)))
    {xI9 xN9 xda9 xcc9 : Addr} {xnm9 xq9 xqn9 : Str} {xbs9 xsu9 : List Value} {xsn9 : List Str} {xab9 : Bool} {xco9 : Option Bool} {xdd9 xod9 xan9 : Option Addr} {xk0_9 xk1_9 xk2_9 xk3_9 xk5_9 : Option Value} {xoc9 xdo9 xpm9 xct9 : Value} {xos9 : Array (Option Value)}
    {xp9_0 xp9_1 xp9_2 xp9_3 xp9_4 xp9_5 xp9_6 xp9_7 xp9_8 xp9_9 xp9_10 xp9_11 : Pos}
    (e9b : K.lookup C_InvalidName = some (excClassObj xnm9 xq9 C_InvalidName xN9 xbs9 [.type "ValueError", .type "Exception", .type "BaseException", .type "object"] true xsn9 xsu9 xab9 xco9 xdd9 xk0_9 xk1_9 xk2_9 xk3_9 xk5_9 "ValueError.__new__"))
    (e9c : PySem.W.findIn K (.ref C_InvalidName) "__setattr__" = some (some (.builtin "object.__setattr__")))
    (e9d0 : PySem.W.findIn K (.ref C_InvalidName) "value" = some none)
    (e9e : PySem.W.findIn K (.ref C_InvalidName) "__init__" = some (some (.ref xI9)))
    (e9f : PySem.W.typeIn K (.ref xI9) = some (.type "function"))
    (e9g : K.lookup xI9 = some ⟨xoc9, xod9, .func (ksFn "__init__" xqn9 (PX.iA [PX.aA "self" xp9_0, PX.aA "value" xp9_1]) [PX.sUp [.Name "value" xp9_7] xp9_2 xp9_3 xp9_4 xp9_5 xp9_6, PX.sFld "value" xp9_8 xp9_9 xp9_10 xp9_11] (PX.iS ["value"]) .none .none xdo9 xpm9 xan9 (.ref xda9) xct9 xcc9), xos9⟩)
    (e9h : PySem.W.codeIn K (.ref xda9) xqn9 = true)
    (e9i : fileB P K xda9 = true)
    (e9j : cellB K xcc9 C_InvalidName = true)
    (e9k : PySem.W.keepIn K (.ref C_InvalidName) = true)
    (e9l : PySem.W.subIn K (.ref C_InvalidName) (.type "BaseException") = some true)
    (e9m : PySem.W.typeIn K (.ref C_InvalidName) = some (.type "type"))
    (e9n : PX.UpOk ["value"] [.Name "value" xp9_7] xp9_2 xp9_3 xp9_4 xp9_5)
    (e9x : xhdB K C_InvalidName = true)
    {C_InvalidNew : Addr}
    (e10a : PySem.W.nsIn K mainGlobals "InvalidNew" = some (some (.ref C_InvalidNew)))
    {xI10 xN10 xda10 xcc10 : Addr} {xnm10 xq10 xqn10 : Str} {xbs10 xsu10 : List Value} {xsn10 : List Str} {xab10 : Bool} {xco10 : Option Bool} {xdd10 xod10 xan10 : Option Addr} {xk0_10 xk1_10 xk2_10 xk3_10 xk5_10 : Option Value} {xoc10 xdo10 xpm10 xct10 : Value} {xos10 : Array (Option Value)}
    {xp10_0 xp10_1 xp10_2 xp10_3 xp10_4 xp10_5 xp10_6 xp10_7 xp10_8 xp10_9 xp10_10 xp10_11 : Pos}
    (e10b : K.lookup C_InvalidNew = some (excClassObj xnm10 xq10 C_InvalidNew xN10 xbs10 [.type "ValueError", .type "Exception", .type "BaseException", .type "object"] true xsn10 xsu10 xab10 xco10 xdd10 xk0_10 xk1_10 xk2_10 xk3_10 xk5_10 "ValueError.__new__"))
    (e10c : PySem.W.findIn K (.ref C_InvalidNew) "__setattr__" = some (some (.builtin "object.__setattr__")))
    (e10d0 : PySem.W.findIn K (.ref C_InvalidNew) "value" = some none)
    (e10e : PySem.W.findIn K (.ref C_InvalidNew) "__init__" = some (some (.ref xI10)))
    (e10f : PySem.W.typeIn K (.ref xI10) = some (.type "function"))
    (e10g : K.lookup xI10 = some ⟨xoc10, xod10, .func (ksFn "__init__" xqn10 (PX.iA [PX.aA "self" xp10_0, PX.aA "value" xp10_1]) [PX.sUp [.Name "value" xp10_7] xp10_2 xp10_3 xp10_4 xp10_5 xp10_6, PX.sFld "value" xp10_8 xp10_9 xp10_10 xp10_11] (PX.iS ["value"]) .none .none xdo10 xpm10 xan10 (.ref xda10) xct10 xcc10), xos10⟩)
    (e10h : PySem.W.codeIn K (.ref xda10) xqn10 = true)
    (e10i : fileB P K xda10 = true)
    (e10j : cellB K xcc10 C_InvalidNew = true)
    (e10k : PySem.W.keepIn K (.ref C_InvalidNew) = true)
    (e10l : PySem.W.subIn K (.ref C_InvalidNew) (.type "BaseException") = some true)
    (e10m : PySem.W.typeIn K (.ref C_InvalidNew) = some (.type "type"))
    (e10n : PX.UpOk ["value"] [.Name "value" xp10_7] xp10_2 xp10_3 xp10_4 xp10_5)
    (e10x : xhdB K C_InvalidNew = true)
    {C_InvalidOld : Addr}
    (e11a : PySem.W.nsIn K mainGlobals "InvalidOld" = some (some (.ref C_InvalidOld)))
    {xI11 xN11 xda11 xcc11 : Addr} {xnm11 xq11 xqn11 : Str} {xbs11 xsu11 : List Value} {xsn11 : List Str} {xab11 : Bool} {xco11 : Option Bool} {xdd11 xod11 xan11 : Option Addr} {xk0_11 xk1_11 xk2_11 xk3_11 xk5_11 : Option Value} {xoc11 xdo11 xpm11 xct11 : Value} {xos11 : Array (Option Value)}
    {xp11_0 xp11_1 xp11_2 xp11_3 xp11_4 xp11_5 xp11_6 xp11_7 xp11_8 xp11_9 xp11_10 xp11_11 : Pos}
    (e11b : K.lookup C_InvalidOld = some (excClassObj xnm11 xq11 C_InvalidOld xN11 xbs11 [.type "ValueError", .type "Exception", .type "BaseException", .type "object"] true xsn11 xsu11 xab11 xco11 xdd11 xk0_11 xk1_11 xk2_11 xk3_11 xk5_11 "ValueError.__new__"))
    (e11c : PySem.W.findIn K (.ref C_InvalidOld) "__setattr__" = some (some (.builtin "object.__setattr__")))
    (e11d0 : PySem.W.findIn K (.ref C_InvalidOld) "value" = some none)
    (e11e : PySem.W.findIn K (.ref C_InvalidOld) "__init__" = some (some (.ref xI11)))
    (e11f : PySem.W.typeIn K (.ref xI11) = some (.type "function"))
    (e11g : K.lookup xI11 = some ⟨xoc11, xod11, .func (ksFn "__init__" xqn11 (PX.iA [PX.aA "self" xp11_0, PX.aA "value" xp11_1]) [PX.sUp [.Name "value" xp11_7] xp11_2 xp11_3 xp11_4 xp11_5 xp11_6, PX.sFld "value" xp11_8 xp11_9 xp11_10 xp11_11] (PX.iS ["value"]) .none .none xdo11 xpm11 xan11 (.ref xda11) xct11 xcc11), xos11⟩)
    (e11h : PySem.W.codeIn K (.ref xda11) xqn11 = true)
    (e11i : fileB P K xda11 = true)
    (e11j : cellB K xcc11 C_InvalidOld = true)
    (e11k : PySem.W.keepIn K (.ref C_InvalidOld) = true)
    (e11l : PySem.W.subIn K (.ref C_InvalidOld) (.type "BaseException") = some true)
    (e11m : PySem.W.typeIn K (.ref C_InvalidOld) = some (.type "type"))
    (e11n : PX.UpOk ["value"] [.Name "value" xp11_7] xp11_2 xp11_3 xp11_4 xp11_5)
    (e11x : xhdB K C_InvalidOld = true)
    {C_InvalidPart : Addr}
    (e12a : PySem.W.nsIn K mainGlobals "InvalidPart" = some (some (.ref C_InvalidPart)))
    {xI12 xN12 xda12 xcc12 : Addr} {xnm12 xq12 xqn12 : Str} {xbs12 xsu12 : List Value} {xsn12 : List Str} {xab12 : Bool} {xco12 : Option Bool} {xdd12 xod12 xan12 : Option Addr} {xk0_12 xk1_12 xk2_12 xk3_12 xk5_12 : Option Value} {xoc12 xdo12 xpm12 xct12 : Value} {xos12 : Array (Option Value)}
    {xp12_0 xp12_1 xp12_2 xp12_3 xp12_4 xp12_5 xp12_6 xp12_7 xp12_8 xp12_9 xp12_10 xp12_11 : Pos}
    (e12b : K.lookup C_InvalidPart = some (excClassObj xnm12 xq12 C_InvalidPart xN12 xbs12 [.type "ValueError", .type "Exception", .type "BaseException", .type "object"] true xsn12 xsu12 xab12 xco12 xdd12 xk0_12 xk1_12 xk2_12 xk3_12 xk5_12 "ValueError.__new__"))
    (e12c : PySem.W.findIn K (.ref C_InvalidPart) "__setattr__" = some (some (.builtin "object.__setattr__")))
    (e12d0 : PySem.W.findIn K (.ref C_InvalidPart) "index" = some none)
    (e12e : PySem.W.findIn K (.ref C_InvalidPart) "__init__" = some (some (.ref xI12)))
    (e12f : PySem.W.typeIn K (.ref xI12) = some (.type "function"))
    (e12g : K.lookup xI12 = some ⟨xoc12, xod12, .func (ksFn "__init__" xqn12 (PX.iA [PX.aA "self" xp12_0, PX.aA "index" xp12_1]) [PX.sUp [.Name "index" xp12_7] xp12_2 xp12_3 xp12_4 xp12_5 xp12_6, PX.sFld "index" xp12_8 xp12_9 xp12_10 xp12_11] (PX.iS ["index"]) .none .none xdo12 xpm12 xan12 (.ref xda12) xct12 xcc12), xos12⟩)
    (e12h : PySem.W.codeIn K (.ref xda12) xqn12 = true)
    (e12i : fileB P K xda12 = true)
    (e12j : cellB K xcc12 C_InvalidPart = true)
    (e12k : PySem.W.keepIn K (.ref C_InvalidPart) = true)
    (e12l : PySem.W.subIn K (.ref C_InvalidPart) (.type "BaseException") = some true)
    (e12m : PySem.W.typeIn K (.ref C_InvalidPart) = some (.type "type"))
    (e12n : PX.UpOk ["index"] [.Name "index" xp12_7] xp12_2 xp12_3 xp12_4 xp12_5)
    (e12x : xhdB K C_InvalidPart = true)
    {C_InvalidProgram : Addr}
    (e13a : PySem.W.nsIn K mainGlobals "InvalidProgram" = some (some (.ref C_InvalidProgram)))
    {xI13 xN13 xda13 xcc13 : Addr} {xnm13 xq13 xqn13 : Str} {xbs13 xsu13 : List Value} {xsn13 : List Str} {xab13 : Bool} {xco13 : Option Bool} {xdd13 xod13 xan13 : Option Addr} {xk0_13 xk1_13 xk2_13 xk3_13 xk5_13 : Option Value} {xoc13 xdo13 xpm13 xct13 : Value} {xos13 : Array (Option Value)}
    {xp13_0 xp13_1 xp13_2 xp13_3 xp13_4 xp13_5 xp13_6 xp13_7 xp13_8 xp13_9 xp13_10 xp13_11 : Pos}
    (e13b : K.lookup C_InvalidProgram = some (excClassObj xnm13 xq13 C_InvalidProgram xN13 xbs13 [.type "ValueError", .type "Exception", .type "BaseException", .type "object"] true xsn13 xsu13 xab13 xco13 xdd13 xk0_13 xk1_13 xk2_13 xk3_13 xk5_13 "ValueError.__new__"))
    (e13c : PySem.W.findIn K (.ref C_InvalidProgram) "__setattr__" = some (some (.builtin "object.__setattr__")))
    (e13d0 : PySem.W.findIn K (.ref C_InvalidProgram) "index" = some none)
    (e13e : PySem.W.findIn K (.ref C_InvalidProgram) "__init__" = some (some (.ref xI13)))
    (e13f : PySem.W.typeIn K (.ref xI13) = some (.type "function"))
    (e13g : K.lookup xI13 = some ⟨xoc13, xod13, .func (ksFn "__init__" xqn13 (PX.iA [PX.aA "self" xp13_0, PX.aA "index" xp13_1]) [PX.sUp [.Name "index" xp13_7] xp13_2 xp13_3 xp13_4 xp13_5 xp13_6, PX.sFld "index" xp13_8 xp13_9 xp13_10 xp13_11] (PX.iS ["index"]) .none .none xdo13 xpm13 xan13 (.ref xda13) xct13 xcc13), xos13⟩)
    (e13h : PySem.W.codeIn K (.ref xda13) xqn13 = true)
    (e13i : fileB P K xda13 = true)
    (e13j : cellB K xcc13 C_InvalidProgram = true)
    (e13k : PySem.W.keepIn K (.ref C_InvalidProgram) = true)
    (e13l : PySem.W.subIn K (.ref C_InvalidProgram) (.type "BaseException") = some true)
    (e13m : PySem.W.typeIn K (.ref C_InvalidProgram) = some (.type "type"))
    (e13n : PX.UpOk ["index"] [.Name "index" xp13_7] xp13_2 xp13_3 xp13_4 xp13_5)
    (e13x : xhdB K C_InvalidProgram = true)
    {C_InvalidRow : Addr}
    (e14a : PySem.W.nsIn K mainGlobals "InvalidRow" = some (some (.ref C_InvalidRow)))
    {xI14 xN14 xda14 xcc14 : Addr} {xnm14 xq14 xqn14 : Str} {xbs14 xsu14 : List Value} {xsn14 : List Str} {xab14 : Bool} {xco14 : Option Bool} {xdd14 xod14 xan14 : Option Addr} {xk0_14 xk1_14 xk2_14 xk3_14 xk5_14 : Option Value} {xoc14 xdo14 xpm14 xct14 : Value} {xos14 : Array (Option Value)}
    {xp14_0 xp14_1 xp14_2 xp14_3 xp14_4 xp14_5 xp14_6 xp14_7 xp14_8 xp14_9 xp14_10 xp14_11 : Pos}
    (e14b : K.lookup C_InvalidRow = some (excClassObj xnm14 xq14 C_InvalidRow xN14 xbs14 [.type "ValueError", .type "Exception", .type "BaseException", .type "object"] true xsn14 xsu14 xab14 xco14 xdd14 xk0_14 xk1_14 xk2_14 xk3_14 xk5_14 "ValueError.__new__"))
    (e14c : PySem.W.findIn K (.ref C_InvalidRow) "__setattr__" = some (some (.builtin "object.__setattr__")))
    (e14d0 : PySem.W.findIn K (.ref C_InvalidRow) "row" = some none)
    (e14e : PySem.W.findIn K (.ref C_InvalidRow) "__init__" = some (some (.ref xI14)))
    (e14f : PySem.W.typeIn K (.ref xI14) = some (.type "function"))
    (e14g : K.lookup xI14 = some ⟨xoc14, xod14, .func (ksFn "__init__" xqn14 (PX.iA [PX.aA "self" xp14_0, PX.aA "row" xp14_1]) [PX.sUp [.Name "row" xp14_7] xp14_2 xp14_3 xp14_4 xp14_5 xp14_6, PX.sFld "row" xp14_8 xp14_9 xp14_10 xp14_11] (PX.iS ["row"]) .none .none xdo14 xpm14 xan14 (.ref xda14) xct14 xcc14), xos14⟩)
    (e14h : PySem.W.codeIn K (.ref xda14) xqn14 = true)
    (e14i : fileB P K xda14 = true)
    (e14j : cellB K xcc14 C_InvalidRow = true)
    (e14k : PySem.W.keepIn K (.ref C_InvalidRow) = true)
    (e14l : PySem.W.subIn K (.ref C_InvalidRow) (.type "BaseException") = some true)
    (e14m : PySem.W.typeIn K (.ref C_InvalidRow) = some (.type "type"))
    (e14n : PX.UpOk ["row"] [.Name "row" xp14_7] xp14_2 xp14_3 xp14_4 xp14_5)
    (e14x : xhdB K C_InvalidRow = true)
    {C_InvalidRun : Addr}
    (e15a : PySem.W.nsIn K mainGlobals "InvalidRun" = some (some (.ref C_InvalidRun)))
    {xI15 xN15 xda15 xcc15 : Addr} {xnm15 xq15 xqn15 : Str} {xbs15 xsu15 : List Value} {xsn15 : List Str} {xab15 : Bool} {xco15 : Option Bool} {xdd15 xod15 xan15 : Option Addr} {xk0_15 xk1_15 xk2_15 xk3_15 xk5_15 : Option Value} {xoc15 xdo15 xpm15 xct15 : Value} {xos15 : Array (Option Value)}
    {xp15_0 xp15_1 xp15_2 xp15_3 xp15_4 xp15_5 xp15_6 xp15_7 xp15_8 xp15_9 xp15_10 xp15_11 : Pos}
    (e15b : K.lookup C_InvalidRun = some (excClassObj xnm15 xq15 C_InvalidRun xN15 xbs15 [.type "ValueError", .type "Exception", .type "BaseException", .type "object"] true xsn15 xsu15 xab15 xco15 xdd15 xk0_15 xk1_15 xk2_15 xk3_15 xk5_15 "ValueError.__new__"))
    (e15c : PySem.W.findIn K (.ref C_InvalidRun) "__setattr__" = some (some (.builtin "object.__setattr__")))
    (e15d0 : PySem.W.findIn K (.ref C_InvalidRun) "index" = some none)
    (e15e : PySem.W.findIn K (.ref C_InvalidRun) "__init__" = some (some (.ref xI15)))
    (e15f : PySem.W.typeIn K (.ref xI15) = some (.type "function"))
    (e15g : K.lookup xI15 = some ⟨xoc15, xod15, .func (ksFn "__init__" xqn15 (PX.iA [PX.aA "self" xp15_0, PX.aA "index" xp15_1]) [PX.sUp [.Name "index" xp15_7] xp15_2 xp15_3 xp15_4 xp15_5 xp15_6, PX.sFld "index" xp15_8 xp15_9 xp15_10 xp15_11] (PX.iS ["index"]) .none .none xdo15 xpm15 xan15 (.ref xda15) xct15 xcc15), xos15⟩)
    (e15h : PySem.W.codeIn K (.ref xda15) xqn15 = true)
    (e15i : fileB P K xda15 = true)
    (e15j : cellB K xcc15 C_InvalidRun = true)
    (e15k : PySem.W.keepIn K (.ref C_InvalidRun) = true)
    (e15l : PySem.W.subIn K (.ref C_InvalidRun) (.type "BaseException") = some true)
    (e15m : PySem.W.typeIn K (.ref C_InvalidRun) = some (.type "type"))
    (e15n : PX.UpOk ["index"] [.Name "index" xp15_7] xp15_2 xp15_3 xp15_4 xp15_5)
    (e15x : xhdB K C_InvalidRun = true)
    {C_InvalidSpot : Addr}
    (e16a : PySem.W.nsIn K mainGlobals "InvalidSpot" = some (some (.ref C_InvalidSpot)))
    {xI16 xN16 xda16 xcc16 : Addr} {xnm16 xq16 xqn16 : Str} {xbs16 xsu16 : List Value} {xsn16 : List Str} {xab16 : Bool} {xco16 : Option Bool} {xdd16 xod16 xan16 : Option Addr} {xk0_16 xk1_16 xk2_16 xk3_16 xk5_16 : Option Value} {xoc16 xdo16 xpm16 xct16 : Value} {xos16 : Array (Option Value)}
    {xp16_0 xp16_1 xp16_2 xp16_3 xp16_4 xp16_5 xp16_6 xp16_7 xp16_8 xp16_9 xp16_10 xp16_11 : Pos}
    (e16b : K.lookup C_InvalidSpot = some (excClassObj xnm16 xq16 C_InvalidSpot xN16 xbs16 [.type "ValueError", .type "Exception", .type "BaseException", .type "object"] true xsn16 xsu16 xab16 xco16 xdd16 xk0_16 xk1_16 xk2_16 xk3_16 xk5_16 "ValueError.__new__"))
    (e16c : PySem.W.findIn K (.ref C_InvalidSpot) "__setattr__" = some (some (.builtin "object.__setattr__")))
    (e16d0 : PySem.W.findIn K (.ref C_InvalidSpot) "value" = some none)
    (e16e : PySem.W.findIn K (.ref C_InvalidSpot) "__init__" = some (some (.ref xI16)))
    (e16f : PySem.W.typeIn K (.ref xI16) = some (.type "function"))
    (e16g : K.lookup xI16 = some ⟨xoc16, xod16, .func (ksFn "__init__" xqn16 (PX.iA [PX.aA "self" xp16_0, PX.aA "value" xp16_1]) [PX.sUp [.Name "value" xp16_7] xp16_2 xp16_3 xp16_4 xp16_5 xp16_6, PX.sFld "value" xp16_8 xp16_9 xp16_10 xp16_11] (PX.iS ["value"]) .none .none xdo16 xpm16 xan16 (.ref xda16) xct16 xcc16), xos16⟩)
    (e16h : PySem.W.codeIn K (.ref xda16) xqn16 = true)
    (e16i : fileB P K xda16 = true)
    (e16j : cellB K xcc16 C_InvalidSpot = true)
    (e16k : PySem.W.keepIn K (.ref C_InvalidSpot) = true)
    (e16l : PySem.W.subIn K (.ref C_InvalidSpot) (.type "BaseException") = some true)
    (e16m : PySem.W.typeIn K (.ref C_InvalidSpot) = some (.type "type"))
    (e16n : PX.UpOk ["value"] [.Name "value" xp16_7] xp16_2 xp16_3 xp16_4 xp16_5)
    (e16x : xhdB K C_InvalidSpot = true)
    {C_InvalidTable : Addr}
    (e17a : PySem.W.nsIn K mainGlobals "InvalidTable" = some (some (.ref C_InvalidTable)))
    {xI17 xN17 xda17 xcc17 : Addr} {xnm17 xq17 xqn17 : Str} {xbs17 xsu17 : List Value} {xsn17 : List Str} {xab17 : Bool} {xco17 : Option Bool} {xdd17 xod17 xan17 : Option Addr} {xk0_17 xk1_17 xk2_17 xk3_17 xk5_17 : Option Value} {xoc17 xdo17 xpm17 xct17 : Value} {xos17 : Array (Option Value)}
    {xp17_0 xp17_1 xp17_2 xp17_3 xp17_4 xp17_5 xp17_6 xp17_7 xp17_8 xp17_9 xp17_10 xp17_11 : Pos}
    (e17b : K.lookup C_InvalidTable = some (excClassObj xnm17 xq17 C_InvalidTable xN17 xbs17 [.type "ValueError", .type "Exception", .type "BaseException", .type "object"] true xsn17 xsu17 xab17 xco17 xdd17 xk0_17 xk1_17 xk2_17 xk3_17 xk5_17 "ValueError.__new__"))
    (e17c : PySem.W.findIn K (.ref C_InvalidTable) "__setattr__" = some (some (.builtin "object.__setattr__")))
    (e17d0 : PySem.W.findIn K (.ref C_InvalidTable) "value" = some none)
    (e17e : PySem.W.findIn K (.ref C_InvalidTable) "__init__" = some (some (.ref xI17)))
    (e17f : PySem.W.typeIn K (.ref xI17) = some (.type "function"))
    (e17g : K.lookup xI17 = some ⟨xoc17, xod17, .func (ksFn "__init__" xqn17 (PX.iA [PX.aA "self" xp17_0, PX.aA "value" xp17_1]) [PX.sUp [.Name "value" xp17_7] xp17_2 xp17_3 xp17_4 xp17_5 xp17_6, PX.sFld "value" xp17_8 xp17_9 xp17_10 xp17_11] (PX.iS ["value"]) .none .none xdo17 xpm17 xan17 (.ref xda17) xct17 xcc17), xos17⟩)
    (e17h : PySem.W.codeIn K (.ref xda17) xqn17 = true)
    (e17i : fileB P K xda17 = true)
    (e17j : cellB K xcc17 C_InvalidTable = true)
    (e17k : PySem.W.keepIn K (.ref C_InvalidTable) = true)
    (e17l : PySem.W.subIn K (.ref C_InvalidTable) (.type "BaseException") = some true)
    (e17m : PySem.W.typeIn K (.ref C_InvalidTable) = some (.type "type"))
    (e17n : PX.UpOk ["value"] [.Name "value" xp17_7] xp17_2 xp17_3 xp17_4 xp17_5)
    (e17x : xhdB K C_InvalidTable = true)
    {C_InvalidText : Addr}
    (e18a : PySem.W.nsIn K mainGlobals "InvalidText" = some (some (.ref C_InvalidText)))
    {xI18 xN18 xda18 xcc18 : Addr} {xnm18 xq18 xqn18 : Str} {xbs18 xsu18 : List Value} {xsn18 : List Str} {xab18 : Bool} {xco18 : Option Bool} {xdd18 xod18 xan18 : Option Addr} {xk0_18 xk1_18 xk2_18 xk3_18 xk5_18 : Option Value} {xoc18 xdo18 xpm18 xct18 : Value} {xos18 : Array (Option Value)}
    {xp18_0 xp18_1 xp18_2 xp18_3 xp18_4 xp18_5 xp18_6 xp18_7 xp18_8 xp18_9 xp18_10 xp18_11 : Pos}
    (e18b : K.lookup C_InvalidText = some (excClassObj xnm18 xq18 C_InvalidText xN18 xbs18 [.type "ValueError", .type "Exception", .type "BaseException", .type "object"] true xsn18 xsu18 xab18 xco18 xdd18 xk0_18 xk1_18 xk2_18 xk3_18 xk5_18 "ValueError.__new__"))
    (e18c : PySem.W.findIn K (.ref C_InvalidText) "__setattr__" = some (some (.builtin "object.__setattr__")))
    (e18d0 : PySem.W.findIn K (.ref C_InvalidText) "value" = some none)
    (e18e : PySem.W.findIn K (.ref C_InvalidText) "__init__" = some (some (.ref xI18)))
    (e18f : PySem.W.typeIn K (.ref xI18) = some (.type "function"))
    (e18g : K.lookup xI18 = some ⟨xoc18, xod18, .func (ksFn "__init__" xqn18 (PX.iA [PX.aA "self" xp18_0, PX.aA "value" xp18_1]) [PX.sUp [.Name "value" xp18_7] xp18_2 xp18_3 xp18_4 xp18_5 xp18_6, PX.sFld "value" xp18_8 xp18_9 xp18_10 xp18_11] (PX.iS ["value"]) .none .none xdo18 xpm18 xan18 (.ref xda18) xct18 xcc18), xos18⟩)
    (e18h : PySem.W.codeIn K (.ref xda18) xqn18 = true)
    (e18i : fileB P K xda18 = true)
    (e18j : cellB K xcc18 C_InvalidText = true)
    (e18k : PySem.W.keepIn K (.ref C_InvalidText) = true)
    (e18l : PySem.W.subIn K (.ref C_InvalidText) (.type "BaseException") = some true)
    (e18m : PySem.W.typeIn K (.ref C_InvalidText) = some (.type "type"))
    (e18n : PX.UpOk ["value"] [.Name "value" xp18_7] xp18_2 xp18_3 xp18_4 xp18_5)
    (e18x : xhdB K C_InvalidText = true)
    {C_NoBack : Addr}
    (e19a : PySem.W.nsIn K mainGlobals "NoBack" = some (some (.ref C_NoBack)))
    {xI19 xN19 xda19 xcc19 : Addr} {xnm19 xq19 xqn19 : Str} {xbs19 xsu19 : List Value} {xsn19 : List Str} {xab19 : Bool} {xco19 : Option Bool} {xdd19 xod19 xan19 : Option Addr} {xk0_19 xk1_19 xk2_19 xk3_19 xk5_19 : Option Value} {xoc19 xdo19 xpm19 xct19 : Value} {xos19 : Array (Option Value)}
    {xp19_0 xp19_1 xp19_2 xp19_3 xp19_4 xp19_5 xp19_6 xp19_7 xp19_8 xp19_9 xp19_10 xp19_11 : Pos}
    (e19b : K.lookup C_NoBack = some (excClassObj xnm19 xq19 C_NoBack xN19 xbs19 [.type "ValueError", .type "Exception", .type "BaseException", .type "object"] true xsn19 xsu19 xab19 xco19 xdd19 xk0_19 xk1_19 xk2_19 xk3_19 xk5_19 "ValueError.__new__"))
    (e19c : PySem.W.findIn K (.ref C_NoBack) "__setattr__" = some (some (.builtin "object.__setattr__")))
    (e19d0 : PySem.W.findIn K (.ref C_NoBack) "index" = some none)
    (e19e : PySem.W.findIn K (.ref C_NoBack) "__init__" = some (some (.ref xI19)))
    (e19f : PySem.W.typeIn K (.ref xI19) = some (.type "function"))
    (e19g : K.lookup xI19 = some ⟨xoc19, xod19, .func (ksFn "__init__" xqn19 (PX.iA [PX.aA "self" xp19_0, PX.aA "index" xp19_1]) [PX.sUp [.Name "index" xp19_7] xp19_2 xp19_3 xp19_4 xp19_5 xp19_6, PX.sFld "index" xp19_8 xp19_9 xp19_10 xp19_11] (PX.iS ["index"]) .none .none xdo19 xpm19 xan19 (.ref xda19) xct19 xcc19), xos19⟩)
    (e19h : PySem.W.codeIn K (.ref xda19) xqn19 = true)
    (e19i : fileB P K xda19 = true)
    (e19j : cellB K xcc19 C_NoBack = true)
    (e19k : PySem.W.keepIn K (.ref C_NoBack) = true)
    (e19l : PySem.W.subIn K (.ref C_NoBack) (.type "BaseException") = some true)
    (e19m : PySem.W.typeIn K (.ref C_NoBack) = some (.type "type"))
    (e19n : PX.UpOk ["index"] [.Name "index" xp19_7] xp19_2 xp19_3 xp19_4 xp19_5)
    (e19x : xhdB K C_NoBack = true)
    {C_NoExchange : Addr}
    (e20a : PySem.W.nsIn K mainGlobals "NoExchange" = some (some (.ref C_NoExchange)))
    {xI20 xN20 xda20 xcc20 : Addr} {xnm20 xq20 xqn20 : Str} {xbs20 xsu20 : List Value} {xsn20 : List Str} {xab20 : Bool} {xco20 : Option Bool} {xdd20 xod20 xan20 : Option Addr} {xk0_20 xk1_20 xk2_20 xk3_20 xk5_20 : Option Value} {xoc20 xdo20 xpm20 xct20 : Value} {xos20 : Array (Option Value)}
    {xp20_0 xp20_1 xp20_2 xp20_3 xp20_4 xp20_5 xp20_6 xp20_7 xp20_8 xp20_9 xp20_10 xp20_11 : Pos}
    (e20b : K.lookup C_NoExchange = some (excClassObj xnm20 xq20 C_NoExchange xN20 xbs20 [.type "ValueError", .type "Exception", .type "BaseException", .type "object"] true xsn20 xsu20 xab20 xco20 xdd20 xk0_20 xk1_20 xk2_20 xk3_20 xk5_20 "ValueError.__new__"))
    (e20c : PySem.W.findIn K (.ref C_NoExchange) "__setattr__" = some (some (.builtin "object.__setattr__")))
    (e20d0 : PySem.W.findIn K (.ref C_NoExchange) "index" = some none)
    (e20e : PySem.W.findIn K (.ref C_NoExchange) "__init__" = some (some (.ref xI20)))
    (e20f : PySem.W.typeIn K (.ref xI20) = some (.type "function"))
    (e20g : K.lookup xI20 = some ⟨xoc20, xod20, .func (ksFn "__init__" xqn20 (PX.iA [PX.aA "self" xp20_0, PX.aA "index" xp20_1]) [PX.sUp [.Name "index" xp20_7] xp20_2 xp20_3 xp20_4 xp20_5 xp20_6, PX.sFld "index" xp20_8 xp20_9 xp20_10 xp20_11] (PX.iS ["index"]) .none .none xdo20 xpm20 xan20 (.ref xda20) xct20 xcc20), xos20⟩)
    (e20h : PySem.W.codeIn K (.ref xda20) xqn20 = true)
    (e20i : fileB P K xda20 = true)
    (e20j : cellB K xcc20 C_NoExchange = true)
    (e20k : PySem.W.keepIn K (.ref C_NoExchange) = true)
    (e20l : PySem.W.subIn K (.ref C_NoExchange) (.type "BaseException") = some true)
    (e20m : PySem.W.typeIn K (.ref C_NoExchange) = some (.type "type"))
    (e20n : PX.UpOk ["index"] [.Name "index" xp20_7] xp20_2 xp20_3 xp20_4 xp20_5)
    (e20x : xhdB K C_NoExchange = true)
    {C_NoFile : Addr}
    (e21a : PySem.W.nsIn K mainGlobals "NoFile" = some (some (.ref C_NoFile)))
    {xI21 xN21 xda21 xcc21 : Addr} {xnm21 xq21 xqn21 : Str} {xbs21 xsu21 : List Value} {xsn21 : List Str} {xab21 : Bool} {xco21 : Option Bool} {xdd21 xod21 xan21 : Option Addr} {xk0_21 xk1_21 xk2_21 xk3_21 xk5_21 : Option Value} {xoc21 xdo21 xpm21 xct21 : Value} {xos21 : Array (Option Value)}
    {xp21_0 xp21_1 xp21_2 xp21_3 xp21_4 xp21_5 xp21_6 xp21_7 xp21_8 xp21_9 xp21_10 xp21_11 : Pos}
    (e21b : K.lookup C_NoFile = some (excClassObj xnm21 xq21 C_NoFile xN21 xbs21 [.type "LookupError", .type "Exception", .type "BaseException", .type "object"] true xsn21 xsu21 xab21 xco21 xdd21 xk0_21 xk1_21 xk2_21 xk3_21 xk5_21 "LookupError.__new__"))
    (e21c : PySem.W.findIn K (.ref C_NoFile) "__setattr__" = some (some (.builtin "object.__setattr__")))
    (e21d0 : PySem.W.findIn K (.ref C_NoFile) "name" = some none)
    (e21e : PySem.W.findIn K (.ref C_NoFile) "__init__" = some (some (.ref xI21)))
    (e21f : PySem.W.typeIn K (.ref xI21) = some (.type "function"))
    (e21g : K.lookup xI21 = some ⟨xoc21, xod21, .func (ksFn "__init__" xqn21 (PX.iA [PX.aA "self" xp21_0, PX.aA "name" xp21_1]) [PX.sUp [.Name "name" xp21_7] xp21_2 xp21_3 xp21_4 xp21_5 xp21_6, PX.sFld "name" xp21_8 xp21_9 xp21_10 xp21_11] (PX.iS ["name"]) .none .none xdo21 xpm21 xan21 (.ref xda21) xct21 xcc21), xos21⟩)
    (e21h : PySem.W.codeIn K (.ref xda21) xqn21 = true)
    (e21i : fileB P K xda21 = true)
    (e21j : cellB K xcc21 C_NoFile = true)
    (e21k : PySem.W.keepIn K (.ref C_NoFile) = true)
    (e21l : PySem.W.subIn K (.ref C_NoFile) (.type "BaseException") = some true)
    (e21m : PySem.W.typeIn K (.ref C_NoFile) = some (.type "type"))
    (e21n : PX.UpOk ["name"] [.Name "name" xp21_7] xp21_2 xp21_3 xp21_4 xp21_5)
    (e21x : xhdB K C_NoFile = true)
    {C_NoLabel : Addr}
    (e22a : PySem.W.nsIn K mainGlobals "NoLabel" = some (some (.ref C_NoLabel)))
    {xI22 xN22 xda22 xcc22 : Addr} {xnm22 xq22 xqn22 : Str} {xbs22 xsu22 : List Value} {xsn22 : List Str} {xab22 : Bool} {xco22 : Option Bool} {xdd22 xod22 xan22 : Option Addr} {xk0_22 xk1_22 xk2_22 xk3_22 xk5_22 : Option Value} {xoc22 xdo22 xpm22 xct22 : Value} {xos22 : Array (Option Value)}
    {xp22_0 xp22_1 xp22_2 xp22_3 xp22_4 xp22_5 xp22_6 xp22_7 xp22_8 xp22_9 xp22_10 xp22_11 : Pos}
    (e22b : K.lookup C_NoLabel = some (excClassObj xnm22 xq22 C_NoLabel xN22 xbs22 [.type "LookupError", .type "Exception", .type "BaseException", .type "object"] true xsn22 xsu22 xab22 xco22 xdd22 xk0_22 xk1_22 xk2_22 xk3_22 xk5_22 "LookupError.__new__"))
    (e22c : PySem.W.findIn K (.ref C_NoLabel) "__setattr__" = some (some (.builtin "object.__setattr__")))
    (e22d0 : PySem.W.findIn K (.ref C_NoLabel) "label" = some none)
    (e22e : PySem.W.findIn K (.ref C_NoLabel) "__init__" = some (some (.ref xI22)))
    (e22f : PySem.W.typeIn K (.ref xI22) = some (.type "function"))
    (e22g : K.lookup xI22 = some ⟨xoc22, xod22, .func (ksFn "__init__" xqn22 (PX.iA [PX.aA "self" xp22_0, PX.aA "label" xp22_1]) [PX.sUp [.Name "label" xp22_7] xp22_2 xp22_3 xp22_4 xp22_5 xp22_6, PX.sFld "label" xp22_8 xp22_9 xp22_10 xp22_11] (PX.iS ["label"]) .none .none xdo22 xpm22 xan22 (.ref xda22) xct22 xcc22), xos22⟩)
    (e22h : PySem.W.codeIn K (.ref xda22) xqn22 = true)
    (e22i : fileB P K xda22 = true)
    (e22j : cellB K xcc22 C_NoLabel = true)
    (e22k : PySem.W.keepIn K (.ref C_NoLabel) = true)
    (e22l : PySem.W.subIn K (.ref C_NoLabel) (.type "BaseException") = some true)
    (e22m : PySem.W.typeIn K (.ref C_NoLabel) = some (.type "type"))
    (e22n : PX.UpOk ["label"] [.Name "label" xp22_7] xp22_2 xp22_3 xp22_4 xp22_5)
    (e22x : xhdB K C_NoLabel = true)
    {C_NoMirror : Addr}
    (e23a : PySem.W.nsIn K mainGlobals "NoMirror" = some (some (.ref C_NoMirror)))
    {xI23 xN23 xda23 xcc23 : Addr} {xnm23 xq23 xqn23 : Str} {xbs23 xsu23 : List Value} {xsn23 : List Str} {xab23 : Bool} {xco23 : Option Bool} {xdd23 xod23 xan23 : Option Addr} {xk0_23 xk1_23 xk2_23 xk3_23 xk5_23 : Option Value} {xoc23 xdo23 xpm23 xct23 : Value} {xos23 : Array (Option Value)}
    {xp23_0 xp23_1 xp23_2 xp23_3 xp23_4 xp23_5 xp23_6 xp23_7 xp23_8 xp23_9 xp23_10 xp23_11 : Pos}
    (e23b : K.lookup C_NoMirror = some (excClassObj xnm23 xq23 C_NoMirror xN23 xbs23 [.type "ValueError", .type "Exception", .type "BaseException", .type "object"] true xsn23 xsu23 xab23 xco23 xdd23 xk0_23 xk1_23 xk2_23 xk3_23 xk5_23 "ValueError.__new__"))
    (e23c : PySem.W.findIn K (.ref C_NoMirror) "__setattr__" = some (some (.builtin "object.__setattr__")))
    (e23d0 : PySem.W.findIn K (.ref C_NoMirror) "index" = some none)
    (e23e : PySem.W.findIn K (.ref C_NoMirror) "__init__" = some (some (.ref xI23)))
    (e23f : PySem.W.typeIn K (.ref xI23) = some (.type "function"))
    (e23g : K.lookup xI23 = some ⟨xoc23, xod23, .func (ksFn "__init__" xqn23 (PX.iA [PX.aA "self" xp23_0, PX.aA "index" xp23_1]) [PX.sUp [.Name "index" xp23_7] xp23_2 xp23_3 xp23_4 xp23_5 xp23_6, PX.sFld "index" xp23_8 xp23_9 xp23_10 xp23_11] (PX.iS ["index"]) .none .none xdo23 xpm23 xan23 (.ref xda23) xct23 xcc23), xos23⟩)
    (e23h : PySem.W.codeIn K (.ref xda23) xqn23 = true)
    (e23i : fileB P K xda23 = true)
    (e23j : cellB K xcc23 C_NoMirror = true)
    (e23k : PySem.W.keepIn K (.ref C_NoMirror) = true)
    (e23l : PySem.W.subIn K (.ref C_NoMirror) (.type "BaseException") = some true)
    (e23m : PySem.W.typeIn K (.ref C_NoMirror) = some (.type "type"))
    (e23n : PX.UpOk ["index"] [.Name "index" xp23_7] xp23_2 xp23_3 xp23_4 xp23_5)
    (e23x : xhdB K C_NoMirror = true)
    {C_NoPlace : Addr}
    (e24a : PySem.W.nsIn K mainGlobals "NoPlace" = some (some (.ref C_NoPlace)))
    {xI24 xN24 xda24 xcc24 : Addr} {xnm24 xq24 xqn24 : Str} {xbs24 xsu24 : List Value} {xsn24 : List Str} {xab24 : Bool} {xco24 : Option Bool} {xdd24 xod24 xan24 : Option Addr} {xk0_24 xk1_24 xk2_24 xk3_24 xk5_24 : Option Value} {xoc24 xdo24 xpm24 xct24 : Value} {xos24 : Array (Option Value)}
    {xp24_0 xp24_1 xp24_2 xp24_3 xp24_4 xp24_5 xp24_6 xp24_7 xp24_8 xp24_9 xp24_10 xp24_11 xp24_12 xp24_13 xp24_14 xp24_15 xp24_16 xp24_17 : Pos}
    (e24b : K.lookup C_NoPlace = some (excClassObj xnm24 xq24 C_NoPlace xN24 xbs24 [.type "LookupError", .type "Exception", .type "BaseException", .type "object"] true xsn24 xsu24 xab24 xco24 xdd24 xk0_24 xk1_24 xk2_24 xk3_24 xk5_24 "LookupError.__new__"))
    (e24c : PySem.W.findIn K (.ref C_NoPlace) "__setattr__" = some (some (.builtin "object.__setattr__")))
    (e24d0 : PySem.W.findIn K (.ref C_NoPlace) "index" = some none)
    (e24d1 : PySem.W.findIn K (.ref C_NoPlace) "number" = some none)
    (e24e : PySem.W.findIn K (.ref C_NoPlace) "__init__" = some (some (.ref xI24)))
    (e24f : PySem.W.typeIn K (.ref xI24) = some (.type "function"))
    (e24g : K.lookup xI24 = some ⟨xoc24, xod24, .func (ksFn "__init__" xqn24 (PX.iA [PX.aA "self" xp24_0, PX.aA "index" xp24_1, PX.aA "number" xp24_2]) [PX.sUp [.Name "index" xp24_8, .Name "number" xp24_9] xp24_3 xp24_4 xp24_5 xp24_6 xp24_7, PX.sFld "index" xp24_10 xp24_11 xp24_12 xp24_13, PX.sFld "number" xp24_14 xp24_15 xp24_16 xp24_17] (PX.iS ["index", "number"]) .none .none xdo24 xpm24 xan24 (.ref xda24) xct24 xcc24), xos24⟩)
    (e24h : PySem.W.codeIn K (.ref xda24) xqn24 = true)
    (e24i : fileB P K xda24 = true)
    (e24j : cellB K xcc24 C_NoPlace = true)
    (e24k : PySem.W.keepIn K (.ref C_NoPlace) = true)
    (e24l : PySem.W.subIn K (.ref C_NoPlace) (.type "BaseException") = some true)
    (e24m : PySem.W.typeIn K (.ref C_NoPlace) = some (.type "type"))
    (e24n : PX.UpOk ["index", "number"] [.Name "index" xp24_8, .Name "number" xp24_9] xp24_3 xp24_4 xp24_5 xp24_6)
    (e24x : xhdB K C_NoPlace = true)
    {C_NotRight : Addr}
    (e25a : PySem.W.nsIn K mainGlobals "NotRight" = some (some (.ref C_NotRight)))
    {xI25 xN25 xda25 xcc25 : Addr} {xnm25 xq25 xqn25 : Str} {xbs25 xsu25 : List Value} {xsn25 : List Str} {xab25 : Bool} {xco25 : Option Bool} {xdd25 xod25 xan25 : Option Addr} {xk0_25 xk1_25 xk2_25 xk3_25 xk5_25 : Option Value} {xoc25 xdo25 xpm25 xct25 : Value} {xos25 : Array (Option Value)}
    {xp25_0 xp25_1 xp25_2 xp25_3 xp25_4 xp25_5 xp25_6 xp25_7 xp25_8 xp25_9 xp25_10 xp25_11 : Pos}
    (e25b : K.lookup C_NotRight = some (excClassObj xnm25 xq25 C_NotRight xN25 xbs25 [.type "RuntimeError", .type "Exception", .type "BaseException", .type "object"] true xsn25 xsu25 xab25 xco25 xdd25 xk0_25 xk1_25 xk2_25 xk3_25 xk5_25 "RuntimeError.__new__"))
    (e25c : PySem.W.findIn K (.ref C_NotRight) "__setattr__" = some (some (.builtin "object.__setattr__")))
    (e25d0 : PySem.W.findIn K (.ref C_NotRight) "hand" = some none)
    (e25e : PySem.W.findIn K (.ref C_NotRight) "__init__" = some (some (.ref xI25)))
    (e25f : PySem.W.typeIn K (.ref xI25) = some (.type "function"))
    (e25g : K.lookup xI25 = some ⟨xoc25, xod25, .func (ksFn "__init__" xqn25 (PX.iA [PX.aA "self" xp25_0, PX.aA "hand" xp25_1]) [PX.sUp [.Name "hand" xp25_7] xp25_2 xp25_3 xp25_4 xp25_5 xp25_6, PX.sFld "hand" xp25_8 xp25_9 xp25_10 xp25_11] (PX.iS ["hand"]) .none .none xdo25 xpm25 xan25 (.ref xda25) xct25 xcc25), xos25⟩)
    (e25h : PySem.W.codeIn K (.ref xda25) xqn25 = true)
    (e25i : fileB P K xda25 = true)
    (e25j : cellB K xcc25 C_NotRight = true)
    (e25k : PySem.W.keepIn K (.ref C_NotRight) = true)
    (e25l : PySem.W.subIn K (.ref C_NotRight) (.type "BaseException") = some true)
    (e25m : PySem.W.typeIn K (.ref C_NotRight) = some (.type "type"))
    (e25n : PX.UpOk ["hand"] [.Name "hand" xp25_7] xp25_2 xp25_3 xp25_4 xp25_5)
    (e25x : xhdB K C_NotRight = true)
    {C_OutOfRange : Addr}
    (e26a : PySem.W.nsIn K mainGlobals "OutOfRange" = some (some (.ref C_OutOfRange)))
    {xI26 xN26 xda26 xcc26 : Addr} {xnm26 xq26 xqn26 : Str} {xbs26 xsu26 : List Value} {xsn26 : List Str} {xab26 : Bool} {xco26 : Option Bool} {xdd26 xod26 xan26 : Option Addr} {xk0_26 xk1_26 xk2_26 xk3_26 xk5_26 : Option Value} {xoc26 xdo26 xpm26 xct26 : Value} {xos26 : Array (Option Value)}
    {xp26_0 xp26_1 xp26_2 xp26_3 xp26_4 xp26_5 xp26_6 xp26_7 xp26_8 xp26_9 xp26_10 xp26_11 : Pos}
    (e26b : K.lookup C_OutOfRange = some (excClassObj xnm26 xq26 C_OutOfRange xN26 xbs26 [.type "LookupError", .type "Exception", .type "BaseException", .type "object"] true xsn26 xsu26 xab26 xco26 xdd26 xk0_26 xk1_26 xk2_26 xk3_26 xk5_26 "LookupError.__new__"))
    (e26c : PySem.W.findIn K (.ref C_OutOfRange) "__setattr__" = some (some (.builtin "object.__setattr__")))
    (e26d0 : PySem.W.findIn K (.ref C_OutOfRange) "value" = some none)
    (e26e : PySem.W.findIn K (.ref C_OutOfRange) "__init__" = some (some (.ref xI26)))
    (e26f : PySem.W.typeIn K (.ref xI26) = some (.type "function"))
    (e26g : K.lookup xI26 = some ⟨xoc26, xod26, .func (ksFn "__init__" xqn26 (PX.iA [PX.aA "self" xp26_0, PX.aA "value" xp26_1]) [PX.sUp [.Name "value" xp26_7] xp26_2 xp26_3 xp26_4 xp26_5 xp26_6, PX.sFld "value" xp26_8 xp26_9 xp26_10 xp26_11] (PX.iS ["value"]) .none .none xdo26 xpm26 xan26 (.ref xda26) xct26 xcc26), xos26⟩)
    (e26h : PySem.W.codeIn K (.ref xda26) xqn26 = true)
    (e26i : fileB P K xda26 = true)
    (e26j : cellB K xcc26 C_OutOfRange = true)
    (e26k : PySem.W.keepIn K (.ref C_OutOfRange) = true)
    (e26l : PySem.W.subIn K (.ref C_OutOfRange) (.type "BaseException") = some true)
    (e26m : PySem.W.typeIn K (.ref C_OutOfRange) = some (.type "type"))
    (e26n : PX.UpOk ["value"] [.Name "value" xp26_7] xp26_2 xp26_3 xp26_4 xp26_5)
    (e26x : xhdB K C_OutOfRange = true)
    {C_Overlap : Addr}
    (e27a : PySem.W.nsIn K mainGlobals "Overlap" = some (some (.ref C_Overlap)))
    {xI27 xN27 xda27 xcc27 : Addr} {xnm27 xq27 xqn27 : Str} {xbs27 xsu27 : List Value} {xsn27 : List Str} {xab27 : Bool} {xco27 : Option Bool} {xdd27 xod27 xan27 : Option Addr} {xk0_27 xk1_27 xk2_27 xk3_27 xk5_27 : Option Value} {xoc27 xdo27 xpm27 xct27 : Value} {xos27 : Array (Option Value)}
    {xp27_0 xp27_1 xp27_2 xp27_3 xp27_4 xp27_5 xp27_6 xp27_7 xp27_8 xp27_9 xp27_10 xp27_11 : Pos}
    (e27b : K.lookup C_Overlap = some (excClassObj xnm27 xq27 C_Overlap xN27 xbs27 [.type "LookupError", .type "Exception", .type "BaseException", .type "object"] true xsn27 xsu27 xab27 xco27 xdd27 xk0_27 xk1_27 xk2_27 xk3_27 xk5_27 "LookupError.__new__"))
    (e27c : PySem.W.findIn K (.ref C_Overlap) "__setattr__" = some (some (.builtin "object.__setattr__")))
    (e27d0 : PySem.W.findIn K (.ref C_Overlap) "index" = some none)
    (e27e : PySem.W.findIn K (.ref C_Overlap) "__init__" = some (some (.ref xI27)))
    (e27f : PySem.W.typeIn K (.ref xI27) = some (.type "function"))
    (e27g : K.lookup xI27 = some ⟨xoc27, xod27, .func (ksFn "__init__" xqn27 (PX.iA [PX.aA "self" xp27_0, PX.aA "index" xp27_1]) [PX.sUp [.Name "index" xp27_7] xp27_2 xp27_3 xp27_4 xp27_5 xp27_6, PX.sFld "index" xp27_8 xp27_9 xp27_10 xp27_11] (PX.iS ["index"]) .none .none xdo27 xpm27 xan27 (.ref xda27) xct27 xcc27), xos27⟩)
    (e27h : PySem.W.codeIn K (.ref xda27) xqn27 = true)
    (e27i : fileB P K xda27 = true)
    (e27j : cellB K xcc27 C_Overlap = true)
    (e27k : PySem.W.keepIn K (.ref C_Overlap) = true)
    (e27l : PySem.W.subIn K (.ref C_Overlap) (.type "BaseException") = some true)
    (e27m : PySem.W.typeIn K (.ref C_Overlap) = some (.type "type"))
    (e27n : PX.UpOk ["index"] [.Name "index" xp27_7] xp27_2 xp27_3 xp27_4 xp27_5)
    (e27x : xhdB K C_Overlap = true)
    {C_TooLong : Addr}
    (e28a : PySem.W.nsIn K mainGlobals "TooLong" = some (some (.ref C_TooLong)))
    {xI28 xN28 xda28 xcc28 : Addr} {xnm28 xq28 xqn28 : Str} {xbs28 xsu28 : List Value} {xsn28 : List Str} {xab28 : Bool} {xco28 : Option Bool} {xdd28 xod28 xan28 : Option Addr} {xk0_28 xk1_28 xk2_28 xk3_28 xk5_28 : Option Value} {xoc28 xdo28 xpm28 xct28 : Value} {xos28 : Array (Option Value)}
    {xp28_0 xp28_1 xp28_2 xp28_3 xp28_4 xp28_5 xp28_6 xp28_7 xp28_8 xp28_9 xp28_10 xp28_11 : Pos}
    (e28b : K.lookup C_TooLong = some (excClassObj xnm28 xq28 C_TooLong xN28 xbs28 [.type "OverflowError", .type "ArithmeticError", .type "Exception", .type "BaseException", .type "object"] true xsn28 xsu28 xab28 xco28 xdd28 xk0_28 xk1_28 xk2_28 xk3_28 xk5_28 "OverflowError.__new__"))
    (e28c : PySem.W.findIn K (.ref C_TooLong) "__setattr__" = some (some (.builtin "object.__setattr__")))
    (e28d0 : PySem.W.findIn K (.ref C_TooLong) "limit" = some none)
    (e28e : PySem.W.findIn K (.ref C_TooLong) "__init__" = some (some (.ref xI28)))
    (e28f : PySem.W.typeIn K (.ref xI28) = some (.type "function"))
    (e28g : K.lookup xI28 = some ⟨xoc28, xod28, .func (ksFn "__init__" xqn28 (PX.iA [PX.aA "self" xp28_0, PX.aA "limit" xp28_1]) [PX.sUp [.Name "limit" xp28_7] xp28_2 xp28_3 xp28_4 xp28_5 xp28_6, PX.sFld "limit" xp28_8 xp28_9 xp28_10 xp28_11] (PX.iS ["limit"]) .none .none xdo28 xpm28 xan28 (.ref xda28) xct28 xcc28), xos28⟩)
    (e28h : PySem.W.codeIn K (.ref xda28) xqn28 = true)
    (e28i : fileB P K xda28 = true)
    (e28j : cellB K xcc28 C_TooLong = true)
    (e28k : PySem.W.keepIn K (.ref C_TooLong) = true)
    (e28l : PySem.W.subIn K (.ref C_TooLong) (.type "BaseException") = some true)
    (e28m : PySem.W.typeIn K (.ref C_TooLong) = some (.type "type"))
    (e28n : PX.UpOk ["limit"] [.Name "limit" xp28_7] xp28_2 xp28_3 xp28_4 xp28_5)
    (e28x : xhdB K C_TooLong = true)
    {C_TooMany : Addr}
    (e29a : PySem.W.nsIn K mainGlobals "TooMany" = some (some (.ref C_TooMany)))
    {xI29 xN29 xda29 xcc29 : Addr} {xnm29 xq29 xqn29 : Str} {xbs29 xsu29 : List Value} {xsn29 : List Str} {xab29 : Bool} {xco29 : Option Bool} {xdd29 xod29 xan29 : Option Addr} {xk0_29 xk1_29 xk2_29 xk3_29 xk5_29 : Option Value} {xoc29 xdo29 xpm29 xct29 : Value} {xos29 : Array (Option Value)}
    {xp29_0 xp29_1 xp29_2 xp29_3 xp29_4 xp29_5 xp29_6 xp29_7 xp29_8 xp29_9 xp29_10 xp29_11 : Pos}
    (e29b : K.lookup C_TooMany = some (excClassObj xnm29 xq29 C_TooMany xN29 xbs29 [.type "OverflowError", .type "ArithmeticError", .type "Exception", .type "BaseException", .type "object"] true xsn29 xsu29 xab29 xco29 xdd29 xk0_29 xk1_29 xk2_29 xk3_29 xk5_29 "OverflowError.__new__"))
    (e29c : PySem.W.findIn K (.ref C_TooMany) "__setattr__" = some (some (.builtin "object.__setattr__")))
    (e29d0 : PySem.W.findIn K (.ref C_TooMany) "limit" = some none)
    (e29e : PySem.W.findIn K (.ref C_TooMany) "__init__" = some (some (.ref xI29)))
    (e29f : PySem.W.typeIn K (.ref xI29) = some (.type "function"))
    (e29g : K.lookup xI29 = some ⟨xoc29, xod29, .func (ksFn "__init__" xqn29 (PX.iA [PX.aA "self" xp29_0, PX.aA "limit" xp29_1]) [PX.sUp [.Name "limit" xp29_7] xp29_2 xp29_3 xp29_4 xp29_5 xp29_6, PX.sFld "limit" xp29_8 xp29_9 xp29_10 xp29_11] (PX.iS ["limit"]) .none .none xdo29 xpm29 xan29 (.ref xda29) xct29 xcc29), xos29⟩)
    (e29h : PySem.W.codeIn K (.ref xda29) xqn29 = true)
    (e29i : fileB P K xda29 = true)
    (e29j : cellB K xcc29 C_TooMany = true)
    (e29k : PySem.W.keepIn K (.ref C_TooMany) = true)
    (e29l : PySem.W.subIn K (.ref C_TooMany) (.type "BaseException") = some true)
    (e29m : PySem.W.typeIn K (.ref C_TooMany) = some (.type "type"))
    (e29n : PX.UpOk ["limit"] [.Name "limit" xp29_7] xp29_2 xp29_3 xp29_4 xp29_5)
    (e29x : xhdB K C_TooMany = true)
    {C_Unbounded : Addr}
    (e30a : PySem.W.nsIn K mainGlobals "Unbounded" = some (some (.ref C_Unbounded)))
    {xI30 xN30 xda30 xcc30 : Addr} {xnm30 xq30 xqn30 : Str} {xbs30 xsu30 : List Value} {xsn30 : List Str} {xab30 : Bool} {xco30 : Option Bool} {xdd30 xod30 xan30 : Option Addr} {xk0_30 xk1_30 xk2_30 xk3_30 xk5_30 : Option Value} {xoc30 xdo30 xpm30 xct30 : Value} {xos30 : Array (Option Value)}
    {xp30_0 xp30_1 xp30_2 xp30_3 xp30_4 xp30_5 xp30_6 xp30_7 xp30_8 xp30_9 xp30_10 xp30_11 : Pos}
    (e30b : K.lookup C_Unbounded = some (excClassObj xnm30 xq30 C_Unbounded xN30 xbs30 [.type "ValueError", .type "Exception", .type "BaseException", .type "object"] true xsn30 xsu30 xab30 xco30 xdd30 xk0_30 xk1_30 xk2_30 xk3_30 xk5_30 "ValueError.__new__"))
    (e30c : PySem.W.findIn K (.ref C_Unbounded) "__setattr__" = some (some (.builtin "object.__setattr__")))
    (e30d0 : PySem.W.findIn K (.ref C_Unbounded) "index" = some none)
    (e30e : PySem.W.findIn K (.ref C_Unbounded) "__init__" = some (some (.ref xI30)))
    (e30f : PySem.W.typeIn K (.ref xI30) = some (.type "function"))
    (e30g : K.lookup xI30 = some ⟨xoc30, xod30, .func (ksFn "__init__" xqn30 (PX.iA [PX.aA "self" xp30_0, PX.aA "index" xp30_1]) [PX.sUp [.Name "index" xp30_7] xp30_2 xp30_3 xp30_4 xp30_5 xp30_6, PX.sFld "index" xp30_8 xp30_9 xp30_10 xp30_11] (PX.iS ["index"]) .none .none xdo30 xpm30 xan30 (.ref xda30) xct30 xcc30), xos30⟩)
    (e30h : PySem.W.codeIn K (.ref xda30) xqn30 = true)
    (e30i : fileB P K xda30 = true)
    (e30j : cellB K xcc30 C_Unbounded = true)
    (e30k : PySem.W.keepIn K (.ref C_Unbounded) = true)
    (e30l : PySem.W.subIn K (.ref C_Unbounded) (.type "BaseException") = some true)
    (e30m : PySem.W.typeIn K (.ref C_Unbounded) = some (.type "type"))
    (e30n : PX.UpOk ["index"] [.Name "index" xp30_7] xp30_2 xp30_3 xp30_4 xp30_5)
    (e30x : xhdB K C_Unbounded = true)
    {C_Unlike : Addr}
    (e31a : PySem.W.nsIn K mainGlobals "Unlike" = some (some (.ref C_Unlike)))
    (e31x : xhdB K C_Unlike = true)
    {C_Unreadable : Addr}
    (e32a : PySem.W.nsIn K mainGlobals "Unreadable" = some (some (.ref C_Unreadable)))
    {xI32 xN32 xda32 xcc32 : Addr} {xnm32 xq32 xqn32 : Str} {xbs32 xsu32 : List Value} {xsn32 : List Str} {xab32 : Bool} {xco32 : Option Bool} {xdd32 xod32 xan32 : Option Addr} {xk0_32 xk1_32 xk2_32 xk3_32 xk5_32 : Option Value} {xoc32 xdo32 xpm32 xct32 : Value} {xos32 : Array (Option Value)}
    {xp32_0 xp32_1 xp32_2 xp32_3 xp32_4 xp32_5 xp32_6 xp32_7 xp32_8 xp32_9 xp32_10 xp32_11 : Pos}
    (e32b : K.lookup C_Unreadable = some (excClassObj xnm32 xq32 C_Unreadable xN32 xbs32 [.type "ValueError", .type "Exception", .type "BaseException", .type "object"] true xsn32 xsu32 xab32 xco32 xdd32 xk0_32 xk1_32 xk2_32 xk3_32 xk5_32 "ValueError.__new__"))
    (e32c : PySem.W.findIn K (.ref C_Unreadable) "__setattr__" = some (some (.builtin "object.__setattr__")))
    (e32d0 : PySem.W.findIn K (.ref C_Unreadable) "index" = some none)
    (e32e : PySem.W.findIn K (.ref C_Unreadable) "__init__" = some (some (.ref xI32)))
    (e32f : PySem.W.typeIn K (.ref xI32) = some (.type "function"))
    (e32g : K.lookup xI32 = some ⟨xoc32, xod32, .func (ksFn "__init__" xqn32 (PX.iA [PX.aA "self" xp32_0, PX.aA "index" xp32_1]) [PX.sUp [.Name "index" xp32_7] xp32_2 xp32_3 xp32_4 xp32_5 xp32_6, PX.sFld "index" xp32_8 xp32_9 xp32_10 xp32_11] (PX.iS ["index"]) .none .none xdo32 xpm32 xan32 (.ref xda32) xct32 xcc32), xos32⟩)
    (e32h : PySem.W.codeIn K (.ref xda32) xqn32 = true)
    (e32i : fileB P K xda32 = true)
    (e32j : cellB K xcc32 C_Unreadable = true)
    (e32k : PySem.W.keepIn K (.ref C_Unreadable) = true)
    (e32l : PySem.W.subIn K (.ref C_Unreadable) (.type "BaseException") = some true)
    (e32m : PySem.W.typeIn K (.ref C_Unreadable) = some (.type "type"))
    (e32n : PX.UpOk ["index"] [.Name "index" xp32_7] xp32_2 xp32_3 xp32_4 xp32_5)
    (e32x : xhdB K C_Unreadable = true)
    {C_Unsafe : Addr}
    (e33a : PySem.W.nsIn K mainGlobals "Unsafe" = some (some (.ref C_Unsafe)))
    {xI33 xN33 xda33 xcc33 : Addr} {xnm33 xq33 xqn33 : Str} {xbs33 xsu33 : List Value} {xsn33 : List Str} {xab33 : Bool} {xco33 : Option Bool} {xdd33 xod33 xan33 : Option Addr} {xk0_33 xk1_33 xk2_33 xk3_33 xk5_33 : Option Value} {xoc33 xdo33 xpm33 xct33 : Value} {xos33 : Array (Option Value)}
    {xp33_0 xp33_1 xp33_2 xp33_3 xp33_4 xp33_5 xp33_6 xp33_7 xp33_8 xp33_9 xp33_10 xp33_11 xp33_12 xp33_13 xp33_14 xp33_15 xp33_16 xp33_17 : Pos}
    (e33b : K.lookup C_Unsafe = some (excClassObj xnm33 xq33 C_Unsafe xN33 xbs33 [.type "RuntimeError", .type "Exception", .type "BaseException", .type "object"] true xsn33 xsu33 xab33 xco33 xdd33 xk0_33 xk1_33 xk2_33 xk3_33 xk5_33 "RuntimeError.__new__"))
    (e33c : PySem.W.findIn K (.ref C_Unsafe) "__setattr__" = some (some (.builtin "object.__setattr__")))
    (e33d0 : PySem.W.findIn K (.ref C_Unsafe) "name" = some none)
    (e33d1 : PySem.W.findIn K (.ref C_Unsafe) "case" = some none)
    (e33e : PySem.W.findIn K (.ref C_Unsafe) "__init__" = some (some (.ref xI33)))
    (e33f : PySem.W.typeIn K (.ref xI33) = some (.type "function"))
    (e33g : K.lookup xI33 = some ⟨xoc33, xod33, .func (ksFn "__init__" xqn33 (PX.iA [PX.aA "self" xp33_0, PX.aA "name" xp33_1, PX.aA "case" xp33_2]) [PX.sUp [.Name "name" xp33_8, .Name "case" xp33_9] xp33_3 xp33_4 xp33_5 xp33_6 xp33_7, PX.sFld "name" xp33_10 xp33_11 xp33_12 xp33_13, PX.sFld "case" xp33_14 xp33_15 xp33_16 xp33_17] (PX.iS ["name", "case"]) .none .none xdo33 xpm33 xan33 (.ref xda33) xct33 xcc33), xos33⟩)
    (e33h : PySem.W.codeIn K (.ref xda33) xqn33 = true)
    (e33i : fileB P K xda33 = true)
    (e33j : cellB K xcc33 C_Unsafe = true)
    (e33k : PySem.W.keepIn K (.ref C_Unsafe) = true)
    (e33l : PySem.W.subIn K (.ref C_Unsafe) (.type "BaseException") = some true)
    (e33m : PySem.W.typeIn K (.ref C_Unsafe) = some (.type "type"))
    (e33n : PX.UpOk ["name", "case"] [.Name "name" xp33_8, .Name "case" xp33_9] xp33_3 xp33_4 xp33_5 xp33_6)
    (e33x : xhdB K C_Unsafe = true)
    (yf0 : PySem.W.findIn K (.ref C_Apart) "name" = some none)
    (yf1 : PySem.W.findIn K (.ref C_Broken) "name" = some none)
    (yf2 : PySem.W.findIn K (.ref C_Clash) "hand" = some none)
    (yf3 : PySem.W.findIn K (.ref C_Clash) "other" = some none)
    (yf4 : PySem.W.findIn K (.ref C_FileNotRight) "index" = some none)
    (yf5 : PySem.W.findIn K (.ref C_FileNotRight) "name" = some none)
    (yf6 : PySem.W.findIn K (.ref C_InvalidChange) "index" = some none)
    (yf7 : PySem.W.findIn K (.ref C_InvalidCount) "value" = some none)
    (yf8 : PySem.W.findIn K (.ref C_InvalidEdit) "index" = some none)
    (yf9 : PySem.W.findIn K (.ref C_InvalidFiles) "value" = some none)
    (yf10 : PySem.W.findIn K (.ref C_InvalidHand) "value" = some none)
    (yf11 : PySem.W.findIn K (.ref C_InvalidName) "value" = some none)
    (yf12 : PySem.W.findIn K (.ref C_InvalidNew) "value" = some none)
    (yf13 : PySem.W.findIn K (.ref C_InvalidOld) "value" = some none)
    (yf14 : PySem.W.findIn K (.ref C_InvalidPart) "index" = some none)
    (yf15 : PySem.W.findIn K (.ref C_InvalidProgram) "index" = some none)
    (yf16 : PySem.W.findIn K (.ref C_InvalidRow) "row" = some none)
    (yf17 : PySem.W.findIn K (.ref C_InvalidRun) "index" = some none)
    (yf18 : PySem.W.findIn K (.ref C_InvalidSpot) "value" = some none)
    (yf19 : PySem.W.findIn K (.ref C_InvalidTable) "value" = some none)
    (yf20 : PySem.W.findIn K (.ref C_InvalidText) "value" = some none)
    (yf21 : PySem.W.findIn K (.ref C_NoBack) "index" = some none)
    (yf22 : PySem.W.findIn K (.ref C_NoExchange) "index" = some none)
    (yf23 : PySem.W.findIn K (.ref C_NoFile) "name" = some none)
    (yf24 : PySem.W.findIn K (.ref C_NoLabel) "label" = some none)
    (yf25 : PySem.W.findIn K (.ref C_NoMirror) "index" = some none)
    (yf26 : PySem.W.findIn K (.ref C_NoPlace) "index" = some none)
    (yf27 : PySem.W.findIn K (.ref C_NoPlace) "number" = some none)
    (yf28 : PySem.W.findIn K (.ref C_NotRight) "hand" = some none)
    (yf29 : PySem.W.findIn K (.ref C_OutOfRange) "value" = some none)
    (yf30 : PySem.W.findIn K (.ref C_Overlap) "index" = some none)
    (yf31 : PySem.W.findIn K (.ref C_TooLong) "limit" = some none)
    (yf32 : PySem.W.findIn K (.ref C_TooMany) "limit" = some none)
    (yf33 : PySem.W.findIn K (.ref C_Unbounded) "index" = some none)
    (yf34 : PySem.W.findIn K (.ref C_Unreadable) "index" = some none)
    (yf35 : PySem.W.findIn K (.ref C_Unsafe) "case" = some none)
    (yf36 : PySem.W.findIn K (.ref C_Unsafe) "name" = some none)
    (xo_Unlike : PySem.W.excIn K C_Unlike [.type "ValueError", .type "Exception", .type "BaseException", .type "object"] "ValueError.__new__" = true) (xk_Unlike : PySem.W.keepIn K (.ref C_Unlike) = true)
    (eb : errsB K [(("InvalidOld" : Str), "ValueError", C_InvalidOld), (("InvalidNew" : Str), "ValueError", C_InvalidNew), (("InvalidText" : Str), "ValueError", C_InvalidText), (("InvalidTable" : Str), "ValueError", C_InvalidTable), (("InvalidCount" : Str), "ValueError", C_InvalidCount), (("InvalidSpot" : Str), "ValueError", C_InvalidSpot), (("InvalidHand" : Str), "ValueError", C_InvalidHand), (("InvalidFiles" : Str), "ValueError", C_InvalidFiles), (("InvalidName" : Str), "ValueError", C_InvalidName), (("InvalidPart" : Str), "ValueError", C_InvalidPart), (("InvalidEdit" : Str), "ValueError", C_InvalidEdit), (("InvalidChange" : Str), "ValueError", C_InvalidChange), (("InvalidProgram" : Str), "ValueError", C_InvalidProgram), (("InvalidRun" : Str), "ValueError", C_InvalidRun), (("NoExchange" : Str), "ValueError", C_NoExchange), (("NoMirror" : Str), "ValueError", C_NoMirror), (("NoBack" : Str), "ValueError", C_NoBack), (("Unbounded" : Str), "ValueError", C_Unbounded), (("Unreadable" : Str), "ValueError", C_Unreadable), (("InvalidRow" : Str), "ValueError", C_InvalidRow), (("Unlike" : Str), "ValueError", C_Unlike), (("NoPlace" : Str), "LookupError", C_NoPlace), (("Overlap" : Str), "LookupError", C_Overlap), (("OutOfRange" : Str), "LookupError", C_OutOfRange), (("NoFile" : Str), "LookupError", C_NoFile), (("NoLabel" : Str), "LookupError", C_NoLabel), (("TooMany" : Str), "OverflowError", C_TooMany), (("TooLong" : Str), "OverflowError", C_TooLong), (("NotRight" : Str), "RuntimeError", C_NotRight), (("Clash" : Str), "RuntimeError", C_Clash), (("FileNotRight" : Str), "RuntimeError", C_FileNotRight), (("Apart" : Str), "RuntimeError", C_Apart), (("Broken" : Str), "RuntimeError", C_Broken), (("Unsafe" : Str), "RuntimeError", C_Unsafe)] = true)
    : ∃ (fd : FuncData) (cs : List (Addr × Addr)), (∀ p ∈ cs, p.2 ∈ ts) ∧ (∀ p ∈ cs, K.lookup p.2 = none) ∧ (∀ p ∈ cs, PySem.W.codeHdIn K p.1 p.2 = true) ∧ (∀ (s : Shared) (v : Value), BindsTo s fd ⟨[v], []⟩ [("_law_script", v)]) ∧
        ∀ base : Heap, K.In base → base.Ns mainGlobals mg → (∃ o, base.get? sysModules = some o) → (∀ p ∈ cs, TabB base mg p.1 p.2) → FnG True P w K mg base CX0 4 fa fd ["_law_script"] (spLawT K (cs.map (·.2))) := by
  have e := hfa.symm.trans (PySem.W.mg_of X G a8)
  cases e
  refine ⟨PySem.W.fnOf "law" "law" (defArgs s_law) (defBody s_law) (defScope s_law) .none kV8 dc8 pm8 an8 cd8 ct8, [], (by intro p hp; cases hp), (by intro p hp; cases hp), (by intro p hp; cases hp), fun s v => .of_eq rfl, fun base _ _ sy TBs => ?_⟩
  have F_L_pen := fun_mk (st := s_L_pen) l0 c0 k0
  have X_L_pen : FX K mg "_law_pen" s_L_pen P_L_pen _ _ := ⟨F_L_pen, F_L_pen.binds (ps := P_L_pen) fun _ _ _ _ _ _ us hl => match us, hl with | [_], _ => rfl, PySem.W.mg_of X G a0⟩
  have F_L_draw := fun_mk (st := s_L_draw) l1 c1 k1
  have X_L_draw : FX K mg "_law_draw" s_L_draw P_L_draw _ _ := ⟨F_L_draw, F_L_draw.binds (ps := P_L_draw) fun _ _ _ _ _ _ us hl => match us, hl with | [_, _], _ => rfl, PySem.W.mg_of X G a1⟩
  have F_L_pick := fun_mk (st := s_L_pick) l2 c2 k2
  have X_L_pick : FX K mg "_law_pick" s_L_pick P_L_pick _ _ := ⟨F_L_pick, F_L_pick.binds (ps := P_L_pick) fun _ _ _ _ _ _ us hl => match us, hl with | [_, _], _ => rfl, PySem.W.mg_of X G a2⟩
  have F_L_any_value := fun_mk (st := s_L_any_value) l3 c3 k3
  have X_L_any_value : FX K mg "_law_any_value" s_L_any_value P_L_any_value _ _ := ⟨F_L_any_value, F_L_any_value.binds (ps := P_L_any_value) fun _ _ _ _ _ _ us hl => match us, hl with | [_], _ => rfl, PySem.W.mg_of X G a3⟩
  have F_L_some_errors := fun_mk (st := s_L_some_errors) l4 c4 k4
  have X_L_some_errors : FX K mg "_law_some_errors" s_L_some_errors P_L_some_errors _ _ := ⟨F_L_some_errors, F_L_some_errors.binds (ps := P_L_some_errors) fun _ _ _ _ _ _ us hl => match us, hl with | [_], _ => rfl, PySem.W.mg_of X G a4⟩
  have F_L_other_errors := fun_mk (st := s_L_other_errors) l5 c5 k5
  have X_L_other_errors : FX K mg "_law_other_errors" s_L_other_errors P_L_other_errors _ _ := ⟨F_L_other_errors, F_L_other_errors.binds (ps := P_L_other_errors) fun _ _ _ _ _ _ us hl => match us, hl with | [_], _ => rfl, PySem.W.mg_of X G a5⟩
  have F_L_sorts := fun_mk (st := s_L_sorts) l6 c6 k6
  have X_L_sorts : FX K mg "_law_sorts" s_L_sorts P_L_sorts _ _ := ⟨F_L_sorts, F_L_sorts.binds (ps := P_L_sorts) fun _ _ _ _ _ _ us hl => match us, hl with | [_], _ => rfl, PySem.W.mg_of X G a6⟩
  have F_L_classes := fun_mk (st := s_L_classes) l7 c7 k7
  have X_L_classes : FX K mg "_law_classes" s_L_classes P_L_classes _ _ := ⟨F_L_classes, F_L_classes.binds (ps := P_L_classes) fun _ _ _ _ _ _ us hl => match us, hl with | [_], _ => rfl, PySem.W.mg_of X G a7⟩
  have F_law := fun_mk (st := s_law) l8 c8 k8
  have X_law : FX K mg "law" s_law P_law _ _ := ⟨F_law, F_law.binds (ps := P_law) fun _ _ _ _ _ _ us hl => match us, hl with | [_], _ => rfl, PySem.W.mg_of X G a8⟩
  have g_MAX_EDITS : mg "MAX_EDITS" = some (Value.int 4 tk0) := PySem.W.mg_of X G gl0
  have g_MAX_FILES : mg "MAX_FILES" = some (Value.int 8 tk1) := PySem.W.mg_of X G gl1
  have g_MAX_HANDS : mg "MAX_HANDS" = some (Value.int 4 tk2) := PySem.W.mg_of X G gl2
  have g_MAX_NEWS : mg "MAX_NEWS" = some (Value.int 12 tk3) := PySem.W.mg_of X G gl3
  have g_MAX_OLDS : mg "MAX_OLDS" = some (Value.int 8 tk4) := PySem.W.mg_of X G gl4
  have g_MAX_PARTS : mg "MAX_PARTS" = some (Value.int 3 tk5) := PySem.W.mg_of X G gl5
  have g_MAX_RUNS : mg "MAX_RUNS" = some (Value.int 20 tk6) := PySem.W.mg_of X G gl6
  have g_MAX_TIMES : mg "MAX_TIMES" = some (Value.int 1000000000000000000000000000000 tk7) := PySem.W.mg_of X G gl7
  have g_MAX_WORD : mg "MAX_WORD" = some (Value.int 40 tk8) := PySem.W.mg_of X G gl8
  have b_LookupError : mg "LookupError" = none := PySem.W.mg_none_of X G z0
  have b_OverflowError : mg "OverflowError" = none := PySem.W.mg_none_of X G z1
  have b_RuntimeError : mg "RuntimeError" = none := PySem.W.mg_none_of X G z2
  have b_ValueError : mg "ValueError" = none := PySem.W.mg_none_of X G z3
  have b_abs : mg "abs" = none := PySem.W.mg_none_of X G z4
  have b_int : mg "int" = none := PySem.W.mg_none_of X G z5
  have b_isinstance : mg "isinstance" = none := PySem.W.mg_none_of X G z6
  have b_len : mg "len" = none := PySem.W.mg_none_of X G z7
  have b_list : mg "list" = none := PySem.W.mg_none_of X G z8
  have b_min : mg "min" = none := PySem.W.mg_none_of X G z9
  have b_range : mg "range" = none := PySem.W.mg_none_of X G z10
  have b_repr : mg "repr" = none := PySem.W.mg_none_of X G z11
  have b_zip : mg "zip" = none := PySem.W.mg_none_of X G z12
  have XT : PX.XTop P K mg := ⟨PySem.W.mg_none_of X G xs, xo, xn⟩
  have mc_Apart : mg "Apart" = some (.ref C_Apart) := PySem.W.mg_of X G e0a
  have XC_Apart : XCl ⟨K, mg, P, w, base, [], sy, True, fun _ => none⟩ "Apart" ["name"] C_Apart := xcl1 (G := ⟨K, mg, P, w, base, [], sy, True, fun _ => none⟩) (x := "Apart") PX.xbR PX.nm_name XT mc_Apart e0b e0c e0d0 e0e e0f e0g e0h e0i e0j e0k e0l e0m e0n
  have xh_Apart := xhdB_ok e0x
  have mc_Broken : mg "Broken" = some (.ref C_Broken) := PySem.W.mg_of X G e1a
  have XC_Broken : XCl ⟨K, mg, P, w, base, [], sy, True, fun _ => none⟩ "Broken" ["name"] C_Broken := xcl1 (G := ⟨K, mg, P, w, base, [], sy, True, fun _ => none⟩) (x := "Broken") PX.xbR PX.nm_name XT mc_Broken e1b e1c e1d0 e1e e1f e1g e1h e1i e1j e1k e1l e1m e1n
  have xh_Broken := xhdB_ok e1x
  have mc_Clash : mg "Clash" = some (.ref C_Clash) := PySem.W.mg_of X G e2a
  have XC_Clash : XCl ⟨K, mg, P, w, base, [], sy, True, fun _ => none⟩ "Clash" ["hand", "other"] C_Clash := xcl2 (G := ⟨K, mg, P, w, base, [], sy, True, fun _ => none⟩) (x := "Clash") PX.xbR PX.nm_hand_other XT mc_Clash e2b e2c e2d0 e2d1 e2e e2f e2g e2h e2i e2j e2k e2l e2m e2n
  have xh_Clash := xhdB_ok e2x
  have mc_FileNotRight : mg "FileNotRight" = some (.ref C_FileNotRight) := PySem.W.mg_of X G e3a
  have XC_FileNotRight : XCl ⟨K, mg, P, w, base, [], sy, True, fun _ => none⟩ "FileNotRight" ["name", "index"] C_FileNotRight := xcl2 (G := ⟨K, mg, P, w, base, [], sy, True, fun _ => none⟩) (x := "FileNotRight") PX.xbR PX.nm_name_index XT mc_FileNotRight e3b e3c e3d0 e3d1 e3e e3f e3g e3h e3i e3j e3k e3l e3m e3n
  have xh_FileNotRight := xhdB_ok e3x
  have mc_InvalidChange : mg "InvalidChange" = some (.ref C_InvalidChange) := PySem.W.mg_of X G e4a
  have XC_InvalidChange : XCl ⟨K, mg, P, w, base, [], sy, True, fun _ => none⟩ "InvalidChange" ["index"] C_InvalidChange := xcl1 (G := ⟨K, mg, P, w, base, [], sy, True, fun _ => none⟩) (x := "InvalidChange") PX.xbV PX.nm_index XT mc_InvalidChange e4b e4c e4d0 e4e e4f e4g e4h e4i e4j e4k e4l e4m e4n
  have xh_InvalidChange := xhdB_ok e4x
  have mc_InvalidCount : mg "InvalidCount" = some (.ref C_InvalidCount) := PySem.W.mg_of X G e5a
  have XC_InvalidCount : XCl ⟨K, mg, P, w, base, [], sy, True, fun _ => none⟩ "InvalidCount" ["value"] C_InvalidCount := xcl1 (G := ⟨K, mg, P, w, base, [], sy, True, fun _ => none⟩) (x := "InvalidCount") PX.xbV PX.nm_value XT mc_InvalidCount e5b e5c e5d0 e5e e5f e5g e5h e5i e5j e5k e5l e5m e5n
  have xh_InvalidCount := xhdB_ok e5x
  have mc_InvalidEdit : mg "InvalidEdit" = some (.ref C_InvalidEdit) := PySem.W.mg_of X G e6a
  have XC_InvalidEdit : XCl ⟨K, mg, P, w, base, [], sy, True, fun _ => none⟩ "InvalidEdit" ["index"] C_InvalidEdit := xcl1 (G := ⟨K, mg, P, w, base, [], sy, True, fun _ => none⟩) (x := "InvalidEdit") PX.xbV PX.nm_index XT mc_InvalidEdit e6b e6c e6d0 e6e e6f e6g e6h e6i e6j e6k e6l e6m e6n
  have xh_InvalidEdit := xhdB_ok e6x
  have mc_InvalidFiles : mg "InvalidFiles" = some (.ref C_InvalidFiles) := PySem.W.mg_of X G e7a
  have XC_InvalidFiles : XCl ⟨K, mg, P, w, base, [], sy, True, fun _ => none⟩ "InvalidFiles" ["value"] C_InvalidFiles := xcl1 (G := ⟨K, mg, P, w, base, [], sy, True, fun _ => none⟩) (x := "InvalidFiles") PX.xbV PX.nm_value XT mc_InvalidFiles e7b e7c e7d0 e7e e7f e7g e7h e7i e7j e7k e7l e7m e7n
  have xh_InvalidFiles := xhdB_ok e7x
  have mc_InvalidHand : mg "InvalidHand" = some (.ref C_InvalidHand) := PySem.W.mg_of X G e8a
  have XC_InvalidHand : XCl ⟨K, mg, P, w, base, [], sy, True, fun _ => none⟩ "InvalidHand" ["value"] C_InvalidHand := xcl1 (G := ⟨K, mg, P, w, base, [], sy, True, fun _ => none⟩) (x := "InvalidHand") PX.xbV PX.nm_value XT mc_InvalidHand e8b e8c e8d0 e8e e8f e8g e8h e8i e8j e8k e8l e8m e8n
  have xh_InvalidHand := xhdB_ok e8x
  have mc_InvalidName : mg "InvalidName" = some (.ref C_InvalidName) := PySem.W.mg_of X G e9a
  have XC_InvalidName : XCl ⟨K, mg, P, w, base, [], sy, True, fun _ => none⟩ "InvalidName" ["value"] C_InvalidName := xcl1 (G := ⟨K, mg, P, w, base, [], sy, True, fun _ => none⟩) (x := "InvalidName") PX.xbV PX.nm_value XT mc_InvalidName e9b e9c e9d0 e9e e9f e9g e9h e9i e9j e9k e9l e9m e9n
  have xh_InvalidName := xhdB_ok e9x
  have mc_InvalidNew : mg "InvalidNew" = some (.ref C_InvalidNew) := PySem.W.mg_of X G e10a
  have XC_InvalidNew : XCl ⟨K, mg, P, w, base, [], sy, True, fun _ => none⟩ "InvalidNew" ["value"] C_InvalidNew := xcl1 (G := ⟨K, mg, P, w, base, [], sy, True, fun _ => none⟩) (x := "InvalidNew") PX.xbV PX.nm_value XT mc_InvalidNew e10b e10c e10d0 e10e e10f e10g e10h e10i e10j e10k e10l e10m e10n
  have xh_InvalidNew := xhdB_ok e10x
  have mc_InvalidOld : mg "InvalidOld" = some (.ref C_InvalidOld) := PySem.W.mg_of X G e11a
  have XC_InvalidOld : XCl ⟨K, mg, P, w, base, [], sy, True, fun _ => none⟩ "InvalidOld" ["value"] C_InvalidOld := xcl1 (G := ⟨K, mg, P, w, base, [], sy, True, fun _ => none⟩) (x := "InvalidOld") PX.xbV PX.nm_value XT mc_InvalidOld e11b e11c e11d0 e11e e11f e11g e11h e11i e11j e11k e11l e11m e11n
  have xh_InvalidOld := xhdB_ok e11x
  have mc_InvalidPart : mg "InvalidPart" = some (.ref C_InvalidPart) := PySem.W.mg_of X G e12a
  have XC_InvalidPart : XCl ⟨K, mg, P, w, base, [], sy, True, fun _ => none⟩ "InvalidPart" ["index"] C_InvalidPart := xcl1 (G := ⟨K, mg, P, w, base, [], sy, True, fun _ => none⟩) (x := "InvalidPart") PX.xbV PX.nm_index XT mc_InvalidPart e12b e12c e12d0 e12e e12f e12g e12h e12i e12j e12k e12l e12m e12n
  have xh_InvalidPart := xhdB_ok e12x
  have mc_InvalidProgram : mg "InvalidProgram" = some (.ref C_InvalidProgram) := PySem.W.mg_of X G e13a
  have XC_InvalidProgram : XCl ⟨K, mg, P, w, base, [], sy, True, fun _ => none⟩ "InvalidProgram" ["index"] C_InvalidProgram := xcl1 (G := ⟨K, mg, P, w, base, [], sy, True, fun _ => none⟩) (x := "InvalidProgram") PX.xbV PX.nm_index XT mc_InvalidProgram e13b e13c e13d0 e13e e13f e13g e13h e13i e13j e13k e13l e13m e13n
  have xh_InvalidProgram := xhdB_ok e13x
  have mc_InvalidRow : mg "InvalidRow" = some (.ref C_InvalidRow) := PySem.W.mg_of X G e14a
  have XC_InvalidRow : XCl ⟨K, mg, P, w, base, [], sy, True, fun _ => none⟩ "InvalidRow" ["row"] C_InvalidRow := xcl1 (G := ⟨K, mg, P, w, base, [], sy, True, fun _ => none⟩) (x := "InvalidRow") PX.xbV PX.nm_row XT mc_InvalidRow e14b e14c e14d0 e14e e14f e14g e14h e14i e14j e14k e14l e14m e14n
  have xh_InvalidRow := xhdB_ok e14x
  have mc_InvalidRun : mg "InvalidRun" = some (.ref C_InvalidRun) := PySem.W.mg_of X G e15a
  have XC_InvalidRun : XCl ⟨K, mg, P, w, base, [], sy, True, fun _ => none⟩ "InvalidRun" ["index"] C_InvalidRun := xcl1 (G := ⟨K, mg, P, w, base, [], sy, True, fun _ => none⟩) (x := "InvalidRun") PX.xbV PX.nm_index XT mc_InvalidRun e15b e15c e15d0 e15e e15f e15g e15h e15i e15j e15k e15l e15m e15n
  have xh_InvalidRun := xhdB_ok e15x
  have mc_InvalidSpot : mg "InvalidSpot" = some (.ref C_InvalidSpot) := PySem.W.mg_of X G e16a
  have XC_InvalidSpot : XCl ⟨K, mg, P, w, base, [], sy, True, fun _ => none⟩ "InvalidSpot" ["value"] C_InvalidSpot := xcl1 (G := ⟨K, mg, P, w, base, [], sy, True, fun _ => none⟩) (x := "InvalidSpot") PX.xbV PX.nm_value XT mc_InvalidSpot e16b e16c e16d0 e16e e16f e16g e16h e16i e16j e16k e16l e16m e16n
  have xh_InvalidSpot := xhdB_ok e16x
  have mc_InvalidTable : mg "InvalidTable" = some (.ref C_InvalidTable) := PySem.W.mg_of X G e17a
  have XC_InvalidTable : XCl ⟨K, mg, P, w, base, [], sy, True, fun _ => none⟩ "InvalidTable" ["value"] C_InvalidTable := xcl1 (G := ⟨K, mg, P, w, base, [], sy, True, fun _ => none⟩) (x := "InvalidTable") PX.xbV PX.nm_value XT mc_InvalidTable e17b e17c e17d0 e17e e17f e17g e17h e17i e17j e17k e17l e17m e17n
  have xh_InvalidTable := xhdB_ok e17x
  have mc_InvalidText : mg "InvalidText" = some (.ref C_InvalidText) := PySem.W.mg_of X G e18a
  have XC_InvalidText : XCl ⟨K, mg, P, w, base, [], sy, True, fun _ => none⟩ "InvalidText" ["value"] C_InvalidText := xcl1 (G := ⟨K, mg, P, w, base, [], sy, True, fun _ => none⟩) (x := "InvalidText") PX.xbV PX.nm_value XT mc_InvalidText e18b e18c e18d0 e18e e18f e18g e18h e18i e18j e18k e18l e18m e18n
  have xh_InvalidText := xhdB_ok e18x
  have mc_NoBack : mg "NoBack" = some (.ref C_NoBack) := PySem.W.mg_of X G e19a
  have XC_NoBack : XCl ⟨K, mg, P, w, base, [], sy, True, fun _ => none⟩ "NoBack" ["index"] C_NoBack := xcl1 (G := ⟨K, mg, P, w, base, [], sy, True, fun _ => none⟩) (x := "NoBack") PX.xbV PX.nm_index XT mc_NoBack e19b e19c e19d0 e19e e19f e19g e19h e19i e19j e19k e19l e19m e19n
  have xh_NoBack := xhdB_ok e19x
  have mc_NoExchange : mg "NoExchange" = some (.ref C_NoExchange) := PySem.W.mg_of X G e20a
  have XC_NoExchange : XCl ⟨K, mg, P, w, base, [], sy, True, fun _ => none⟩ "NoExchange" ["index"] C_NoExchange := xcl1 (G := ⟨K, mg, P, w, base, [], sy, True, fun _ => none⟩) (x := "NoExchange") PX.xbV PX.nm_index XT mc_NoExchange e20b e20c e20d0 e20e e20f e20g e20h e20i e20j e20k e20l e20m e20n
  have xh_NoExchange := xhdB_ok e20x
  have mc_NoFile : mg "NoFile" = some (.ref C_NoFile) := PySem.W.mg_of X G e21a
  have XC_NoFile : XCl ⟨K, mg, P, w, base, [], sy, True, fun _ => none⟩ "NoFile" ["name"] C_NoFile := xcl1 (G := ⟨K, mg, P, w, base, [], sy, True, fun _ => none⟩) (x := "NoFile") PX.xbL PX.nm_name XT mc_NoFile e21b e21c e21d0 e21e e21f e21g e21h e21i e21j e21k e21l e21m e21n
  have xh_NoFile := xhdB_ok e21x
  have mc_NoLabel : mg "NoLabel" = some (.ref C_NoLabel) := PySem.W.mg_of X G e22a
  have XC_NoLabel : XCl ⟨K, mg, P, w, base, [], sy, True, fun _ => none⟩ "NoLabel" ["label"] C_NoLabel := xcl1 (G := ⟨K, mg, P, w, base, [], sy, True, fun _ => none⟩) (x := "NoLabel") PX.xbL PX.nm_label XT mc_NoLabel e22b e22c e22d0 e22e e22f e22g e22h e22i e22j e22k e22l e22m e22n
  have xh_NoLabel := xhdB_ok e22x
  have mc_NoMirror : mg "NoMirror" = some (.ref C_NoMirror) := PySem.W.mg_of X G e23a
  have XC_NoMirror : XCl ⟨K, mg, P, w, base, [], sy, True, fun _ => none⟩ "NoMirror" ["index"] C_NoMirror := xcl1 (G := ⟨K, mg, P, w, base, [], sy, True, fun _ => none⟩) (x := "NoMirror") PX.xbV PX.nm_index XT mc_NoMirror e23b e23c e23d0 e23e e23f e23g e23h e23i e23j e23k e23l e23m e23n
  have xh_NoMirror := xhdB_ok e23x
  have mc_NoPlace : mg "NoPlace" = some (.ref C_NoPlace) := PySem.W.mg_of X G e24a
  have XC_NoPlace : XCl ⟨K, mg, P, w, base, [], sy, True, fun _ => none⟩ "NoPlace" ["index", "number"] C_NoPlace := xcl2 (G := ⟨K, mg, P, w, base, [], sy, True, fun _ => none⟩) (x := "NoPlace") PX.xbL PX.nm_index_number XT mc_NoPlace e24b e24c e24d0 e24d1 e24e e24f e24g e24h e24i e24j e24k e24l e24m e24n
  have xh_NoPlace := xhdB_ok e24x
  have mc_NotRight : mg "NotRight" = some (.ref C_NotRight) := PySem.W.mg_of X G e25a
  have XC_NotRight : XCl ⟨K, mg, P, w, base, [], sy, True, fun _ => none⟩ "NotRight" ["hand"] C_NotRight := xcl1 (G := ⟨K, mg, P, w, base, [], sy, True, fun _ => none⟩) (x := "NotRight") PX.xbR PX.nm_hand XT mc_NotRight e25b e25c e25d0 e25e e25f e25g e25h e25i e25j e25k e25l e25m e25n
  have xh_NotRight := xhdB_ok e25x
  have mc_OutOfRange : mg "OutOfRange" = some (.ref C_OutOfRange) := PySem.W.mg_of X G e26a
  have XC_OutOfRange : XCl ⟨K, mg, P, w, base, [], sy, True, fun _ => none⟩ "OutOfRange" ["value"] C_OutOfRange := xcl1 (G := ⟨K, mg, P, w, base, [], sy, True, fun _ => none⟩) (x := "OutOfRange") PX.xbL PX.nm_value XT mc_OutOfRange e26b e26c e26d0 e26e e26f e26g e26h e26i e26j e26k e26l e26m e26n
  have xh_OutOfRange := xhdB_ok e26x
  have mc_Overlap : mg "Overlap" = some (.ref C_Overlap) := PySem.W.mg_of X G e27a
  have XC_Overlap : XCl ⟨K, mg, P, w, base, [], sy, True, fun _ => none⟩ "Overlap" ["index"] C_Overlap := xcl1 (G := ⟨K, mg, P, w, base, [], sy, True, fun _ => none⟩) (x := "Overlap") PX.xbL PX.nm_index XT mc_Overlap e27b e27c e27d0 e27e e27f e27g e27h e27i e27j e27k e27l e27m e27n
  have xh_Overlap := xhdB_ok e27x
  have mc_TooLong : mg "TooLong" = some (.ref C_TooLong) := PySem.W.mg_of X G e28a
  have XC_TooLong : XCl ⟨K, mg, P, w, base, [], sy, True, fun _ => none⟩ "TooLong" ["limit"] C_TooLong := xcl1 (G := ⟨K, mg, P, w, base, [], sy, True, fun _ => none⟩) (x := "TooLong") PX.xbO PX.nm_limit XT mc_TooLong e28b e28c e28d0 e28e e28f e28g e28h e28i e28j e28k e28l e28m e28n
  have xh_TooLong := xhdB_ok e28x
  have mc_TooMany : mg "TooMany" = some (.ref C_TooMany) := PySem.W.mg_of X G e29a
  have XC_TooMany : XCl ⟨K, mg, P, w, base, [], sy, True, fun _ => none⟩ "TooMany" ["limit"] C_TooMany := xcl1 (G := ⟨K, mg, P, w, base, [], sy, True, fun _ => none⟩) (x := "TooMany") PX.xbO PX.nm_limit XT mc_TooMany e29b e29c e29d0 e29e e29f e29g e29h e29i e29j e29k e29l e29m e29n
  have xh_TooMany := xhdB_ok e29x
  have mc_Unbounded : mg "Unbounded" = some (.ref C_Unbounded) := PySem.W.mg_of X G e30a
  have XC_Unbounded : XCl ⟨K, mg, P, w, base, [], sy, True, fun _ => none⟩ "Unbounded" ["index"] C_Unbounded := xcl1 (G := ⟨K, mg, P, w, base, [], sy, True, fun _ => none⟩) (x := "Unbounded") PX.xbV PX.nm_index XT mc_Unbounded e30b e30c e30d0 e30e e30f e30g e30h e30i e30j e30k e30l e30m e30n
  have xh_Unbounded := xhdB_ok e30x
  have mc_Unlike : mg "Unlike" = some (.ref C_Unlike) := PySem.W.mg_of X G e31a
  have xh_Unlike := xhdB_ok e31x
  have mc_Unreadable : mg "Unreadable" = some (.ref C_Unreadable) := PySem.W.mg_of X G e32a
  have XC_Unreadable : XCl ⟨K, mg, P, w, base, [], sy, True, fun _ => none⟩ "Unreadable" ["index"] C_Unreadable := xcl1 (G := ⟨K, mg, P, w, base, [], sy, True, fun _ => none⟩) (x := "Unreadable") PX.xbV PX.nm_index XT mc_Unreadable e32b e32c e32d0 e32e e32f e32g e32h e32i e32j e32k e32l e32m e32n
  have xh_Unreadable := xhdB_ok e32x
  have mc_Unsafe : mg "Unsafe" = some (.ref C_Unsafe) := PySem.W.mg_of X G e33a
  have XC_Unsafe : XCl ⟨K, mg, P, w, base, [], sy, True, fun _ => none⟩ "Unsafe" ["name", "case"] C_Unsafe := xcl2 (G := ⟨K, mg, P, w, base, [], sy, True, fun _ => none⟩) (x := "Unsafe") PX.xbR PX.nm_name_case XT mc_Unsafe e33b e33c e33d0 e33d1 e33e e33f e33g e33h e33i e33j e33k e33l e33m e33n
  have xh_Unsafe := xhdB_ok e33x
  have XO_Unlike : XCo ⟨K, mg, P, w, base, [], sy, True, fun _ => none⟩ "Unlike" C_Unlike := ⟨mc_Unlike, xk_Unlike, _, _, _, _, F.excBase_ValueError, xo_Unlike⟩
  have EB : ErrB ⟨K, mg, P, w, base, [], sy, True, fun _ => none⟩ errTab := errB_ok (ls := [(("InvalidOld" : Str), "ValueError", C_InvalidOld), (("InvalidNew" : Str), "ValueError", C_InvalidNew), (("InvalidText" : Str), "ValueError", C_InvalidText), (("InvalidTable" : Str), "ValueError", C_InvalidTable), (("InvalidCount" : Str), "ValueError", C_InvalidCount), (("InvalidSpot" : Str), "ValueError", C_InvalidSpot), (("InvalidHand" : Str), "ValueError", C_InvalidHand), (("InvalidFiles" : Str), "ValueError", C_InvalidFiles), (("InvalidName" : Str), "ValueError", C_InvalidName), (("InvalidPart" : Str), "ValueError", C_InvalidPart), (("InvalidEdit" : Str), "ValueError", C_InvalidEdit), (("InvalidChange" : Str), "ValueError", C_InvalidChange), (("InvalidProgram" : Str), "ValueError", C_InvalidProgram), (("InvalidRun" : Str), "ValueError", C_InvalidRun), (("NoExchange" : Str), "ValueError", C_NoExchange), (("NoMirror" : Str), "ValueError", C_NoMirror), (("NoBack" : Str), "ValueError", C_NoBack), (("Unbounded" : Str), "ValueError", C_Unbounded), (("Unreadable" : Str), "ValueError", C_Unreadable), (("InvalidRow" : Str), "ValueError", C_InvalidRow), (("Unlike" : Str), "ValueError", C_Unlike), (("NoPlace" : Str), "LookupError", C_NoPlace), (("Overlap" : Str), "LookupError", C_Overlap), (("OutOfRange" : Str), "LookupError", C_OutOfRange), (("NoFile" : Str), "LookupError", C_NoFile), (("NoLabel" : Str), "LookupError", C_NoLabel), (("TooMany" : Str), "OverflowError", C_TooMany), (("TooLong" : Str), "OverflowError", C_TooLong), (("NotRight" : Str), "RuntimeError", C_NotRight), (("Clash" : Str), "RuntimeError", C_Clash), (("FileNotRight" : Str), "RuntimeError", C_FileNotRight), (("Apart" : Str), "RuntimeError", C_Apart), (("Broken" : Str), "RuntimeError", C_Broken), (("Unsafe" : Str), "RuntimeError", C_Unsafe)]) (.cons mc_InvalidOld (.cons mc_InvalidNew (.cons mc_InvalidText (.cons mc_InvalidTable (.cons mc_InvalidCount (.cons mc_InvalidSpot (.cons mc_InvalidHand (.cons mc_InvalidFiles (.cons mc_InvalidName (.cons mc_InvalidPart (.cons mc_InvalidEdit (.cons mc_InvalidChange (.cons mc_InvalidProgram (.cons mc_InvalidRun (.cons mc_NoExchange (.cons mc_NoMirror (.cons mc_NoBack (.cons mc_Unbounded (.cons mc_Unreadable (.cons mc_InvalidRow (.cons mc_Unlike (.cons mc_NoPlace (.cons mc_Overlap (.cons mc_OutOfRange (.cons mc_NoFile (.cons mc_NoLabel (.cons mc_TooMany (.cons mc_TooLong (.cons mc_NotRight (.cons mc_Clash (.cons mc_FileNotRight (.cons mc_Apart (.cons mc_Broken (.cons mc_Unsafe .nil)))))))))))))))))))))))))))))))))) eb
  have G_L_pen := ok_L_pen (G := ⟨K, mg, P, w, base, [], sy, True, fun _ => none⟩) X_L_pen  b_list
  have G_L_draw := ok_L_draw (G := ⟨K, mg, P, w, base, [], sy, True, fun _ => none⟩) X_L_draw  b_abs b_int b_len
  have G_L_pick := ok_L_pick (G := ⟨K, mg, P, w, base, [], sy, True, fun _ => none⟩) X_L_pick X_L_draw G_L_draw b_len
  have G_L_any_value := ok_L_any_value (G := ⟨K, mg, P, w, base, [], sy, True, fun _ => none⟩) X_L_any_value X_L_pick G_L_pick
  have G_L_some_errors := ok_L_some_errors (G := ⟨K, mg, P, w, base, [], sy, True, fun _ => none⟩) X_L_some_errors  XC_InvalidChange XC_InvalidCount XC_InvalidEdit XC_InvalidFiles XC_InvalidHand XC_InvalidName XC_InvalidNew XC_InvalidOld XC_InvalidPart XC_InvalidProgram XC_InvalidRun XC_InvalidSpot XC_InvalidTable XC_InvalidText XC_NoBack XC_NoExchange XC_NoMirror mc_InvalidChange xh_InvalidChange mc_InvalidCount xh_InvalidCount mc_InvalidEdit xh_InvalidEdit mc_InvalidFiles xh_InvalidFiles mc_InvalidHand xh_InvalidHand mc_InvalidName xh_InvalidName mc_InvalidNew xh_InvalidNew mc_InvalidOld xh_InvalidOld mc_InvalidPart xh_InvalidPart mc_InvalidProgram xh_InvalidProgram mc_InvalidRun xh_InvalidRun mc_InvalidSpot xh_InvalidSpot mc_InvalidTable xh_InvalidTable mc_InvalidText xh_InvalidText mc_NoBack xh_NoBack mc_NoExchange xh_NoExchange mc_NoMirror xh_NoMirror yf6 yf7 yf8 yf9 yf10 yf11 yf12 yf13 yf14 yf15 yf17 yf18 yf19 yf20 yf21 yf22 yf25
  have G_L_other_errors := ok_L_other_errors (G := ⟨K, mg, P, w, base, [], sy, True, fun _ => none⟩) X_L_other_errors  XC_Apart XC_Broken XC_Clash XC_FileNotRight XC_InvalidRow XC_NoFile XC_NoLabel XC_NoPlace XC_NotRight XC_OutOfRange XC_Overlap XC_TooLong XC_TooMany XC_Unbounded XC_Unreadable XC_Unsafe mc_Apart xh_Apart mc_Broken xh_Broken mc_Clash xh_Clash mc_FileNotRight xh_FileNotRight mc_InvalidRow xh_InvalidRow mc_NoFile xh_NoFile mc_NoLabel xh_NoLabel mc_NoPlace xh_NoPlace mc_NotRight xh_NotRight mc_OutOfRange xh_OutOfRange mc_Overlap xh_Overlap mc_TooLong xh_TooLong mc_TooMany xh_TooMany mc_Unbounded xh_Unbounded mc_Unreadable xh_Unreadable mc_Unsafe xh_Unsafe yf0 yf1 yf2 yf3 yf4 yf5 yf16 yf23 yf24 yf26 yf27 yf28 yf29 yf30 yf31 yf32 yf33 yf34 yf35 yf36 XO_Unlike
  have G_L_sorts := ok_L_sorts (G := ⟨K, mg, P, w, base, [], sy, True, fun _ => none⟩) X_L_sorts  EB b_LookupError b_OverflowError b_RuntimeError b_ValueError b_isinstance b_zip
  have G_L_classes := ok_L_classes (G := ⟨K, mg, P, w, base, [], sy, True, fun _ => none⟩) X_L_classes  mc_Apart xh_Apart mc_Broken xh_Broken mc_Clash xh_Clash mc_FileNotRight xh_FileNotRight mc_InvalidChange xh_InvalidChange mc_InvalidCount xh_InvalidCount mc_InvalidEdit xh_InvalidEdit mc_InvalidFiles xh_InvalidFiles mc_InvalidHand xh_InvalidHand mc_InvalidName xh_InvalidName mc_InvalidNew xh_InvalidNew mc_InvalidOld xh_InvalidOld mc_InvalidPart xh_InvalidPart mc_InvalidProgram xh_InvalidProgram mc_InvalidRow xh_InvalidRow mc_InvalidRun xh_InvalidRun mc_InvalidSpot xh_InvalidSpot mc_InvalidTable xh_InvalidTable mc_InvalidText xh_InvalidText mc_NoBack xh_NoBack mc_NoExchange xh_NoExchange mc_NoFile xh_NoFile mc_NoLabel xh_NoLabel mc_NoMirror xh_NoMirror mc_NoPlace xh_NoPlace mc_NotRight xh_NotRight mc_OutOfRange xh_OutOfRange mc_Overlap xh_Overlap mc_TooLong xh_TooLong mc_TooMany xh_TooMany mc_Unbounded xh_Unbounded mc_Unlike xh_Unlike mc_Unreadable xh_Unreadable mc_Unsafe xh_Unsafe EB b_isinstance
  have G_law := ok_law (G := ⟨K, mg, P, w, base, [], sy, True, fun _ => none⟩) X_law X_L_pen G_L_pen X_L_any_value G_L_any_value X_L_some_errors G_L_some_errors X_L_other_errors G_L_other_errors X_L_classes G_L_classes X_L_sorts G_L_sorts b_len b_min b_range b_repr g_MAX_EDITS g_MAX_FILES g_MAX_HANDS g_MAX_NEWS g_MAX_OLDS g_MAX_PARTS g_MAX_RUNS g_MAX_TIMES g_MAX_WORD trivial
  exact law_plainT G_law Den.law_holds (by simp)
end Law
open PySem PySem.W PyProof.Rows
theorem PySem.W.Fast.tw7284205374524691147 : True := trivial
theorem PySem.W.Fast.tw6690988214232055752 : True := trivial
theorem PySem.W.Fast.tw16668548674185929564 : True := trivial
theorem PySem.W.Fast.tw15020229421769604777 : True := trivial
theorem PySem.W.Fast.tw2793347248477730509 : True := trivial
theorem PySem.W.Fast.tw5355004845713106281 : True := trivial
theorem PySem.W.Fast.tw6112238394342326676 : True := trivial
theorem PySem.W.Fast.tw18097404110667821147 : True := trivial
theorem PySem.W.Fast.tw11259191087308459519 : True := trivial
theorem PySem.W.Fast.tw6542943226964582389 : True := trivial
theorem PySem.W.Fast.tw3444367407680790552 : True := trivial
theorem PySem.W.Fast.tw13652814870817435575 : True := trivial
theorem PySem.W.Fast.tw15287920052306289574 : True := trivial
theorem PySem.W.Fast.tw17741976407932377684 : True := trivial
theorem PySem.W.Fast.tw2374332431642831511 : True := trivial
theorem PySem.W.Fast.tw8375164034123584789 : True := trivial
theorem PySem.W.Fast.tw8431930374088467484 : True := trivial
theorem PySem.W.Fast.tw9745733257878182976 : True := trivial
theorem PySem.W.Fast.tw11317199979246264354 : True := trivial
theorem PySem.W.Fast.tw6321885270759219046 : True := trivial
theorem PySem.W.Fast.tw3113408049307355373 : True := trivial
theorem PySem.W.Fast.tw2939451151658676239 : True := trivial
theorem PySem.W.Fast.tw11977540467780302468 : True := trivial
theorem PySem.W.Fast.tw4722810284307591737 : True := trivial
theorem PySem.W.Fast.tw1362511710885927233 : True := trivial
theorem PySem.W.Fast.tw14126361887262818066 : True := trivial
theorem PySem.W.Fast.tw280155866680195005 : True := trivial
theorem PySem.W.Fast.tw5279521078451734966 : True := trivial
theorem PySem.W.Fast.tw4481571150657752595 : True := trivial
theorem PySem.W.Fast.tw12415237823881143536 : True := trivial
theorem PySem.W.Fast.tw2853648509798926408 : True := trivial
theorem PySem.W.Fast.tw5903100904936345280 : True := trivial
theorem PySem.W.Fast.tw613617042668766729 : True := trivial
theorem PySem.W.Fast.tw17637307995063507644 : True := trivial
theorem PySem.W.Fast.tw15740133515023223281 : True := trivial
theorem PySem.W.Fast.tw4635679072373942679 : True := trivial
theorem PySem.W.Fast.tw2434830942828547576 : True := trivial
theorem PySem.W.Fast.tw10961694495507513325 : True := trivial
theorem PySem.W.Fast.tw12017488967546535177 : True := trivial
theorem PySem.W.Fast.tw12120489486511384888 : True := trivial
theorem PySem.W.Fast.tw16788202550629311221 : True := trivial
theorem PySem.W.Fast.tw6415848213503435324 : True := trivial
theorem PySem.W.Fast.tw3026949621248116985 : True := trivial
theorem PySem.W.Fast.tw5870654027307780395 : True := trivial
theorem PySem.W.Fast.tw14163112569536949078 : True := trivial
theorem PySem.W.Fast.tw8629694107307269303 : True := trivial
theorem PySem.W.Fast.tw7447796823691147343 : True := trivial
theorem PySem.W.Fast.tw1903879920760229183 : True := trivial
theorem PySem.W.Fast.tw17929282302976191685 : True := trivial
theorem PySem.W.Fast.tw10715608761915423777 : True := trivial
theorem PySem.W.Fast.tw15238902294440555628 : True := trivial
theorem PySem.W.Fast.tw982130015500494897 : True := trivial
theorem PySem.W.Fast.tw1299899335307129775 : True := trivial
theorem PySem.W.Fast.tw4058016293779355910 : True := trivial
theorem PySem.W.Fast.tw5528243969467181688 : True := trivial
theorem PySem.W.Fast.tw16056996100120594094 : True := trivial
theorem PySem.W.Fast.tw10558558104242853000 : True := trivial
theorem PySem.W.Fast.tw14624441405960849943 : True := trivial
theorem PySem.W.Fast.tw15467171981274054263 : True := trivial
theorem PySem.W.Fast.tw6602758391164949108 : True := trivial
theorem PySem.W.Fast.tw15366261562612857273 : True := trivial
theorem PySem.W.Fast.tw8266500112693647391 : True := trivial
theorem PySem.W.Fast.tw18149752924154952593 : True := trivial
theorem PySem.W.Fast.tw8730394206603194954 : True := trivial
theorem PySem.W.Fast.tw13109370381689064607 : True := trivial
theorem PySem.W.Fast.tw2158886321023031070 : True := trivial
theorem PySem.W.Fast.tw15795732553298573338 : True := trivial
theorem PySem.W.Fast.tw13262271344792968813 : True := trivial
theorem PySem.W.Fast.tw17777779734231959299 : True := trivial
theorem PySem.W.Fast.tw3300669858670050341 : True := trivial
theorem PySem.W.Fast.tw4006955955797395497 : True := trivial
theorem PySem.W.Fast.tw3119537693070111375 : True := trivial
theorem PySem.W.Fast.tw5209135702149793930 : True := trivial
theorem PySem.W.Fast.tw12665616982444022346 : True := trivial
theorem PySem.W.Fast.tw9063359585456827587 : True := trivial
theorem PySem.W.Fast.tw16697999887762876306 : True := trivial
theorem PySem.W.Fast.tw3056787058145140763 : True := trivial
theorem PySem.W.Fast.tw11276055207146519715 : True := trivial
theorem PySem.W.Fast.tw9121572658511244532 : True := trivial
theorem PySem.W.Fast.tw3182922519766042153 : True := trivial
theorem PySem.W.Fast.tw14139749227994141732 : True := trivial
theorem PySem.W.Fast.tw4905543505913954224 : True := trivial
theorem PySem.W.Fast.tw1176023529618793114 : True := trivial
theorem PySem.W.Fast.tw8196990653208224045 : True := trivial
theorem PySem.W.Fast.tw6211936284385061911 : True := trivial
theorem PySem.W.Fast.tw9878642284506644980 : True := trivial
theorem PySem.W.Fast.tw5396888700050340781 : True := trivial
theorem PySem.W.Fast.tw15299533265515968556 : True := trivial
theorem PySem.W.Fast.tw2263621492833928641 : True := trivial
theorem PySem.W.Fast.tw11750947959737464366 : True := trivial
theorem PySem.W.Fast.tw5998678475077368017 : True := trivial
theorem PySem.W.Fast.tw11191692500187527645 : True := trivial
theorem PySem.W.Fast.tw16142902595787935335 : True := trivial
theorem PySem.W.Fast.tw14117506339929731214 : True := trivial
theorem PySem.W.Fast.tw9461538174839249100 : True := trivial
theorem PySem.W.Fast.tw2353005735281608053 : True := trivial
theorem PySem.W.Fast.tw17742635275924311217 : True := trivial
theorem PySem.W.Fast.tw51473227297965082 : True := trivial
theorem PySem.W.Fast.tw14690673629844736839 : True := trivial
theorem PySem.W.Fast.tw6227933734730575873 : True := trivial
theorem PySem.W.Fast.tw12237578724785599663 : True := trivial
theorem PySem.W.Fast.tw7900248106909777920 : True := trivial
theorem PySem.W.Fast.tw18095063761897414434 : True := trivial
theorem PySem.W.Fast.tw14990886554195706857 : True := trivial
theorem PySem.W.Fast.tw7161858791302138519 : True := trivial
theorem PySem.W.Fast.tw1472859621191904089 : True := trivial
theorem PySem.W.Fast.tw8307925801907161463 : True := trivial
theorem PySem.W.Fast.tw2589215815199236578 : True := trivial
theorem PySem.W.Fast.tw13685485593125198317 : True := trivial
theorem PySem.W.Fast.tw9999391314790987812 : True := trivial
theorem PySem.W.Fast.tw8666346020377292187 : True := trivial
theorem PySem.W.Fast.tw2197090206637831179 : True := trivial
theorem PySem.W.Fast.tw12661617676747468771 : True := trivial
theorem PySem.W.Fast.tw18064939181359485386 : True := trivial
theorem PySem.W.Fast.tw14174339764686577524 : True := trivial
theorem PySem.W.Fast.tw17074054997430104428 : True := trivial
theorem PySem.W.Fast.tw10472751026764386031 : True := trivial
theorem PySem.W.Fast.tw8032305380873479675 : True := trivial
theorem PySem.W.Fast.tw12879876687228282929 : True := trivial
theorem PySem.W.Fast.tw17173453243241647571 : True := trivial
theorem PySem.W.Fast.tw5128931190648316229 : True := trivial
theorem PySem.W.Fast.tw12019324339097778284 : True := trivial
theorem PySem.W.Fast.tw6475332116699429928 : True := trivial
theorem PySem.W.Fast.tw6459879996037995169 : True := trivial
theorem PySem.W.Fast.tw6896640755875813770 : True := trivial
theorem PySem.W.Fast.tw10329982301818677707 : True := trivial
theorem PySem.W.Fast.tw3153583879836060423 : True := trivial
theorem PySem.W.Fast.tw10926293717103118602 : True := trivial
theorem PySem.W.Fast.tw734461299093123535 : True := trivial
theorem PySem.W.Fast.tw6941881115046353022 : True := trivial
theorem PySem.W.Fast.tw17675451946532037253 : True := trivial
theorem PySem.W.Fast.tw1018132126581989748 : True := trivial
theorem PySem.W.Fast.tw5837146100089011853 : True := trivial
theorem PySem.W.Fast.tw4563451674030568476 : True := trivial
theorem PySem.W.Fast.tw13720494107799871344 : True := trivial
theorem PySem.W.Fast.tw16306424349252400588 : True := trivial
theorem PySem.W.Fast.tw14548432714904641532 : True := trivial
theorem PySem.W.Fast.tw13407911468587734613 : True := trivial
theorem PySem.W.Fast.tw1724123083544026467 : True := trivial
theorem PySem.W.Fast.tw5133596566123636590 : True := trivial
theorem PySem.W.Fast.tw7301667072285796945 : True := trivial
theorem PySem.W.Fast.tw17929932098414247793 : True := trivial
theorem PySem.W.Fast.tw6897532549763599975 : True := trivial
theorem PySem.W.Fast.tw14278805850375017743 : True := trivial
theorem PySem.W.Fast.tw198997773118130038 : True := trivial
theorem PySem.W.Fast.tw12042258455282946720 : True := trivial
theorem PySem.W.Fast.tw2409010219543691017 : True := trivial
theorem PySem.W.Fast.tw18155330568840280462 : True := trivial
theorem PySem.W.Fast.tw12674636017419174666 : True := trivial
theorem PySem.W.Fast.tw17618994453807078771 : True := trivial
theorem PySem.W.Fast.tw14297937648239968117 : True := trivial
theorem PySem.W.Fast.tw2514195060431023202 : True := trivial
theorem PySem.W.Fast.tw7359504547845252712 : True := trivial
theorem PySem.W.Fast.tw7263533259452622611 : True := trivial
theorem PySem.W.Fast.tw16336913525587269478 : True := trivial
theorem PySem.W.Fast.tw4948805177607297189 : True := trivial
theorem PySem.W.Fast.tw13196459663826719256 : True := trivial
theorem PySem.W.Fast.tw12626947608135838715 : True := trivial
theorem PySem.W.Fast.tw18443261508843866257 : True := trivial
theorem PySem.W.Fast.tw7385122585525243677 : True := trivial
theorem PySem.W.Fast.tw1031394607078797700 : True := trivial
theorem PySem.W.Fast.tw16560645250123806956 : True := trivial
theorem PySem.W.Fast.tw11964993705600399284 : True := trivial
theorem PySem.W.Fast.tw8760738314486743410 : True := trivial
theorem PySem.W.Fast.tw4699527923718097654 : True := trivial
theorem PySem.W.Fast.tw16934146802824952043 : True := trivial
theorem PySem.W.Fast.tw2303471786075713277 : True := trivial
theorem PySem.W.Fast.tw17429047888136188839 : True := trivial
theorem PySem.W.Fast.tw2454262889490510879 : True := trivial
theorem PySem.W.Fast.tw15689457388717711378 : True := trivial
theorem PySem.W.Fast.tw2441623942024479837 : True := trivial
theorem PySem.W.Fast.tw12414444933989664666 : True := trivial
theorem PySem.W.Fast.tw11849248289703716650 : True := trivial
theorem PySem.W.Fast.tw16611975060018000116 : True := trivial
theorem PySem.W.Fast.tw8677979519858796739 : True := trivial
theorem PySem.W.Fast.tw513744436641570363 : True := trivial
theorem PySem.W.Fast.tw18192416966299095010 : True := trivial
theorem PySem.W.Fast.tw17926312472429869185 : True := trivial
theorem PySem.W.Fast.tw1640968118840358830 : True := trivial
theorem PySem.W.Fast.tw15507098313226787816 : True := trivial
theorem PySem.W.Fast.tw13228372906967353179 : True := trivial
theorem PySem.W.Fast.tw6258308023042813791 : True := trivial
theorem PySem.W.Fast.tw10534142218358280160 : True := trivial
theorem PySem.W.Fast.tw16214813967041756390 : True := trivial
theorem PySem.W.Fast.tw3417838048816538874 : True := trivial
theorem PySem.W.Fast.tw1208124767582431809 : True := trivial
theorem PySem.W.Fast.tw468668962451328034 : True := trivial
theorem PySem.W.Fast.tw16474771473069477553 : True := trivial
theorem PySem.W.Fast.tw2050535477211394287 : True := trivial
theorem PySem.W.Fast.tw10977780008606550278 : True := trivial
theorem PySem.W.Fast.tw4877143068895514305 : True := trivial
theorem PySem.W.Fast.tw8768472269320323024 : True := trivial
theorem PySem.W.Fast.tw7603221118404972155 : True := trivial
theorem PySem.W.Fast.tw6765315431973553891 : True := trivial
theorem PySem.W.Fast.tw15197474911996616263 : True := trivial
theorem PySem.W.Fast.tw9096740211482722850 : True := trivial
theorem PySem.W.Fast.tw7873881504306252613 : True := trivial
theorem PySem.W.Fast.tw721857244106198089 : True := trivial
theorem PySem.W.Fast.tw13121820141470715631 : True := trivial
theorem PySem.W.Fast.tw15240952321481916947 : True := trivial
theorem PySem.W.Fast.tw6937904022053856087 : True := trivial
theorem PySem.W.Fast.tw17351147902626119495 : True := trivial
theorem PySem.W.Fast.tw993113046209273931 : True := trivial
theorem PySem.W.Fast.tw1574709516080787556 : True := trivial
theorem PySem.W.Fast.tw11682140915777795768 : True := trivial
theorem PySem.W.Fast.tw12475417928278537177 : True := trivial
theorem PySem.W.Fast.tw8894799160519939738 : True := trivial
theorem PySem.W.Fast.tw13377052223976360427 : True := trivial
theorem PySem.W.Fast.tw17225907356575414751 : True := trivial
theorem PySem.W.Fast.tw16825071344314606278 : True := trivial
theorem PySem.W.Fast.tw2879344547738592217 : True := trivial
theorem PySem.W.Fast.tw2030020940284387330 : True := trivial
theorem PySem.W.Fast.tw15661700413346884883 : True := trivial
theorem PySem.W.Fast.tw11171363928142773509 : True := trivial
theorem PySem.W.Fast.tw12680915254822224046 : True := trivial
theorem PySem.W.Fast.tw1255860583787599279 : True := trivial
theorem PySem.W.Fast.tw4494619621462946603 : True := trivial
theorem PySem.W.Fast.tw15736057964016646458 : True := trivial
theorem PySem.W.Fast.tw9485493142031305888 : True := trivial
theorem PySem.W.Fast.tw13898466209690698343 : True := trivial
theorem PySem.W.Fast.tw7321761529917118133 : True := trivial
theorem PySem.W.Fast.tw17349931470211013069 : True := trivial
theorem PySem.W.Fast.tw12336548580337582613 : True := trivial
theorem PySem.W.Fast.tw15476637324081091253 : True := trivial
theorem PySem.W.Fast.tw16008302963090425494 : True := trivial
theorem PySem.W.Fast.tw14242641321338050548 : True := trivial
theorem PySem.W.Fast.tw5460369394500135282 : True := trivial
theorem PySem.W.Fast.tw17750183423390024221 : True := trivial
theorem PySem.W.Fast.tw8717402338538207623 : True := trivial
theorem PySem.W.Fast.tw3231337124620819148 : True := trivial
theorem PySem.W.Fast.tw11758786769405023726 : True := trivial
theorem PySem.W.Fast.tw15578191086151206182 : True := trivial
theorem PySem.W.Fast.tw3186145250568621895 : True := trivial
theorem PySem.W.Fast.tw18101825591968950940 : True := trivial
theorem PySem.W.Fast.tw11203755360263864276 : True := trivial
theorem PySem.W.Fast.tw11685397998034930980 : True := trivial
theorem PySem.W.Fast.tw13638100112801665915 : True := trivial
theorem PySem.W.Fast.tw8884225395519140590 : True := trivial
theorem PySem.W.Fast.tw4351456242879420710 : True := trivial
theorem PySem.W.Fast.tw7173698874475537524 : True := trivial
theorem PySem.W.Fast.tw8825119090406825312 : True := trivial
theorem PySem.W.Fast.tw2433112144015596250 : True := trivial
theorem PySem.W.Fast.tw2516348794263605237 : True := trivial
theorem PySem.W.Fast.tw12181856653492746154 : True := trivial
theorem PySem.W.Fast.tw16531942506231755793 : True := trivial
theorem PySem.W.Fast.tw13220163604152567953 : True := trivial
theorem PySem.W.Fast.tw5052889923381525909 : True := trivial
theorem PySem.W.Fast.tw11675298594403904682 : True := trivial
theorem PySem.W.Fast.tw11021747771136539836 : True := trivial
theorem PySem.W.Fast.tw8779926107464686928 : True := trivial
theorem PySem.W.Fast.tw17735061869067870646 : True := trivial
theorem PySem.W.Fast.tw4806853626006371042 : True := trivial
theorem PySem.W.Fast.tw11405973130463320909 : True := trivial
theorem PySem.W.Fast.tw2232080923417536791 : True := trivial
theorem PySem.W.Fast.tw3228006337835357687 : True := trivial
theorem PySem.W.Fast.tw10506331333604659497 : True := trivial
theorem PySem.W.Fast.tw16539021052831333407 : True := trivial
theorem PySem.W.Fast.tw2784023795664129763 : True := trivial
theorem PySem.W.Fast.tw15003906888921846696 : True := trivial
theorem PySem.W.Fast.tw15470197548579658303 : True := trivial
theorem PySem.W.Fast.tw8926291523733081494 : True := trivial
theorem PySem.W.Fast.tw6247473597004312974 : True := trivial
theorem PySem.W.Fast.tw1567291706567078050 : True := trivial
theorem PySem.W.Fast.tw5315969787461105855 : True := trivial
theorem PySem.W.Fast.tw3121808375763228278 : True := trivial
theorem PySem.W.Fast.tw6971493164827983030 : True := trivial
theorem PySem.W.Fast.tw6582463858193171442 : True := trivial
theorem PySem.W.Fast.tw1760387749374207262 : True := trivial
theorem PySem.W.Fast.tw2728922743439129344 : True := trivial
theorem PySem.W.Fast.tw12904318890716451206 : True := trivial
theorem PySem.W.Fast.tw2799533342898464548 : True := trivial
theorem PySem.W.Fast.tw12956731352187888851 : True := trivial
theorem PySem.W.Fast.tw12368005592760327025 : True := trivial
theorem PySem.W.Fast.tw11563887465805296349 : True := trivial
theorem PySem.W.Fast.tw13048231647448147798 : True := trivial
theorem PySem.W.Fast.tw16571391414159280810 : True := trivial
theorem PySem.W.Fast.tw17009008797210508418 : True := trivial
theorem PySem.W.Fast.tw10584287602817953795 : True := trivial
theorem PySem.W.Fast.tw2002141504047565056 : True := trivial
theorem PySem.W.Fast.tw3684057499697393686 : True := trivial
theorem PySem.W.Fast.tw11420889889608747566 : True := trivial
theorem PySem.W.Fast.tw10661629097696329655 : True := trivial
theorem PySem.W.Fast.tw9425834116128943340 : True := trivial
theorem PySem.W.Fast.tw1988854647171430332 : True := trivial
theorem PySem.W.Fast.tw14601682206418972455 : True := trivial
theorem PySem.W.Fast.tw17639752108684762046 : True := trivial
theorem PySem.W.Fast.tw4108486462103879804 : True := trivial
theorem PySem.W.Fast.tw14890675527453620327 : True := trivial
theorem PySem.W.Fast.tw8544761732878205000 : True := trivial
theorem PySem.W.Fast.tw4122191895762103588 : True := trivial
theorem PySem.W.Fast.tw12330741481629289035 : True := trivial
theorem PySem.W.Fast.tw15504458151718775165 : True := trivial
theorem PySem.W.Fast.tw11403007205991946703 : True := trivial
theorem PySem.W.Fast.tw5108408449309469047 : True := trivial
theorem PySem.W.Fast.tw12137611184823070778 : True := trivial
theorem PySem.W.Fast.tw12537785405412464888 : True := trivial
theorem PySem.W.Fast.tw9544273800320104746 : True := trivial
theorem PySem.W.Fast.tw67040831913371377 : True := trivial
theorem PySem.W.Fast.tw228313360646899265 : True := trivial
theorem PySem.W.Fast.tw3800374939721535855 : True := trivial
theorem PySem.W.Fast.tw8108656205825513857 : True := trivial
theorem PySem.W.Fast.tw1808747317312498456 : True := trivial
theorem PySem.W.Fast.tw18333103379146204124 : True := trivial
theorem PySem.W.Fast.tw9327443832560661314 : True := trivial
theorem PySem.W.Fast.tw7947916917988960681 : True := trivial
theorem PySem.W.Fast.tw9593135704199055073 : True := trivial
theorem PySem.W.Fast.tw10027719149738125136 : True := trivial
theorem PySem.W.Fast.tw10851962644793694183 : True := trivial
theorem PySem.W.Fast.tw12678368574506380051 : True := trivial
theorem PySem.W.Fast.tw6330069919780862109 : True := trivial
theorem PySem.W.Fast.tw17666672673208380977 : True := trivial
theorem PySem.W.Fast.tw4811902164547677798 : True := trivial
theorem PySem.W.Fast.tw16380881623296443102 : True := trivial
theorem PySem.W.Fast.tw16595273050197908403 : True := trivial
theorem PySem.W.Fast.tw4461188468861770894 : True := trivial
theorem PySem.W.Fast.tw16750965085247645132 : True := trivial
theorem PySem.W.Fast.tw2393898183014525217 : True := trivial
theorem PySem.W.Fast.tw7761386991089596277 : True := trivial
theorem PySem.W.Fast.tw828717774819527828 : True := trivial
theorem PySem.W.Fast.tw10275574174105572300 : True := trivial
theorem PySem.W.Fast.tw7849112935253983785 : True := trivial
theorem PySem.W.Fast.tw13529559489733477416 : True := trivial
theorem PySem.W.Fast.tw9882421775595701815 : True := trivial
theorem PySem.W.Fast.tw7414473190019639917 : True := trivial
theorem PySem.W.Fast.tw3530103970080343444 : True := trivial
theorem PySem.W.Fast.tw10892219149979290170 : True := trivial
theorem PySem.W.Fast.tw11591051737279692881 : True := trivial
theorem PySem.W.Fast.tw13484139505524106973 : True := trivial
theorem PySem.W.Fast.tw7276326712217437522 : True := trivial
theorem PySem.W.Fast.tw1587183346454157804 : True := trivial
theorem PySem.W.Fast.tw12158618897798363791 : True := trivial
theorem PySem.W.Fast.tw9204188844391967151 : True := trivial
theorem PySem.W.Fast.tw3057035169821962209 : True := trivial
theorem PySem.W.Fast.tw18266306479552968874 : True := trivial
theorem PySem.W.Fast.tw6889732245765559911 : True := trivial
theorem PySem.W.Fast.tw15100847779615232395 : True := trivial
theorem PySem.W.Fast.tw10658416329973522353 : True := trivial
theorem PySem.W.Fast.tw14995092177686674983 : True := trivial
theorem PySem.W.Fast.tw5231304350658947964 : True := trivial
theorem PySem.W.Fast.tw5628832950454233470 : True := trivial
theorem PySem.W.Fast.tw9483973522954186910 : True := trivial
theorem PySem.W.Fast.tw6700571705839174745 : True := trivial
theorem PySem.W.Fast.tw2299354616880073756 : True := trivial
theorem PySem.W.Fast.tw13051566685869230560 : True := trivial
theorem PySem.W.Fast.tw7660701797357553649 : True := trivial
theorem PySem.W.Fast.tw13152923914135414751 : True := trivial
theorem PySem.W.Fast.tw2196225526039305663 : True := trivial
theorem PySem.W.Fast.tw3688213476844632909 : True := trivial
theorem PySem.W.Fast.tw1619957306540388815 : True := trivial
theorem PySem.W.Fast.tw14179133648931070786 : True := trivial
theorem PySem.W.Fast.tw15561280774814611677 : True := trivial
theorem PySem.W.Fast.tw17766875447092080104 : True := trivial
theorem PySem.W.Fast.tw1625668690872498172 : True := trivial
theorem PySem.W.Fast.tw13395241890355039696 : True := trivial
theorem PySem.W.Fast.tw3451412394150997354 : True := trivial
theorem PySem.W.Fast.tw3644295503099764689 : True := trivial
theorem PySem.W.Fast.tw5708829090751127446 : True := trivial
theorem PySem.W.Fast.tw8176875090474653246 : True := trivial
theorem PySem.W.Fast.tw17970514592764347883 : True := trivial
theorem PySem.W.Fast.tw12966138078356206461 : True := trivial
theorem PySem.W.Fast.tw5486533541838128965 : True := trivial
theorem PySem.W.Fast.tw17867695213746100058 : True := trivial
theorem PySem.W.Fast.tw15387877285448585752 : True := trivial
theorem PySem.W.Fast.tw6340737165158440441 : True := trivial
theorem PySem.W.Fast.tw4545995514955813682 : True := trivial
theorem PySem.W.Fast.tw18252744255983001266 : True := trivial
theorem PySem.W.Fast.tw7477483037874804781 : True := trivial
theorem PySem.W.Fast.tw1466186463092635938 : True := trivial
theorem PySem.W.Fast.tw5430139380608401992 : True := trivial
theorem PySem.W.Fast.tw17505907063652604801 : True := trivial
theorem PySem.W.Fast.tw1758547990484723206 : True := trivial
theorem PySem.W.Fast.tw13693854311515541661 : True := trivial
theorem PySem.W.Fast.tw11307159797445633381 : True := trivial
theorem PySem.W.Fast.tw12276141917120646725 : True := trivial
theorem PySem.W.Fast.tw750706386322668409 : True := trivial
theorem PySem.W.Fast.tw10478412039137348830 : True := trivial
theorem PySem.W.Fast.tw17177248583307811648 : True := trivial
theorem PySem.W.Fast.tw10158970296225711284 : True := trivial
theorem PySem.W.Fast.tw6474791359479202177 : True := trivial
theorem PySem.W.Fast.tw4940009572479666405 : True := trivial
theorem PySem.W.Fast.tw13224970629437072665 : True := trivial
theorem PySem.W.Fast.tw3494801635075995193 : True := trivial
theorem PySem.W.Fast.tw10809351320074571952 : True := trivial
theorem PySem.W.Fast.tw7573003483025290644 : True := trivial
theorem PySem.W.Fast.tw824016876630008608 : True := trivial
theorem PySem.W.Fast.tw15325213158088878194 : True := trivial
theorem PySem.W.Fast.tw12307925158821142588 : True := trivial
theorem PySem.W.Fast.tw14561108160084581097 : True := trivial
theorem PySem.W.Fast.tw16790410547740701798 : True := trivial
theorem PySem.W.Fast.tw17774428591012656091 : True := trivial
theorem PySem.W.Fast.tw15563478093823653862 : True := trivial
theorem PySem.W.Fast.tw10040077308751958607 : True := trivial
theorem PySem.W.Fast.tw8970941811995721728 : True := trivial
theorem PySem.W.Fast.tw9708072325247612972 : True := trivial
theorem PySem.W.Fast.tw1414510779557251866 : True := trivial
theorem PySem.W.Fast.tw5579262626875800657 : True := trivial
theorem PySem.W.Fast.tw10362228301337906908 : True := trivial
theorem PySem.W.Fast.tw4518903385913544073 : True := trivial
theorem PySem.W.Fast.tw18253485842782695090 : True := trivial
theorem PySem.W.Fast.tw4317124816302752025 : True := trivial
theorem PySem.W.Fast.tw12352852344984455240 : True := trivial
theorem PySem.W.Fast.tw4664967136072286905 : True := trivial
theorem PySem.W.Fast.tw13133106108075236162 : True := trivial
theorem PySem.W.Fast.tw10689789625757178371 : True := trivial
theorem PySem.W.Fast.tw1468096449577571924 : True := trivial
theorem PySem.W.Fast.tw5747285353364763233 : True := trivial
theorem PySem.W.Fast.tw3768066222010756654 : True := trivial
theorem PySem.W.Fast.tw11993903206611763248 : True := trivial
theorem PySem.W.Fast.tw15844335653976110548 : True := trivial
theorem PySem.W.Fast.tw13594007134084988576 : True := trivial
theorem PySem.W.Fast.tw6776178716458820736 : True := trivial
theorem PySem.W.Fast.tw1469418578614366601 : True := trivial
theorem PySem.W.Fast.tw9527290132840115083 : True := trivial
theorem PySem.W.Fast.tw2140605707360192174 : True := trivial
theorem PySem.W.Fast.tw16793590649890285033 : True := trivial
theorem PySem.W.Fast.tw16479955377928164546 : True := trivial
theorem PySem.W.Fast.tw3668666547363056019 : True := trivial
theorem PySem.W.Fast.tw5741127304771849030 : True := trivial
theorem PySem.W.Fast.tw14154017129381880688 : True := trivial
theorem PySem.W.Fast.tw947317684508766120 : True := trivial
theorem PySem.W.Fast.tw11093022463954420934 : True := trivial
theorem PySem.W.Fast.tw14709790236232481280 : True := trivial
theorem PySem.W.Fast.tw2054783425047158737 : True := trivial
theorem PySem.W.Fast.tw1035996631485374049 : True := trivial
theorem PySem.W.Fast.tw4112431169048806532 : True := trivial
theorem PySem.W.Fast.tw14132770229068197651 : True := trivial
theorem PySem.W.Fast.tw6128578389618292426 : True := trivial
theorem PySem.W.Fast.tw5533535271020894265 : True := trivial
theorem PySem.W.Fast.tw12496520703670553948 : True := trivial
theorem PySem.W.Fast.tw4645381346782763854 : True := trivial
theorem PySem.W.Fast.tw6000232804017182897 : True := trivial
theorem PySem.W.Fast.tw305192631737304083 : True := trivial
theorem PySem.W.Fast.tw247764721939359663 : True := trivial
theorem PySem.W.Fast.tw6506962482846834711 : True := trivial
theorem PySem.W.Fast.tw4513556729124422698 : True := trivial
theorem PySem.W.Fast.tw4427942543309018650 : True := trivial
theorem PySem.W.Fast.tw8887535849685289229 : True := trivial
theorem PySem.W.Fast.tw7798097605630632883 : True := trivial
theorem PySem.W.Fast.tw16233852834639504705 : True := trivial
theorem PySem.W.Fast.tw17745931664128664923 : True := trivial
theorem PySem.W.Fast.tw4877670148577255755 : True := trivial
theorem PySem.W.Fast.tw11595993536711788434 : True := trivial
theorem PySem.W.Fast.tw4315039829698263551 : True := trivial
theorem PySem.W.Fast.tw17611536496306833256 : True := trivial
theorem PySem.W.Fast.tw11395749482180841422 : True := trivial
theorem PySem.W.Fast.tw7216282345868116503 : True := trivial
theorem PySem.W.Fast.tw11021642202560405173 : True := trivial
theorem PySem.W.Fast.tw8726746837491826996 : True := trivial
theorem PySem.W.Fast.tw18346679978011429086 : True := trivial
theorem PySem.W.Fast.tw6470813357790027745 : True := trivial
theorem PySem.W.Fast.tw17205231026788927055 : True := trivial
theorem PySem.W.Fast.tw17950677640839639348 : True := trivial
theorem PySem.W.Fast.tw10312185865724619979 : True := trivial
theorem PySem.W.Fast.tw16955031520679240672 : True := trivial
theorem PySem.W.Fast.tw3007718439383672940 : True := trivial
theorem PySem.W.Fast.tw16523257981217599562 : True := trivial
theorem PySem.W.Fast.tw5540691236254970063 : True := trivial
theorem PySem.W.Fast.tw4254417354084622576 : True := trivial
theorem PySem.W.Fast.tw11543528410641014633 : True := trivial
theorem PySem.W.Fast.tw2678914242449314777 : True := trivial
theorem PySem.W.Fast.tw8162547106428001203 : True := trivial
theorem PySem.W.Fast.tw17390436518469147529 : True := trivial
theorem PySem.W.Fast.tw3106111233661481187 : True := trivial
theorem PySem.W.Fast.tw13930610094041687475 : True := trivial
theorem PySem.W.Fast.tw14170788748017167092 : True := trivial
theorem PySem.W.Fast.tw7521555749013460801 : True := trivial
theorem PySem.W.Fast.tw1181499609634068217 : True := trivial
theorem PySem.W.Fast.tw5968968741684988711 : True := trivial
theorem PySem.W.Fast.tw7489443133632266798 : True := trivial
theorem PySem.W.Fast.tw13942869108028045530 : True := trivial
theorem PySem.W.Fast.tw5637294371287703291 : True := trivial
theorem PySem.W.Fast.tw17330009126300921338 : True := trivial
theorem PySem.W.Fast.tw10700819508306999130 : True := trivial
theorem PySem.W.Fast.tw7310659582410410848 : True := trivial
theorem PySem.W.Fast.tw1595790204163327770 : True := trivial
theorem PySem.W.Fast.tw752760357597682956 : True := trivial
theorem PySem.W.Fast.tw17580500970765689948 : True := trivial
theorem PySem.W.Fast.tw2673811294443259565 : True := trivial
theorem PySem.W.Fast.tw3645908954074490159 : True := trivial
theorem PySem.W.Fast.tw15466639661960265992 : True := trivial
theorem PySem.W.Fast.tw1793805719897994398 : True := trivial
theorem PySem.W.Fast.tw107361427135527555 : True := trivial
theorem PySem.W.Fast.tw2212183756494035273 : True := trivial
theorem PySem.W.Fast.tw11830882828747358567 : True := trivial
theorem PySem.W.Fast.tw3779978268149725048 : True := trivial
theorem PySem.W.Fast.tw8520587205846020795 : True := trivial
theorem PySem.W.Fast.tw16317872296867390357 : True := trivial
theorem PySem.W.Fast.tw10349389501726484212 : True := trivial
theorem PySem.W.Fast.tw4903015119460425476 : True := trivial
theorem PySem.W.Fast.tw13314518710671462080 : True := trivial
theorem PySem.W.Fast.tw17885493980635930081 : True := trivial
theorem PySem.W.Fast.tw15911403141602828920 : True := trivial
theorem PySem.W.Fast.tw7703579489617389869 : True := trivial
theorem PySem.W.Fast.tw11714344800202173933 : True := trivial
theorem PySem.W.Fast.tw2917853694617337375 : True := trivial
theorem PySem.W.Fast.tw5145863238885968300 : True := trivial
theorem PySem.W.Fast.tw3778212782252547498 : True := trivial
theorem PySem.W.Fast.tw15999904568946080570 : True := trivial
theorem PySem.W.Fast.tw8690636607623295029 : True := trivial
theorem PySem.W.Fast.tw1562381053432013379 : True := trivial
theorem PySem.W.Fast.tw6976173652100368285 : True := trivial
theorem PySem.W.Fast.tw10862381832697092938 : True := trivial
theorem PySem.W.Fast.tw3909472106681778303 : True := trivial
theorem PySem.W.Fast.tw16428893258479246526 : True := trivial
theorem PySem.W.Fast.tw17929806876264976125 : True := trivial
theorem PySem.W.Fast.tw901902490265187505 : True := trivial
theorem PySem.W.Fast.tw15225483971583447779 : True := trivial
theorem PySem.W.Fast.tw7725916086226697860 : True := trivial
theorem PySem.W.Fast.tw8406206460638335845 : True := trivial
theorem PySem.W.Fast.tw17894215279837555411 : True := trivial
theorem PySem.W.Fast.tw11653042172604926400 : True := trivial
theorem PySem.W.Fast.tw18284814447321840665 : True := trivial
theorem PySem.W.Fast.tw339106186483333597 : True := trivial
theorem PySem.W.Fast.tw11868115589729774097 : True := trivial
theorem PySem.W.Fast.tw8441859490813730968 : True := trivial
theorem PySem.W.Fast.tw13788605618080380800 : True := trivial
theorem PySem.W.Fast.tw15710367885259885827 : True := trivial
theorem PySem.W.Fast.tw7385338941611067422 : True := trivial
theorem PySem.W.Fast.tw379810560888746632 : True := trivial
theorem PySem.W.Fast.tw6100425303305829145 : True := trivial
theorem PySem.W.Fast.tw16442849106927846111 : True := trivial
theorem PySem.W.Fast.tw9587246057715997761 : True := trivial
theorem PySem.W.Fast.tw15523059559318703989 : True := trivial
theorem PySem.W.Fast.tw11679063307686295028 : True := trivial
theorem PySem.W.Fast.tw9631915113125018349 : True := trivial
theorem PySem.W.Fast.tw14131304255821843500 : True := trivial
theorem PySem.W.Fast.tw3055168749783548650 : True := trivial
theorem PySem.W.Fast.tw3345414760219834155 : True := trivial
theorem PySem.W.Fast.tw16045066621118928 : True := trivial
theorem PySem.W.Fast.tw14365126730017931049 : True := trivial
theorem PySem.W.Fast.tw8707937346368381210 : True := trivial
theorem PySem.W.Fast.tw16657635527560545795 : True := trivial
theorem PySem.W.Fast.tw503501660231716796 : True := trivial
theorem PySem.W.Fast.tw3255886643555631539 : True := trivial
theorem PySem.W.Fast.tw2946023294694098964 : True := trivial
theorem PySem.W.Fast.tw15457329001240476364 : True := trivial
theorem PySem.W.Fast.tw15786310689399082892 : True := trivial
theorem PySem.W.Fast.tw17885762403493668350 : True := trivial
theorem PySem.W.Fast.tw9090111687287809992 : True := trivial
theorem PySem.W.Fast.tw2873398440463630035 : True := trivial
theorem PySem.W.Fast.tw5497013033473645760 : True := trivial
theorem PySem.W.Fast.tw13490812205182693651 : True := trivial
theorem PySem.W.Fast.tw3223938177264909880 : True := trivial
theorem PySem.W.Fast.tw5216430579306397526 : True := trivial
theorem PySem.W.Fast.tw14049703491466137603 : True := trivial
theorem PySem.W.Fast.tw15311439869885725857 : True := trivial
theorem PySem.W.Fast.tw8026215062120969099 : True := trivial
theorem PySem.W.Fast.tw8008367637287665769 : True := trivial
theorem PySem.W.Fast.tw14620657395995614202 : True := trivial
theorem PySem.W.Fast.tw944037138387332977 : True := trivial
theorem PySem.W.Fast.tw3850780436679396399 : True := trivial
theorem PySem.W.Fast.tw3303983086503989040 : True := trivial
theorem PySem.W.Fast.tw15231624932962733782 : True := trivial
theorem PySem.W.Fast.tw9286697892247610785 : True := trivial
theorem PySem.W.Fast.tw18118660525307881878 : True := trivial
theorem PySem.W.Fast.tw11758464026349175147 : True := trivial
theorem PySem.W.Fast.tw8921949450495188904 : True := trivial
theorem PySem.W.Fast.tw3257510476160077138 : True := trivial
theorem PySem.W.Fast.tw10859927199768009075 : True := trivial
theorem PySem.W.Fast.tw13117649329312637660 : True := trivial
theorem PySem.W.Fast.tw16323442518256364498 : True := trivial
theorem PySem.W.Fast.tw4335807925616402145 : True := trivial
theorem PySem.W.Fast.tw8979182710220852321 : True := trivial
theorem PySem.W.Fast.tw6097237208341964439 : True := trivial
theorem PySem.W.Fast.tw1824339375817048828 : True := trivial
theorem PySem.W.Fast.tw4506482727012881592 : True := trivial
theorem PySem.W.Fast.tw17859626805732105816 : True := trivial
theorem PySem.W.Fast.tw7290679731963435529 : True := trivial
theorem PySem.W.Fast.tw16550739653153610016 : True := trivial
theorem PySem.W.Fast.tw11596800788502538152 : True := trivial
theorem PySem.W.Fast.tw8791237283124723129 : True := trivial
theorem PySem.W.Fast.tw9480480591200873765 : True := trivial
theorem PySem.W.Fast.tw13549864441205655942 : True := trivial
theorem PySem.W.Fast.tw17537019096033377130 : True := trivial
theorem PySem.W.Fast.tw1368105617324340187 : True := trivial
theorem PySem.W.Fast.tw1560458708280643985 : True := trivial
theorem PySem.W.Fast.tw6076351784903207530 : True := trivial
theorem PySem.W.Fast.tw10852119747013387029 : True := trivial
theorem PySem.W.Fast.tw8942407584319391910 : True := trivial
theorem PySem.W.Fast.tw1692593068500452414 : True := trivial
theorem PySem.W.Fast.tw11924710708264572176 : True := trivial
theorem PySem.W.Fast.tw15034613515234294823 : True := trivial
theorem PySem.W.Fast.tw16405354249348759593 : True := trivial
theorem PySem.W.Fast.tw12552569343958188334 : True := trivial
theorem PySem.W.Fast.tw16516817790655483466 : True := trivial
theorem PySem.W.Fast.tw13973325244064332003 : True := trivial
theorem PySem.W.Fast.tw1416710391126630237 : True := trivial
theorem PySem.W.Fast.tw6216657678318673136 : True := trivial
theorem PySem.W.Fast.tw6123486679769703246 : True := trivial
theorem PySem.W.Fast.tw6462758377648937666 : True := trivial
theorem PySem.W.Fast.tw8144413490918430675 : True := trivial
theorem PySem.W.Fast.tw12541868299619744907 : True := trivial
theorem PySem.W.Fast.tw13628849944004791154 : True := trivial
theorem PySem.W.Fast.tw15055219238566127908 : True := trivial
theorem PySem.W.Fast.tw3723090309605769067 : True := trivial
theorem PySem.W.Fast.tw8903803670805865325 : True := trivial
theorem PySem.W.Fast.tw777214284851799750 : True := trivial
theorem PySem.W.Fast.tw6503725124738806935 : True := trivial
theorem PySem.W.Fast.tw3667795816980183206 : True := trivial
theorem PySem.W.Fast.tw16789474580017285859 : True := trivial
theorem PySem.W.Fast.tw16346012942488011346 : True := trivial
theorem PySem.W.Fast.tw147340079214538218 : True := trivial
theorem PySem.W.Fast.tw15754250735131683495 : True := trivial
theorem PySem.W.Fast.tw16698569144389252990 : True := trivial
theorem PySem.W.Fast.tw1079223292275434705 : True := trivial
theorem PySem.W.Fast.tw7468158132747295586 : True := trivial
theorem PySem.W.Fast.tw3382873577868074446 : True := trivial
theorem PySem.W.Fast.tw8793409381676616711 : True := trivial
theorem PySem.W.Fast.tw15388740381532835849 : True := trivial
theorem PySem.W.Fast.tw10428220155109572953 : True := trivial
theorem PySem.W.Fast.tw16617624597726761839 : True := trivial
theorem PySem.W.Fast.tw5972405300845808562 : True := trivial
theorem PySem.W.Fast.tw7929069424509431582 : True := trivial
theorem PySem.W.Fast.tw536578387666029733 : True := trivial
theorem PySem.W.Fast.tw15541294136732566073 : True := trivial
theorem PySem.W.Fast.tw9402110599088384491 : True := trivial
theorem PySem.W.Fast.tw1456646897075526384 : True := trivial
theorem PySem.W.Fast.tw2995256439593578868 : True := trivial
theorem PySem.W.Fast.tw13867258743369392284 : True := trivial
theorem PySem.W.Fast.tw15878343675620310342 : True := trivial
theorem PySem.W.Fast.tw18274654730938774375 : True := trivial
theorem PySem.W.Fast.tw17068627272568882271 : True := trivial
theorem PySem.W.Fast.tw2381213632376482281 : True := trivial
theorem PySem.W.Fast.tw8144217536135529375 : True := trivial
theorem PySem.W.Fast.tw14747862372184028291 : True := trivial
theorem PySem.W.Fast.tw5511147914899635765 : True := trivial
theorem PySem.W.Fast.tw8711726556533259332 : True := trivial
theorem PySem.W.Fast.tw15345586482788569563 : True := trivial
theorem PySem.W.Fast.tw8833513031168201425 : True := trivial
theorem PySem.W.Fast.tw2348345215130346298 : True := trivial
theorem PySem.W.Fast.tw3556779198133555801 : True := trivial
theorem PySem.W.Fast.tw17462705737907342244 : True := trivial
theorem PySem.W.Fast.tw2212386946024066374 : True := trivial
theorem PySem.W.Fast.tw13172655569397736312 : True := trivial
theorem PySem.W.Fast.tw14423550313759271100 : True := trivial
theorem PySem.W.Fast.tw9479664750956475261 : True := trivial
theorem PySem.W.Fast.tw306431488993159636 : True := trivial
theorem PySem.W.Fast.tw2669006840690144290 : True := trivial
theorem PySem.W.Fast.tw2147206445148811831 : True := trivial
theorem PySem.W.Fast.tw204000626751202454 : True := trivial
theorem PySem.W.Fast.tw8521069677103607938 : True := trivial
theorem PySem.W.Fast.tw6631531416223814037 : True := trivial
theorem PySem.W.Fast.tw2544785098892565171 : True := trivial
theorem PySem.W.Fast.tw7283541570574301632 : True := trivial
theorem PySem.W.Fast.tw3971834537305080512 : True := trivial
theorem PySem.W.Fast.tw14165276517723752518 : True := trivial
theorem PySem.W.Fast.tw18295478984181483487 : True := trivial
theorem PySem.W.Fast.tw3248594011782930806 : True := trivial
theorem PySem.W.Fast.tw1929265244754862562 : True := trivial
theorem PySem.W.Fast.tw9930998408966320827 : True := trivial
theorem PySem.W.Fast.tw1159990037162564977 : True := trivial
theorem PySem.W.Fast.tw1557671571624223678 : True := trivial
theorem PySem.W.Fast.tw258858618374631414 : True := trivial
theorem PySem.W.Fast.tw9490749042747229284 : True := trivial
theorem PySem.W.Fast.tw10181755942014082660 : True := trivial
theorem PySem.W.Fast.tw12490801406153238726 : True := trivial
theorem PySem.W.Fast.tw5236366095175134772 : True := trivial
theorem PySem.W.Fast.tw1963844129850843237 : True := trivial
theorem PySem.W.Fast.tw10699588837532726762 : True := trivial
theorem PySem.W.Fast.tw1424878714178004073 : True := trivial
theorem PySem.W.Fast.tw9220027046639344301 : True := trivial
theorem PySem.W.Fast.tw10637694371955417225 : True := trivial
theorem PySem.W.Fast.tw9600247175989309466 : True := trivial
theorem PySem.W.Fast.tw14329496860904284253 : True := trivial
theorem PySem.W.Fast.tw11555763712198471134 : True := trivial
theorem PySem.W.Fast.tw13281635283881703605 : True := trivial
theorem PySem.W.Fast.tw11612930570518888787 : True := trivial
theorem PySem.W.Fast.tw15253010165923044746 : True := trivial
theorem PySem.W.Fast.tw6956194262423642112 : True := trivial
theorem PySem.W.Fast.tw15982792250186932675 : True := trivial
theorem PySem.W.Fast.tw14407926550849743478 : True := trivial
theorem PySem.W.Fast.tw7000031651629454138 : True := trivial
theorem PySem.W.Fast.tw18134299867684938534 : True := trivial
theorem PySem.W.Fast.tw11886389527009973997 : True := trivial
theorem PySem.W.Fast.tw7783712525924052423 : True := trivial
theorem PySem.W.Fast.tw10500761840895289594 : True := trivial
theorem PySem.W.Fast.tw567137871265933931 : True := trivial
theorem PySem.W.Fast.tw9459344526595379873 : True := trivial
theorem PySem.W.Fast.tw13619432113565447727 : True := trivial
theorem PySem.W.Fast.tw11216828188614436454 : True := trivial
theorem PySem.W.Fast.tw2844945160209128142 : True := trivial
theorem PySem.W.Fast.tw17644785184087508792 : True := trivial
theorem PySem.W.Fast.tw16714797495383294947 : True := trivial
theorem PySem.W.Fast.tw7992620981874886698 : True := trivial
theorem PySem.W.Fast.tw1068683116634761189 : True := trivial
theorem PySem.W.Fast.tw16479627328523982790 : True := trivial
theorem PySem.W.Fast.tw17504056320773102981 : True := trivial
theorem PySem.W.Fast.tw396802608006666162 : True := trivial
theorem PySem.W.Fast.tw9723018891547011899 : True := trivial
theorem PySem.W.Fast.tw994575019815907733 : True := trivial
theorem PySem.W.Fast.tw16160689639937428720 : True := trivial
theorem PySem.W.Fast.tw11819182260159965933 : True := trivial
theorem PySem.W.Fast.tw10759720821475943008 : True := trivial
theorem PySem.W.Fast.tw5242845139366030924 : True := trivial
theorem PySem.W.Fast.tw614477102856391192 : True := trivial
theorem PySem.W.Fast.tw2359767263329814241 : True := trivial
theorem PySem.W.Fast.tw15768212929593499262 : True := trivial
theorem PySem.W.Fast.tw13682769137117614252 : True := trivial
theorem PySem.W.Fast.tw1615609441833499317 : True := trivial
theorem PySem.W.Fast.tw7901059547716621064 : True := trivial
theorem PySem.W.Fast.tw661198461345665998 : True := trivial
theorem PySem.W.Fast.tw14344351030522138309 : True := trivial
theorem PySem.W.Fast.tw12450523692427225215 : True := trivial
theorem PySem.W.Fast.tw11781782690620460928 : True := trivial
theorem PySem.W.Fast.tw4510134671732016093 : True := trivial
theorem PySem.W.Fast.tw4562313896101050235 : True := trivial
theorem PySem.W.Fast.tw11387666877840285234 : True := trivial
theorem PySem.W.Fast.tw15573970714444726686 : True := trivial
theorem PySem.W.Fast.tw6209813650483752247 : True := trivial
theorem PySem.W.Fast.tw579352869631728494 : True := trivial
theorem PySem.W.Fast.tw6613369133635400812 : True := trivial
theorem PySem.W.Fast.tw4885718954590381529 : True := trivial
theorem PySem.W.Fast.tw11582823525330980706 : True := trivial
theorem PySem.W.Fast.tw2536376471293326599 : True := trivial
theorem PySem.W.Fast.tw5484362062084162169 : True := trivial
theorem PySem.W.Fast.tw5718026074646964514 : True := trivial
theorem PySem.W.Fast.tw1066343518210468072 : True := trivial
theorem PySem.W.Fast.tw10858615821590010200 : True := trivial
theorem PySem.W.Fast.tw4495244119395901910 : True := trivial
theorem PySem.W.Fast.tw15517603003995937349 : True := trivial
theorem PySem.W.Fast.tw2146213725858915169 : True := trivial
theorem PySem.W.Fast.tw5550090990374986052 : True := trivial
theorem PySem.W.Fast.tw12267196546708141589 : True := trivial
theorem PySem.W.Fast.tw10508814681068218613 : True := trivial
theorem PySem.W.Fast.tw3363639441325900329 : True := trivial
theorem PySem.W.Fast.tw7859703694267292899 : True := trivial
theorem PySem.W.Fast.tw859191744206783913 : True := trivial
theorem PySem.W.Fast.tw5389372254010247203 : True := trivial
theorem PySem.W.Fast.tw15643126263434417593 : True := trivial
theorem PySem.W.Fast.tw11815490356345119284 : True := trivial
theorem PySem.W.Fast.tw16557458026763401817 : True := trivial
theorem PySem.W.Fast.tw9138983829914902090 : True := trivial
theorem PySem.W.Fast.tw4654040016961563025 : True := trivial
theorem PySem.W.Fast.tw5141285768762556824 : True := trivial
theorem PySem.W.Fast.tw16332715393000831415 : True := trivial
theorem PySem.W.Fast.tw17562181594258033214 : True := trivial
theorem PySem.W.Fast.tw17736995591826596305 : True := trivial
theorem PySem.W.Fast.tw12455179095323755449 : True := trivial
theorem PySem.W.Fast.tw7737754916740761260 : True := trivial
theorem PySem.W.Fast.tw1274209746776385823 : True := trivial
theorem PySem.W.Fast.tw3776705286962668134 : True := trivial
theorem PySem.W.Fast.tw7914524528861147374 : True := trivial
theorem PySem.W.Fast.tw15630659555450932169 : True := trivial
theorem PySem.W.Fast.tw10590912988759674752 : True := trivial
theorem PySem.W.Fast.tw16762678388269921502 : True := trivial
theorem PySem.W.Fast.tw3577197364236362247 : True := trivial
theorem PySem.W.Fast.tw2033679557290795877 : True := trivial
theorem PySem.W.Fast.tw15079242254878156249 : True := trivial
theorem PySem.W.Fast.tw8527097080909704787 : True := trivial
theorem PySem.W.Fast.tw6471884909158581728 : True := trivial
theorem PySem.W.Fast.tw6626390739409459695 : True := trivial
theorem PySem.W.Fast.tw5851727651170042373 : True := trivial
theorem PySem.W.Fast.tw608270320376625314 : True := trivial
theorem PySem.W.Fast.tw327640955825256023 : True := trivial
theorem PySem.W.Fast.tw2758190522920783701 : True := trivial
theorem PySem.W.Fast.tw10993474643316620840 : True := trivial
theorem PySem.W.Fast.tw15282726186607728318 : True := trivial
theorem PySem.W.Fast.tw5746400440391438800 : True := trivial
theorem PySem.W.Fast.tw17046767486065483589 : True := trivial
theorem PySem.W.Fast.tw5768591949779370614 : True := trivial
theorem PySem.W.Fast.tw18115478633569649514 : True := trivial
theorem PySem.W.Fast.tw616027428365944514 : True := trivial
theorem PySem.W.Fast.tw18234205269267167446 : True := trivial
theorem PySem.W.Fast.tw2658915975534068003 : True := trivial
theorem PySem.W.Fast.tw758492484058820287 : True := trivial
theorem PySem.W.Fast.tw7038387241145891091 : True := trivial
theorem PySem.W.Fast.tw8096738651512232563 : True := trivial
theorem PySem.W.Fast.tw13746269484899876260 : True := trivial
theorem PySem.W.Fast.tw6273916132310486869 : True := trivial
theorem PySem.W.Fast.tw5386355401550508378 : True := trivial
theorem PySem.W.Fast.tw15876495501520914926 : True := trivial
theorem PySem.W.Fast.tw11439814730875598234 : True := trivial
theorem PySem.W.Fast.tw8997544670394534848 : True := trivial
theorem PySem.W.Fast.tw10272531016449505810 : True := trivial
theorem PySem.W.Fast.tw12406247312406287027 : True := trivial
theorem PySem.W.Fast.tw3859215329416555771 : True := trivial
theorem PySem.W.Fast.tw9918877501535836580 : True := trivial
theorem PySem.W.Fast.tw583874844940579529 : True := trivial
theorem PySem.W.Fast.tw3312887668632787511 : True := trivial
theorem PySem.W.Fast.tw7021116704603552778 : True := trivial
theorem PySem.W.Fast.tw14349950032339791731 : True := trivial
theorem PySem.W.Fast.tw4114268627670159884 : True := trivial
theorem PySem.W.Fast.tw12102495603284908009 : True := trivial
theorem PySem.W.Fast.tw3185287127957215469 : True := trivial
theorem PySem.W.Fast.tw4901023828364749471 : True := trivial
theorem PySem.W.Fast.tw762441085326133991 : True := trivial
theorem PySem.W.Fast.tw7809832217543122019 : True := trivial
theorem PySem.W.Fast.tw15381076927897964053 : True := trivial
theorem PySem.W.Fast.tw16285226472767327841 : True := trivial
theorem PySem.W.Fast.tw17762383868587676163 : True := trivial
theorem PySem.W.Fast.tw1260750602154221448 : True := trivial
theorem PySem.W.Fast.tw1166601390941140344 : True := trivial
theorem PySem.W.Fast.tw15905802759931581026 : True := trivial
theorem PySem.W.Fast.tw1272200029958748644 : True := trivial
theorem PySem.W.Fast.tw5156258611371004285 : True := trivial
theorem PySem.W.Fast.tw9683146660721900566 : True := trivial
theorem PySem.W.Fast.tw11373344371840100023 : True := trivial
theorem PySem.W.Fast.tw9263103569300968922 : True := trivial
theorem PySem.W.Fast.tw1392050438573667253 : True := trivial
theorem PySem.W.Fast.tw10300220677702888757 : True := trivial
theorem PySem.W.Fast.tw9104060536796880225 : True := trivial
theorem PySem.W.Fast.tw16021736110360579296 : True := trivial
theorem PySem.W.Fast.tw5137888435863819793 : True := trivial
theorem PySem.W.Fast.tw8153332116008865626 : True := trivial
theorem PySem.W.Fast.tw3962761500965218678 : True := trivial
theorem PySem.W.Fast.tw15755971458040211236 : True := trivial
theorem PySem.W.Fast.tw9060106888836092621 : True := trivial
theorem PySem.W.Fast.tw10206089236725733389 : True := trivial
theorem PySem.W.Fast.tw1336526467802514999 : True := trivial
theorem PySem.W.Fast.tw9345525122096938692 : True := trivial
theorem PySem.W.Fast.tw7119176752274921566 : True := trivial
theorem PySem.W.Fast.tw110887474952664586 : True := trivial
theorem PySem.W.Fast.tw14930123479465721224 : True := trivial
theorem PySem.W.Fast.tw17612005692194206813 : True := trivial
theorem PySem.W.Fast.tw15701537795095775677 : True := trivial
theorem PySem.W.Fast.tw8994441276998774871 : True := trivial
theorem PySem.W.Fast.tw908163265558077724 : True := trivial
theorem PySem.W.Fast.tw15130765755144578973 : True := trivial
theorem PySem.W.Fast.tw3089417829453193571 : True := trivial
theorem PySem.W.Fast.tw16312013722661288273 : True := trivial
theorem PySem.W.Fast.tw4816124912790910712 : True := trivial
theorem PySem.W.Fast.tw11362948667214263311 : True := trivial
theorem PySem.W.Fast.tw8379644001411631225 : True := trivial
theorem PySem.W.Fast.tw3955430416311015991 : True := trivial
theorem PySem.W.Fast.tw8053624431747427041 : True := trivial
theorem PySem.W.Fast.tw14701909173127841166 : True := trivial
theorem PySem.W.Fast.tw12444660252026078588 : True := trivial
theorem PySem.W.Fast.tw6924522417033325774 : True := trivial
theorem PySem.W.Fast.tw10638327340438779005 : True := trivial
theorem PySem.W.Fast.tw1969401815080628891 : True := trivial
theorem PySem.W.Fast.tw16585249770213955166 : True := trivial
theorem PySem.W.Fast.tw793771852212743420 : True := trivial
theorem PySem.W.Fast.tw5714830501541200081 : True := trivial
theorem PySem.W.Fast.tw3959113823559885993 : True := trivial
theorem PySem.W.Fast.tw14414136037284582384 : True := trivial
theorem PySem.W.Fast.tw2283960131427539230 : True := trivial
theorem PySem.W.Fast.tw12594129253917402177 : True := trivial
theorem PySem.W.Fast.tw17905611946160778833 : True := trivial
theorem PySem.W.Fast.tw13092749380110055174 : True := trivial
theorem PySem.W.Fast.tw17485243750754548804 : True := trivial
theorem PySem.W.Fast.tw12015105798896250870 : True := trivial
theorem PySem.W.Fast.tw12702734791633834174 : True := trivial
theorem PySem.W.Fast.tw5615398616441596060 : True := trivial
theorem PySem.W.Fast.tw7740620247239928837 : True := trivial
theorem PySem.W.Fast.tw4436827872625002561 : True := trivial
theorem PySem.W.Fast.tw6481686397449412126 : True := trivial
theorem PySem.W.Fast.tw13524605510627708565 : True := trivial
theorem PySem.W.Fast.tw7217853309466966909 : True := trivial
theorem PySem.W.Fast.tw3967890510546466226 : True := trivial
theorem PySem.W.Fast.tw4737575087636072692 : True := trivial
theorem PySem.W.Fast.tw3131659509643689540 : True := trivial
theorem PySem.W.Fast.tw12782893964146817076 : True := trivial
theorem PySem.W.Fast.tw15165478112243030582 : True := trivial
theorem PySem.W.Fast.tw1158375768404949417 : True := trivial
theorem PySem.W.Fast.tw15105613495617068756 : True := trivial
theorem PySem.W.Fast.tw1605627099201107426 : True := trivial
theorem PySem.W.Fast.tw8362928009347337750 : True := trivial
theorem PySem.W.Fast.tw9665169710260058909 : True := trivial
theorem PySem.W.Fast.tw16738305677301929924 : True := trivial
theorem PySem.W.Fast.tw6618990864369103194 : True := trivial
theorem PySem.W.Fast.tw8432480357049040927 : True := trivial
theorem PySem.W.Fast.tw17320215107967624957 : True := trivial
theorem PySem.W.Fast.tw6625441635342314460 : True := trivial
theorem PySem.W.Fast.tw12159194908161360693 : True := trivial
theorem PySem.W.Fast.tw4453615168605748966 : True := trivial
theorem PySem.W.Fast.tw157595197064741637 : True := trivial
theorem PySem.W.Fast.tw17370636416514530134 : True := trivial
theorem PySem.W.Fast.tw2572697493711276281 : True := trivial
theorem PySem.W.Fast.tw12072424216644352828 : True := trivial
theorem PySem.W.Fast.tw12751504747210206207 : True := trivial
theorem PySem.W.Fast.tw9147881140471207725 : True := trivial
theorem PySem.W.Fast.tw2837517368296509909 : True := trivial
theorem PySem.W.Fast.tw3112137369399323680 : True := trivial
theorem PySem.W.Fast.tw2246956957935803556 : True := trivial
theorem PySem.W.Fast.tw1654923508845112674 : True := trivial
theorem PySem.W.Fast.tw13422841179613940030 : True := trivial
theorem PySem.W.Fast.tw9561771823802773230 : True := trivial
theorem PySem.W.Fast.tw12904319864467755183 : True := trivial
theorem PySem.W.Fast.tw13124158117608579721 : True := trivial
theorem PySem.W.Fast.tw16464175867274838044 : True := trivial
theorem PySem.W.Fast.tw4048183382796568950 : True := trivial
theorem PySem.W.Fast.tw16222226389700478694 : True := trivial
theorem PySem.W.Fast.tw16917993281876418689 : True := trivial
theorem PySem.W.Fast.tw3107591192082727636 : True := trivial
theorem PySem.W.Fast.tw7719484642078508286 : True := trivial
theorem PySem.W.Fast.tw7770748368738226930 : True := trivial
theorem PySem.W.Fast.tw12029784191557020222 : True := trivial
theorem PySem.W.Fast.tw5033690848047927400 : True := trivial
theorem PySem.W.Fast.tw14771199865272910327 : True := trivial
theorem PySem.W.Fast.tw3455777119122894352 : True := trivial
theorem PySem.W.Fast.tw848015854710371482 : True := trivial
theorem PySem.W.Fast.tw8214291207213883411 : True := trivial
theorem PySem.W.Fast.tw16380727620866328376 : True := trivial
theorem PySem.W.Fast.tw10373507346838383606 : True := trivial
theorem PySem.W.Fast.tw10834498105601373548 : True := trivial
theorem PySem.W.Fast.tw15033053693214499270 : True := trivial
theorem PySem.W.Fast.tw2190456070367252776 : True := trivial
theorem PySem.W.Fast.tw7167064334543700351 : True := trivial
theorem PySem.W.Fast.tw13162283051645076360 : True := trivial
theorem PySem.W.Fast.tw7048853116154216031 : True := trivial
theorem PySem.W.Fast.tw1692560632845673290 : True := trivial
theorem PySem.W.Fast.tw10343345729961790223 : True := trivial
theorem PySem.W.Fast.tw17464218848865431608 : True := trivial
theorem PySem.W.Fast.tw17645476684564035875 : True := trivial
theorem PySem.W.Fast.tw6774968501005608905 : True := trivial
theorem PySem.W.Fast.tw16396051333236897279 : True := trivial
theorem PySem.W.Fast.tw9618866490690897815 : True := trivial
theorem PySem.W.Fast.tw13008333961939798911 : True := trivial
theorem PySem.W.Fast.tw14404006576524276308 : True := trivial
theorem PySem.W.Fast.tw486633512114606470 : True := trivial
theorem PySem.W.Fast.tw8514656947363305820 : True := trivial
theorem PySem.W.Fast.tw11033948813791402581 : True := trivial
theorem PySem.W.Fast.tw31888692266033342 : True := trivial
theorem PySem.W.Fast.tw11536476693680362355 : True := trivial
theorem PySem.W.Fast.tw12909876601506720603 : True := trivial
theorem PySem.W.Fast.tw6236600284381521429 : True := trivial
theorem PySem.W.Fast.tw3170028285651632130 : True := trivial
theorem PySem.W.Fast.tw12083892585244214817 : True := trivial
theorem PySem.W.Fast.tw1027038571373760586 : True := trivial
theorem PySem.W.Fast.tw18180792460405401609 : True := trivial
theorem PySem.W.Fast.tw3341208855991342523 : True := trivial
theorem PySem.W.Fast.tw8353645066172287846 : True := trivial
theorem PySem.W.Fast.tw14904553135304129846 : True := trivial
theorem PySem.W.Fast.tw6007350033959949325 : True := trivial
theorem PySem.W.Fast.tw10457819043871794208 : True := trivial
theorem PySem.W.Fast.tw3372621436537066542 : True := trivial
theorem PySem.W.Fast.tw12125659172210660482 : True := trivial
theorem PySem.W.Fast.tw9795256674534112017 : True := trivial
theorem PySem.W.Fast.tw14306344887862262074 : True := trivial
theorem PySem.W.Fast.tw13495716869464320451 : True := trivial
theorem PySem.W.Fast.tw16097304365829539372 : True := trivial
theorem PySem.W.Fast.tw3138872369891430071 : True := trivial
theorem PySem.W.Fast.tw17092267527271454584 : True := trivial
theorem PySem.W.Fast.tw10708238120606442903 : True := trivial
theorem PySem.W.Fast.tw6169164791470733903 : True := trivial
theorem PySem.W.Fast.tw5251882121244112959 : True := trivial
theorem PySem.W.Fast.tw4759452791381776652 : True := trivial
theorem PySem.W.Fast.tw15194657827173432582 : True := trivial
theorem PySem.W.Fast.tw13720054673858957736 : True := trivial
theorem PySem.W.Fast.tw824196008855679675 : True := trivial
theorem PySem.W.Fast.tw8140943231661568117 : True := trivial
theorem PySem.W.Fast.tw16141982852465883288 : True := trivial
theorem PySem.W.Fast.tw2503015024714089757 : True := trivial
theorem PySem.W.Fast.tw4294462337712533924 : True := trivial
theorem PySem.W.Fast.tw17006653083223504807 : True := trivial
theorem PySem.W.Fast.tw13936325628973675907 : True := trivial
theorem PySem.W.Fast.tw13744029692769395974 : True := trivial
theorem PySem.W.Fast.tw17817360455250047722 : True := trivial
theorem PySem.W.Fast.tw14096875469439568621 : True := trivial
theorem PySem.W.Fast.tw6795488197571587168 : True := trivial
theorem PySem.W.Fast.tw1212156112253673026 : True := trivial
theorem PySem.W.Fast.tw17303819705433369067 : True := trivial
theorem PySem.W.Fast.tw10662162452088834117 : True := trivial
theorem PySem.W.Fast.tw9895402208466219424 : True := trivial
theorem PySem.W.Fast.tw17938484132996008613 : True := trivial
theorem PySem.W.Fast.tw10924075080880112672 : True := trivial
theorem PySem.W.Fast.tw17887091270023771779 : True := trivial
theorem PySem.W.Fast.tw16703028570975249872 : True := trivial
theorem PySem.W.Fast.tw6758427311442466955 : True := trivial
theorem PySem.W.Fast.tw6409360692006985272 : True := trivial
theorem PySem.W.Fast.tw9022907030904475342 : True := trivial
theorem PySem.W.Fast.tw3474048554716479407 : True := trivial
theorem PySem.W.Fast.tw2069004347211227678 : True := trivial
theorem PySem.W.Fast.tw12352122704699497653 : True := trivial
theorem PySem.W.Fast.tw4792558356078635194 : True := trivial
theorem PySem.W.Fast.tw7888047727272741497 : True := trivial
theorem PySem.W.Fast.tw13239487774176404364 : True := trivial
theorem PySem.W.Fast.tw1105380256599634621 : True := trivial
theorem PySem.W.Fast.tw2369785259717245615 : True := trivial
theorem PySem.W.Fast.tw13957702363126939976 : True := trivial
theorem PySem.W.Fast.tw11506821765777291636 : True := trivial
theorem PySem.W.Fast.tw1372055293103802463 : True := trivial
theorem PySem.W.Fast.tw16363297046190175296 : True := trivial
theorem PySem.W.Fast.tw6932980893253573490 : True := trivial
theorem PySem.W.Fast.tw4438338536118788728 : True := trivial
theorem PySem.W.Fast.tw8971974487073666727 : True := trivial
theorem PySem.W.Fast.tw9904737478983691491 : True := trivial
theorem PySem.W.Fast.tw12068062931916506584 : True := trivial
theorem PySem.W.Fast.tw4354200022940350523 : True := trivial
theorem PySem.W.Fast.tw8383809986128611029 : True := trivial
theorem PySem.W.Fast.tw1932957053422880839 : True := trivial
theorem PySem.W.Fast.tw12536478688669765756 : True := trivial
theorem PySem.W.Fast.tw17027667806192493858 : True := trivial
theorem PySem.W.Fast.tw16406554620624335970 : True := trivial
theorem PySem.W.Fast.tw16999438792315575260 : True := trivial
theorem PySem.W.Fast.tw4814384794730752707 : True := trivial
theorem PySem.W.Fast.tw1722277037052353746 : True := trivial
theorem PySem.W.Fast.tw2360650415088940814 : True := trivial
theorem PySem.W.Fast.tw16515774351367969513 : True := trivial
theorem PySem.W.Fast.tw16538142846016281451 : True := trivial
theorem PySem.W.Fast.tw18417277696980892377 : True := trivial
theorem PySem.W.Fast.tw5172945998423882699 : True := trivial
theorem PySem.W.Fast.tw12289195681581262312 : True := trivial
theorem PySem.W.Fast.tw13342788062042978355 : True := trivial
theorem PySem.W.Fast.tw2046518575698125124 : True := trivial
theorem PySem.W.Fast.tw1666512452257884875 : True := trivial
theorem PySem.W.Fast.tw6184052358365931727 : True := trivial
theorem PySem.W.Fast.tw706591115708169510 : True := trivial
theorem PySem.W.Fast.tw15412939833867052807 : True := trivial
theorem PySem.W.Fast.tw17925613030520263596 : True := trivial
theorem PySem.W.Fast.tw5953428290956978732 : True := trivial
theorem PySem.W.Fast.tw10985619566194766159 : True := trivial
theorem PySem.W.Fast.tw8844034758581844320 : True := trivial
theorem PySem.W.Fast.tw3424738931638516173 : True := trivial
theorem PySem.W.Fast.tw17878399614696070599 : True := trivial
theorem PySem.W.Fast.tw12410863566716644135 : True := trivial
theorem PySem.W.Fast.tw706445767893663204 : True := trivial
theorem PySem.W.Fast.tw4691793442448563846 : True := trivial
theorem PySem.W.Fast.tw9070680654488603391 : True := trivial
theorem PySem.W.Fast.tw18392808506154111091 : True := trivial
theorem PySem.W.Fast.tw9253905177357019970 : True := trivial
theorem PySem.W.Fast.tw8520651602176950826 : True := trivial
theorem PySem.W.Fast.tw17544719894503750653 : True := trivial
theorem PySem.W.Fast.tw12040677431429904133 : True := trivial
theorem PySem.W.Fast.tw2595577610604240378 : True := trivial
theorem PySem.W.Fast.tw1038247215737281719 : True := trivial
theorem PySem.W.Fast.tw4481764952854142452 : True := trivial
theorem PySem.W.Fast.tw10374577274893368753 : True := trivial
theorem PySem.W.Fast.tw16679712018582561614 : True := trivial
theorem PySem.W.Fast.tw18422028108677212234 : True := trivial
theorem PySem.W.Fast.tw11314343729174664666 : True := trivial
theorem PySem.W.Fast.tw12144903491508445100 : True := trivial
theorem PySem.W.Fast.tw5410701992273625596 : True := trivial
theorem PySem.W.Fast.tw5446825320023051751 : True := trivial
theorem PySem.W.Fast.tw6651055413482497048 : True := trivial
theorem PySem.W.Fast.tw8826862208592779608 : True := trivial
theorem PySem.W.Fast.tw17956590941846962028 : True := trivial
theorem PySem.W.Fast.tw8857301808902045245 : True := trivial
theorem PySem.W.Fast.tw18047672838168465609 : True := trivial
theorem PySem.W.Fast.tw15511111573729106131 : True := trivial
theorem PySem.W.Fast.tw5875628130657923078 : True := trivial
theorem PySem.W.Fast.tw9451768245216809476 : True := trivial
theorem PySem.W.Fast.tw14676423949297011654 : True := trivial
theorem PySem.W.Fast.tw16889642098717595778 : True := trivial
theorem PySem.W.Fast.tw3483220728277645491 : True := trivial
theorem PySem.W.Fast.tw11542248988965530452 : True := trivial
theorem PySem.W.Fast.tw13759574824684124109 : True := trivial
theorem PySem.W.Fast.tw14934332545413315113 : True := trivial
theorem PySem.W.Fast.tw9394509855493917456 : True := trivial
theorem PySem.W.Fast.tw8345782671699944640 : True := trivial
theorem PySem.W.Fast.tw4149242321745080514 : True := trivial
theorem PySem.W.Fast.tw13936953104613646441 : True := trivial
theorem PySem.W.Fast.tw6017660033818452893 : True := trivial
theorem PySem.W.Fast.tw10045212195313865930 : True := trivial
theorem PySem.W.Fast.tw11023483001014693433 : True := trivial
theorem PySem.W.Fast.tw9146733685234007564 : True := trivial
theorem PySem.W.Fast.tw12885693984714436355 : True := trivial
theorem PySem.W.Fast.tw4122594685705380845 : True := trivial
theorem PySem.W.Fast.tw5074364278867575291 : True := trivial
theorem PySem.W.Fast.tw12470676020179684936 : True := trivial
theorem PySem.W.Fast.tw18370770478251896336 : True := trivial
theorem PySem.W.Fast.tw8787899519211789901 : True := trivial
theorem PySem.W.Fast.tw3929694195139529278 : True := trivial
theorem PySem.W.Fast.tw3939178766629409369 : True := trivial
theorem PySem.W.Fast.tw6153801233893687154 : True := trivial
theorem PySem.W.Fast.tw1702086992093618071 : True := trivial
theorem PySem.W.Fast.tw8234968753213810787 : True := trivial
theorem PySem.W.Fast.tw17925664590098823762 : True := trivial
theorem PySem.W.Fast.tw14628116422327103217 : True := trivial
theorem PySem.W.Fast.tw16191589655879653688 : True := trivial
theorem PySem.W.Fast.tw17762882621560404617 : True := trivial
theorem PySem.W.Fast.tw5767069191028599730 : True := trivial
theorem PySem.W.Fast.tw2536118604560856658 : True := trivial
theorem PySem.W.Fast.tw10398675014643376168 : True := trivial
theorem PySem.W.Fast.tw2148428808942172622 : True := trivial
theorem PySem.W.Fast.tw15258574647267745024 : True := trivial
theorem PySem.W.Fast.tw4516536736095600041 : True := trivial
theorem PySem.W.Fast.tw3085153640804659143 : True := trivial
theorem PySem.W.Fast.tw6492940562827522626 : True := trivial
theorem PySem.W.Fast.tw11464655059229134710 : True := trivial
theorem PySem.W.Fast.tw7312450573834585538 : True := trivial
theorem PySem.W.Fast.tw1027629268091795188 : True := trivial
theorem PySem.W.Fast.tw1747008530161786154 : True := trivial
theorem PySem.W.Fast.tw2058631692537611874 : True := trivial
theorem PySem.W.Fast.tw13284947950688492318 : True := trivial
theorem PySem.W.Fast.tw12268732801053183532 : True := trivial
theorem PySem.W.Fast.tw2114255332731206300 : True := trivial
theorem PySem.W.Fast.tw5099512315436796998 : True := trivial
theorem PySem.W.Fast.tw9354521223337886622 : True := trivial
theorem PySem.W.Fast.tw12961867211632876944 : True := trivial
theorem PySem.W.Fast.tw15724742700531512397 : True := trivial
theorem PySem.W.Fast.tw17182718721547900416 : True := trivial
theorem PySem.W.Fast.tw16241750368891694775 : True := trivial
theorem PySem.W.Fast.tw8087508970535879049 : True := trivial
theorem PySem.W.Fast.tw6708426053191737832 : True := trivial
theorem PySem.W.Fast.tw15992994547265769329 : True := trivial
theorem PySem.W.Fast.tw10530561147025886293 : True := trivial
theorem PySem.W.Fast.tw17876296281579112139 : True := trivial
theorem PySem.W.Fast.tw12088250562254112759 : True := trivial
theorem PySem.W.Fast.tw4007447415870461879 : True := trivial
theorem PySem.W.Fast.tw4932695719170511320 : True := trivial
theorem PySem.W.Fast.tw9222952900846382896 : True := trivial
theorem PySem.W.Fast.tw17199741427718093984 : True := trivial
theorem PySem.W.Fast.tw14394782863354315271 : True := trivial
theorem PySem.W.Fast.tw9073314580152652918 : True := trivial
theorem PySem.W.Fast.tw12877591071005640153 : True := trivial
theorem PySem.W.Fast.tw6939017608051814807 : True := trivial
theorem PySem.W.Fast.tw15754994492354208967 : True := trivial
theorem PySem.W.Fast.tw5795733457439060342 : True := trivial
theorem PySem.W.Fast.tw7991713371690336310 : True := trivial
theorem PySem.W.Fast.tw4560158258166853731 : True := trivial
theorem PySem.W.Fast.tw17796184369761842617 : True := trivial
theorem PySem.W.Fast.tw15328024168989223639 : True := trivial
theorem PySem.W.Fast.tw11998497787124775051 : True := trivial
theorem PySem.W.Fast.tw16036021599350602154 : True := trivial
theorem PySem.W.Fast.tw1310134801067355126 : True := trivial
theorem PySem.W.Fast.tw1228541035452169122 : True := trivial
theorem PySem.W.Fast.tw6914389733068409945 : True := trivial
theorem PySem.W.Fast.tw15106047818915936967 : True := trivial
theorem PySem.W.Fast.tw15257332763829139265 : True := trivial
theorem PySem.W.Fast.tw5468714546544795620 : True := trivial
theorem PySem.W.Fast.tw18265624662474335099 : True := trivial
theorem PySem.W.Fast.tw13252541015248286115 : True := trivial
theorem PySem.W.Fast.tw14348396779183723167 : True := trivial
theorem PySem.W.Fast.tw2078379687224344832 : True := trivial
theorem PySem.W.Fast.tw9389388524893811727 : True := trivial
theorem PySem.W.Fast.tw16870136157751224312 : True := trivial
theorem PySem.W.Fast.tw17259226693238650581 : True := trivial
theorem PySem.W.Fast.tw8599001991021976085 : True := trivial
theorem PySem.W.Fast.tw10839249589080033354 : True := trivial
theorem PySem.W.Fast.tw6430297644908387541 : True := trivial
theorem PySem.W.Fast.tw10133610384903633049 : True := trivial
theorem PySem.W.Fast.tw6491418002555656439 : True := trivial
theorem PySem.W.Fast.tw9841986953491647671 : True := trivial
theorem PySem.W.Fast.tw49381618284827416 : True := trivial
theorem PySem.W.Fast.tw9048680835894302824 : True := trivial
theorem PySem.W.Fast.tw14239323996466072000 : True := trivial
theorem PySem.W.Fast.tw4691575800792692416 : True := trivial
theorem PySem.W.Fast.tw7106768890270501863 : True := trivial
theorem PySem.W.Fast.tw10246431530821819765 : True := trivial
theorem PySem.W.Fast.tw13061638731601018271 : True := trivial
theorem PySem.W.Fast.tw11215430697587413325 : True := trivial
theorem PySem.W.Fast.tw18332624490127971968 : True := trivial
theorem PySem.W.Fast.tw18396234016615037112 : True := trivial
theorem PySem.W.Fast.tw2333993627277669703 : True := trivial
theorem PySem.W.Fast.tw12044825579869911143 : True := trivial
theorem PySem.W.Fast.tw3413728604251146413 : True := trivial
theorem PySem.W.Fast.tw15410463351631031576 : True := trivial
theorem PySem.W.Fast.tw14293981536756464202 : True := trivial
theorem PySem.W.Fast.tw522716907477543414 : True := trivial
theorem PySem.W.Fast.tw6768312930566581676 : True := trivial
theorem PySem.W.Fast.tw11891482916560451002 : True := trivial
theorem PySem.W.Fast.tw10894133358523701707 : True := trivial
theorem PySem.W.Fast.tw429496709761327055 : True := trivial
theorem PySem.W.Fast.tw18197464927412730461 : True := trivial
theorem PySem.W.Fast.tw13811440840901476142 : True := trivial
theorem PySem.W.Fast.tw15890059795481234555 : True := trivial
theorem PySem.W.Fast.tw8855921605561314194 : True := trivial
theorem PySem.W.Fast.tw4962156803884289748 : True := trivial
theorem PySem.W.Fast.tw16961388333277804760 : True := trivial
theorem PySem.W.Fast.tw3099998422823067425 : True := trivial
theorem PySem.W.Fast.tw1038437049239206956 : True := trivial
theorem PySem.W.Fast.tw1175434056678249728 : True := trivial
theorem PySem.W.Fast.tw9348269346203463036 : True := trivial
theorem PySem.W.Fast.tw11654783419091041110 : True := trivial
theorem PySem.W.Fast.tw14072302261832378631 : True := trivial
theorem PySem.W.Fast.tw8552005736683815412 : True := trivial
theorem PySem.W.Fast.tw7970814534295511010 : True := trivial
theorem PySem.W.Fast.tw7793681900123075255 : True := trivial
theorem PySem.W.Fast.tw1766916810842214655 : True := trivial
theorem PySem.W.Fast.tw11566217859604430800 : True := trivial
theorem PySem.W.Fast.tw110403780538174150 : True := trivial
theorem PySem.W.Fast.tw16618301726625066081 : True := trivial
theorem PySem.W.Fast.tw2387904000052328331 : True := trivial
theorem PySem.W.Fast.tw13312783295572217897 : True := trivial
theorem PySem.W.Fast.tw1965355644394748080 : True := trivial
theorem PySem.W.Fast.tw14878930976204366858 : True := trivial
theorem PySem.W.Fast.tw8672762198191706605 : True := trivial
theorem PySem.W.Fast.tw14178815458473028089 : True := trivial
theorem PySem.W.Fast.tw4394956562615279679 : True := trivial
theorem PySem.W.Fast.tw16714332222151681419 : True := trivial
theorem PySem.W.Fast.tw6266798033632310710 : True := trivial
theorem PySem.W.Fast.tw18343168388422067516 : True := trivial
theorem PySem.W.Fast.tw12445648691229061415 : True := trivial
theorem PySem.W.Fast.tw5213332760146251192 : True := trivial
theorem PySem.W.Fast.tw1319566802891685073 : True := trivial
theorem PySem.W.Fast.tw16966282324133492686 : True := trivial
theorem PySem.W.Fast.tw5993426887090890429 : True := trivial
theorem PySem.W.Fast.tw7307052554356877303 : True := trivial
theorem PySem.W.Fast.tw7865131274177947803 : True := trivial
theorem PySem.W.Fast.tw11808338255151598550 : True := trivial
theorem PySem.W.Fast.tw12133637623226721516 : True := trivial
theorem PySem.W.Fast.tw9354353330369567197 : True := trivial
theorem PySem.W.Fast.tw921385037036246540 : True := trivial
theorem PySem.W.Fast.tw3602365329042979317 : True := trivial
theorem PySem.W.Fast.tw9094832054677814685 : True := trivial
theorem PySem.W.Fast.tw16739114813506259103 : True := trivial
theorem PySem.W.Fast.tw10774594498941798029 : True := trivial
theorem PySem.W.Fast.tw7137573531143141734 : True := trivial
theorem PySem.W.Fast.tw2916482797481075573 : True := trivial
theorem PySem.W.Fast.tw4556270549471709247 : True := trivial
theorem PySem.W.Fast.tw7655257282973591948 : True := trivial
theorem PySem.W.Fast.tw7778364393053851190 : True := trivial
theorem PySem.W.Fast.tw15291114804831239528 : True := trivial
theorem PySem.W.Fast.tw4116466843739726218 : True := trivial
theorem PySem.W.Fast.tw13473651087456626125 : True := trivial
theorem PySem.W.Fast.tw5567382915559843373 : True := trivial
theorem PySem.W.Fast.tw2161431843451425142 : True := trivial
theorem PySem.W.Fast.tw10233806917748699821 : True := trivial
theorem PySem.W.Fast.tw8705816620813791971 : True := trivial
theorem PySem.W.Fast.tw1657952110181222784 : True := trivial
theorem PySem.W.Fast.tw17778257778854045322 : True := trivial
theorem PySem.W.Fast.tw6294658380774783576 : True := trivial
theorem PySem.W.Fast.tw8138926936395059582 : True := trivial
theorem PySem.W.Fast.tw10630759437011377450 : True := trivial
theorem PySem.W.Fast.tw16200587663457531098 : True := trivial
theorem PySem.W.Fast.tw3911092053249205847 : True := trivial
theorem PySem.W.Fast.tw13939018497780884923 : True := trivial
theorem PySem.W.Fast.tw15399255110747300788 : True := trivial
theorem PySem.W.Fast.tw16100998510978835006 : True := trivial
theorem PySem.W.Fast.tw10476718938446367306 : True := trivial
theorem PySem.W.Fast.tw14581388705602076714 : True := trivial
theorem PySem.W.Fast.tw1163348904848257013 : True := trivial
theorem PySem.W.Fast.tw9696289065096886350 : True := trivial
theorem PySem.W.Fast.tw9432050448881080696 : True := trivial
theorem PySem.W.Fast.tw11429536066790863630 : True := trivial
theorem PySem.W.Fast.tw14695743406292553068 : True := trivial
theorem PySem.W.Fast.tw222385296358592911 : True := trivial
theorem PySem.W.Fast.tw11991489438557366389 : True := trivial
theorem PySem.W.Fast.tw1266773817466651876 : True := trivial
theorem PySem.W.Fast.tw5288187077291598892 : True := trivial
theorem PySem.W.Fast.tw11522178855541701854 : True := trivial
theorem PySem.W.Fast.tw12328800997758467742 : True := trivial
theorem PySem.W.Fast.tw8526880301809725764 : True := trivial
theorem PySem.W.Fast.tw4540195418543666169 : True := trivial
theorem PySem.W.Fast.tw18183380667901135645 : True := trivial
theorem PySem.W.Fast.tw15455627031495728025 : True := trivial
theorem PySem.W.Fast.tw7865398317169311596 : True := trivial
theorem PySem.W.Fast.tw12970973667398303846 : True := trivial
theorem PySem.W.Fast.tw14517037783358864842 : True := trivial
theorem PySem.W.Fast.tw14948854873320072180 : True := trivial
theorem PySem.W.Fast.tw4338116085829104194 : True := trivial
theorem PySem.W.Fast.tw11976996970912371413 : True := trivial
theorem PySem.W.Fast.tw18115267286793399603 : True := trivial
theorem PySem.W.Fast.tw318282082334551648 : True := trivial
theorem PySem.W.Fast.tw14906729118958727707 : True := trivial
theorem PySem.W.Fast.tw10898936956257031421 : True := trivial
theorem PySem.W.Fast.tw529636489863014590 : True := trivial
theorem PySem.W.Fast.tw3053948488987226324 : True := trivial
theorem PySem.W.Fast.tw4851824867865054388 : True := trivial
theorem PySem.W.Fast.tw4988882735704502521 : True := trivial
theorem PySem.W.Fast.tw2767760533122304988 : True := trivial
theorem PySem.W.Fast.tw3471803702047338691 : True := trivial
theorem PySem.W.Fast.tw16383123693318984296 : True := trivial
theorem PySem.W.Fast.tw17978704094206950325 : True := trivial
theorem PySem.W.Fast.tw11013800261320241943 : True := trivial
theorem PySem.W.Fast.tw15061871862099284647 : True := trivial
theorem PySem.W.Fast.tw2376775613707312868 : True := trivial
theorem PySem.W.Fast.tw8531684106006972462 : True := trivial
theorem PySem.W.Fast.tw18269357938433954160 : True := trivial
theorem PySem.W.Fast.tw13641861583791562254 : True := trivial
theorem PySem.W.Fast.tw2969495111843109426 : True := trivial
theorem PySem.W.Fast.tw13565101751344857436 : True := trivial
theorem PySem.W.Fast.tw9142462355410691366 : True := trivial
theorem PySem.W.Fast.tw6532785761329381530 : True := trivial
theorem PySem.W.Fast.tw16822617138052053774 : True := trivial
theorem PySem.W.Fast.tw1102558125969397511 : True := trivial
theorem PySem.W.Fast.tw483448943502936347 : True := trivial
theorem PySem.W.Fast.tw2996960082844675167 : True := trivial
theorem PySem.W.Fast.tw3030679800337881423 : True := trivial
theorem PySem.W.Fast.tw871944057507966 : True := trivial
theorem PySem.W.Fast.tw18193556561899467795 : True := trivial
theorem PySem.W.Fast.tw16172901471875589823 : True := trivial
theorem PySem.W.Fast.tw293018165672877247 : True := trivial
theorem PySem.W.Fast.tw2524938214899838712 : True := trivial
theorem PySem.W.Fast.tw11708848692020726678 : True := trivial
theorem PySem.W.Fast.tw12307163034532868119 : True := trivial
theorem PySem.W.Fast.tw9669469704365245479 : True := trivial
theorem PySem.W.Fast.tw16028032347560174405 : True := trivial
theorem PySem.W.Fast.tw8448258024596531995 : True := trivial
theorem PySem.W.Fast.tw12766477881430984204 : True := trivial
theorem PySem.W.Fast.tw2016770085449064964 : True := trivial
theorem PySem.W.Fast.tw18251914822779211439 : True := trivial
theorem PySem.W.Fast.tw2195516672165079296 : True := trivial
theorem PySem.W.Fast.tw3150483022776086942 : True := trivial
theorem PySem.W.Fast.tw9287598503037597418 : True := trivial
theorem PySem.W.Fast.tw13980590329162117154 : True := trivial
theorem PySem.W.Fast.tw15772087881072251356 : True := trivial
theorem PySem.W.Fast.tw14158502469926965724 : True := trivial
theorem PySem.W.Fast.tw3939094174550256251 : True := trivial
theorem PySem.W.Fast.tw10946323518110367761 : True := trivial
theorem PySem.W.Fast.tw14920625322631948653 : True := trivial
theorem PySem.W.Fast.tw7323571317495375536 : True := trivial
theorem PySem.W.Fast.tw2842731588928148385 : True := trivial
theorem PySem.W.Fast.tw5620488405301764004 : True := trivial
theorem PySem.W.Fast.tw8690841313681920027 : True := trivial
theorem PySem.W.Fast.tw7069494816078439956 : True := trivial
theorem PySem.W.Fast.tw8540908142245206200 : True := trivial
theorem PySem.W.Fast.tw11846512296950092687 : True := trivial
theorem PySem.W.Fast.tw9879502575163509841 : True := trivial
theorem PySem.W.Fast.tw1376415500283543654 : True := trivial
theorem PySem.W.Fast.tw11412225537339090178 : True := trivial
theorem PySem.W.Fast.tw14897985698597795574 : True := trivial
theorem PySem.W.Fast.tw5393229329721249556 : True := trivial
theorem PySem.W.Fast.tw8093342914634547940 : True := trivial
theorem PySem.W.Fast.tw13405036031227771740 : True := trivial
theorem PySem.W.Fast.tw3733664750796668652 : True := trivial
theorem PySem.W.Fast.tw15817082293992126849 : True := trivial
theorem PySem.W.Fast.tw17700872970317326548 : True := trivial
theorem PySem.W.Fast.tw13421245442984685195 : True := trivial
theorem PySem.W.Fast.tw6651236345622781462 : True := trivial
theorem PySem.W.Fast.tw5840689439260360311 : True := trivial
theorem PySem.W.Fast.tw9841373038800677377 : True := trivial
theorem PySem.W.Fast.tw3354116717557688882 : True := trivial
theorem PySem.W.Fast.tw17371565120907295097 : True := trivial
theorem PySem.W.Fast.tw4845930189045923224 : True := trivial
theorem PySem.W.Fast.tw6859485734303307046 : True := trivial
theorem PySem.W.Fast.tw12925947771708874493 : True := trivial
theorem PySem.W.Fast.tw15644080009658540047 : True := trivial
theorem PySem.W.Fast.tw16962103433966029243 : True := trivial
theorem PySem.W.Fast.tw15304444704307983200 : True := trivial
theorem PySem.W.Fast.tw16922271946971972495 : True := trivial
theorem PySem.W.Fast.tw11932385960389241666 : True := trivial
theorem PySem.W.Fast.tw1244307871712202903 : True := trivial
theorem PySem.W.Fast.tw4262644263515832944 : True := trivial
theorem PySem.W.Fast.tw9595359096996801937 : True := trivial
theorem PySem.W.Fast.tw5721614755384899165 : True := trivial
theorem PySem.W.Fast.tw15276851416634746133 : True := trivial
theorem PySem.W.Fast.tw15449196816002357242 : True := trivial
theorem PySem.W.Fast.tw10584484423986706923 : True := trivial
theorem PySem.W.Fast.tw17637652929849088801 : True := trivial
theorem PySem.W.Fast.tw7576638580021070778 : True := trivial
theorem PySem.W.Fast.tw7654664299646305322 : True := trivial
theorem PySem.W.Fast.tw15217573569514210350 : True := trivial
theorem PySem.W.Fast.tw882281974395888290 : True := trivial
theorem PySem.W.Fast.tw8363361406673522888 : True := trivial
theorem PySem.W.Fast.tw10225239564908355335 : True := trivial
theorem PySem.W.Fast.tw12575237180319111715 : True := trivial
theorem PySem.W.Fast.tw2999799066475136634 : True := trivial
theorem PySem.W.Fast.tw15688587527610089527 : True := trivial
theorem PySem.W.Fast.tw9293570984400189214 : True := trivial
theorem PySem.W.Fast.tw11821029677520198865 : True := trivial
theorem PySem.W.Fast.tw12380173268794429822 : True := trivial
theorem PySem.W.Fast.tw7082550433238266782 : True := trivial
theorem PySem.W.Fast.tw12888183839373701096 : True := trivial
theorem PySem.W.Fast.tw2236631544330928755 : True := trivial
theorem PySem.W.Fast.tw6362786277812519819 : True := trivial
theorem PySem.W.Fast.tw7764010455519133582 : True := trivial
theorem PySem.W.Fast.tw11681811197207438816 : True := trivial
theorem PySem.W.Fast.tw7459166257705741413 : True := trivial
theorem PySem.W.Fast.tw13604790261546200339 : True := trivial
theorem PySem.W.Fast.tw5745805582489644097 : True := trivial
theorem PySem.W.Fast.tw9532648408995018006 : True := trivial
theorem PySem.W.Fast.tw15346115288922989447 : True := trivial
theorem PySem.W.Fast.tw7567106763467188635 : True := trivial
theorem PySem.W.Fast.tw17882493288069369744 : True := trivial
theorem PySem.W.Fast.tw16452679599238181521 : True := trivial
theorem PySem.W.Fast.tw11209384824728597256 : True := trivial
theorem PySem.W.Fast.tw7484683187915610848 : True := trivial
theorem PySem.W.Fast.tw7506855589708742368 : True := trivial
theorem PySem.W.Fast.tw1513821654116608997 : True := trivial
theorem PySem.W.Fast.tw8180855582925672301 : True := trivial
theorem PySem.W.Fast.tw4668263590651455273 : True := trivial
theorem PySem.W.Fast.tw8194812622806604094 : True := trivial
theorem PySem.W.Fast.tw14368862948468501561 : True := trivial
theorem PySem.W.Fast.tw13705727532266033429 : True := trivial
theorem PySem.W.Fast.tw2762920802388938771 : True := trivial
theorem PySem.W.Fast.tw6145869926546572202 : True := trivial
theorem PySem.W.Fast.tw13822482956792362620 : True := trivial
theorem PySem.W.Fast.tw15056537800167506221 : True := trivial
theorem PySem.W.Fast.tw14990252590433545874 : True := trivial
theorem PySem.W.Fast.tw2961175018230443808 : True := trivial
theorem PySem.W.Fast.tw14990825032405494292 : True := trivial
theorem PySem.W.Fast.tw14498129528310536062 : True := trivial
theorem PySem.W.Fast.tw663698537909212807 : True := trivial
theorem PySem.W.Fast.tw1742006627962190847 : True := trivial
theorem PySem.W.Fast.tw6509214171930633751 : True := trivial
theorem PySem.W.Fast.tw9417402733441593105 : True := trivial
theorem PySem.W.Fast.tw14704204902715560509 : True := trivial
theorem PySem.W.Fast.tw3609374997667327405 : True := trivial
theorem PySem.W.Fast.tw6994090184239283924 : True := trivial
theorem PySem.W.Fast.tw10004044688747823752 : True := trivial
theorem PySem.W.Fast.tw17439084376291167606 : True := trivial
theorem PySem.W.Fast.tw9216642871163925442 : True := trivial
theorem PySem.W.Fast.tw11273909627454710075 : True := trivial
theorem PySem.W.Fast.tw17054248261707371678 : True := trivial
theorem PySem.W.Fast.tw17350830392611443656 : True := trivial
theorem PySem.W.Fast.tw12551978344688347952 : True := trivial
theorem PySem.W.Fast.tw17739484482600398866 : True := trivial
theorem PySem.W.Fast.tw4734593964420910454 : True := trivial
theorem PySem.W.Fast.tw17576529133640993606 : True := trivial
theorem PySem.W.Fast.tw14827319132807100611 : True := trivial
theorem PySem.W.Fast.tw16299690096148242626 : True := trivial
theorem PySem.W.Fast.tw10419121420820164245 : True := trivial
theorem PySem.W.Fast.tw17773793614355306599 : True := trivial
theorem PySem.W.Fast.tw618599280033019330 : True := trivial
theorem PySem.W.Fast.tw8004774400049908560 : True := trivial
theorem PySem.W.Fast.tw15306139266638747313 : True := trivial
theorem PySem.W.Fast.tw7058765931685413779 : True := trivial
theorem PySem.W.Fast.tw9182622683917217072 : True := trivial
theorem PySem.W.Fast.tw8708577012254135002 : True := trivial
theorem PySem.W.Fast.tw1349792768852453553 : True := trivial
theorem PySem.W.Fast.tw2631684137247845377 : True := trivial
theorem PySem.W.Fast.tw14671230832086124935 : True := trivial
theorem PySem.W.Fast.tw2674175823752964651 : True := trivial
theorem PySem.W.Fast.tw17857768644192374533 : True := trivial
theorem PySem.W.Fast.tw15386934607522475555 : True := trivial
theorem PySem.W.Fast.tw13354331788319566451 : True := trivial
theorem PySem.W.Fast.tw1081873070822133251 : True := trivial
theorem PySem.W.Fast.tw4043679100959156175 : True := trivial
theorem PySem.W.Fast.tw7292811446803851819 : True := trivial
theorem PySem.W.Fast.tw13614630190936836525 : True := trivial
theorem PySem.W.Fast.tw11760694211473887700 : True := trivial
theorem PySem.W.Fast.tw7134182158944185707 : True := trivial
theorem PySem.W.Fast.tw10094519525544188701 : True := trivial
theorem PySem.W.Fast.tw3763685716464633682 : True := trivial
theorem PySem.W.Fast.tw10714462825684192305 : True := trivial
theorem PySem.W.Fast.tw1382094093308722633 : True := trivial
theorem PySem.W.Fast.tw7842854824728715705 : True := trivial
theorem PySem.W.Fast.tw1385354977481461901 : True := trivial
theorem PySem.W.Fast.tw9235697434255390786 : True := trivial
theorem PySem.W.Fast.tw12427765431494189968 : True := trivial
theorem PySem.W.Fast.tw6961269550456630850 : True := trivial
theorem PySem.W.Fast.tw15949641500244610998 : True := trivial
theorem PySem.W.Fast.tw14689445564302773496 : True := trivial
theorem PySem.W.Fast.tw16476288858067716073 : True := trivial
theorem PySem.W.Fast.tw809508410335667783 : True := trivial
theorem PySem.W.Fast.tw5793581365008513395 : True := trivial
theorem PySem.W.Fast.tw15518426019300526696 : True := trivial
theorem PySem.W.Fast.tw16667924797489834271 : True := trivial
theorem PySem.W.Fast.tw14624902580267227569 : True := trivial
theorem PySem.W.Fast.tw15444644804689375078 : True := trivial
theorem PySem.W.Fast.tw7867886262238776142 : True := trivial
theorem PySem.W.Fast.tw5204644461245068198 : True := trivial
theorem PySem.W.Fast.tw988320094265575297 : True := trivial
theorem PySem.W.Fast.tw3852691252006994151 : True := trivial
theorem PySem.W.Fast.tw3382986310946864016 : True := trivial
theorem PySem.W.Fast.tw11049461131733589455 : True := trivial
theorem PySem.W.Fast.tw16804760645288556473 : True := trivial
theorem PySem.W.Fast.tw15742128129984822880 : True := trivial
theorem PySem.W.Fast.tw8716595569717014615 : True := trivial
theorem PySem.W.Fast.tw1331431179695898465 : True := trivial
theorem PySem.W.Fast.tw11127863118272151946 : True := trivial
theorem PySem.W.Fast.tw18073435559825202938 : True := trivial
theorem PySem.W.Fast.tw11991569192314732196 : True := trivial
theorem PySem.W.Fast.tw12986530315697012667 : True := trivial
theorem PySem.W.Fast.tw6732534928144668025 : True := trivial
theorem PySem.W.Fast.tw13898682142349044618 : True := trivial
theorem PySem.W.Fast.tw16538031780868253881 : True := trivial
theorem PySem.W.Fast.tw5824647127917331740 : True := trivial
theorem PySem.W.Fast.tw5329366367719778382 : True := trivial
theorem PySem.W.Fast.tw17627177502129488434 : True := trivial
theorem PySem.W.Fast.tw18356020701310980826 : True := trivial
theorem PySem.W.Fast.tw15560317133435531376 : True := trivial
theorem PySem.W.Fast.tw3199008311929097125 : True := trivial
theorem PySem.W.Fast.tw633315934969486707 : True := trivial
theorem PySem.W.Fast.tw10246840025402787131 : True := trivial
theorem PySem.W.Fast.tw12239838849233861571 : True := trivial
theorem PySem.W.Fast.tw8673394752476956 : True := trivial
theorem PySem.W.Fast.tw12583442058707572353 : True := trivial
theorem PySem.W.Fast.tw10245573083124101216 : True := trivial
theorem PySem.W.Fast.tw16866885368573082673 : True := trivial
theorem PySem.W.Fast.tw5810212273523132138 : True := trivial
theorem PySem.W.Fast.tw6388120188671759243 : True := trivial
theorem PySem.W.Fast.tw4715262807664678218 : True := trivial
theorem PySem.W.Fast.tw4176330344458022720 : True := trivial
theorem PySem.W.Fast.tw3054979641466812000 : True := trivial
theorem PySem.W.Fast.tw13393352308885311061 : True := trivial
theorem PySem.W.Fast.tw11481576626416477091 : True := trivial
theorem PySem.W.Fast.tw17158662774650360615 : True := trivial
theorem PySem.W.Fast.tw8912450515816405665 : True := trivial
theorem PySem.W.Fast.tw16150972080626867996 : True := trivial
theorem PySem.W.Fast.tw15282504653378126761 : True := trivial
theorem PySem.W.Fast.tw17874625596860793307 : True := trivial
theorem PySem.W.Fast.tw12967819703877234424 : True := trivial
theorem PySem.W.Fast.tw18139412803142648654 : True := trivial
theorem PySem.W.Fast.tw8773038923569267639 : True := trivial
theorem PySem.W.Fast.tw5603354517160660389 : True := trivial
theorem PySem.W.Fast.tw10215319909862145061 : True := trivial
theorem PySem.W.Fast.tw13697350595086131096 : True := trivial
theorem PySem.W.Fast.tw7350028613280326635 : True := trivial
theorem PySem.W.Fast.tw121405325658615757 : True := trivial
theorem PySem.W.Fast.tw14619951496051369077 : True := trivial
theorem PySem.W.Fast.tw2231405540901803835 : True := trivial
theorem PySem.W.Fast.tw11646815085004407992 : True := trivial
theorem PySem.W.Fast.tw4710179318636174515 : True := trivial
theorem PySem.W.Fast.tw6756182794098774257 : True := trivial
theorem PySem.W.Fast.tw10788097945321636483 : True := trivial
theorem PySem.W.Fast.tw3196487129184405894 : True := trivial
theorem PySem.W.Fast.tw14435753774500340121 : True := trivial
theorem PySem.W.Fast.tw17596414580155021535 : True := trivial
theorem PySem.W.Fast.tw1544635150519654107 : True := trivial
theorem PySem.W.Fast.tw15781708189727749283 : True := trivial
theorem PySem.W.Fast.tw10500186194735839551 : True := trivial
theorem PySem.W.Fast.tw3830057066145677754 : True := trivial
theorem PySem.W.Fast.tw7423310670381994902 : True := trivial
theorem PySem.W.Fast.tw13799574739475551268 : True := trivial
theorem PySem.W.Fast.tw7412888278510730714 : True := trivial
theorem PySem.W.Fast.tw4383670950340256580 : True := trivial
theorem PySem.W.Fast.tw9695266610727272604 : True := trivial
theorem PySem.W.Fast.tw654424829634681574 : True := trivial
theorem PySem.W.Fast.tw17539220316180490530 : True := trivial
theorem PySem.W.Fast.tw6750135242844770365 : True := trivial
theorem PySem.W.Fast.tw882412045415724700 : True := trivial
theorem PySem.W.Fast.tw15234835325236653638 : True := trivial
theorem PySem.W.Fast.tw3354706351733772715 : True := trivial
theorem PySem.W.Fast.tw11196275722276005087 : True := trivial
theorem PySem.W.Fast.tw512983835331464193 : True := trivial
theorem PySem.W.Fast.tw8355214573120098211 : True := trivial
theorem PySem.W.Fast.tw17885626459763726770 : True := trivial
theorem PySem.W.Fast.tw431169725997800583 : True := trivial
theorem PySem.W.Fast.tw11002913695381393658 : True := trivial
theorem PySem.W.Fast.tw9968349871803669714 : True := trivial
theorem PySem.W.Fast.tw14671155364101411095 : True := trivial
theorem PySem.W.Fast.tw6218736836208211517 : True := trivial
theorem PySem.W.Fast.tw9033891295490072228 : True := trivial
theorem PySem.W.Fast.tw10285196979783708859 : True := trivial
theorem PySem.W.Fast.tw1628472207056664910 : True := trivial
theorem PySem.W.Fast.tw9441564184946931914 : True := trivial
theorem PySem.W.Fast.tw9936433648155215572 : True := trivial
theorem PySem.W.Fast.tw12405288636675040949 : True := trivial
theorem PySem.W.Fast.tw6592922934469508044 : True := trivial
theorem PySem.W.Fast.tw3415733217548881990 : True := trivial
theorem PySem.W.Fast.tw4692719534547258644 : True := trivial
theorem PySem.W.Fast.tw14253635540001541145 : True := trivial
theorem PySem.W.Fast.tw12928541234958084896 : True := trivial
theorem PySem.W.Fast.tw14803861350607942935 : True := trivial
theorem PySem.W.Fast.tw1196721088551728315 : True := trivial
theorem PySem.W.Fast.tw7111286195541029935 : True := trivial
theorem PySem.W.Fast.tw16646547959747334067 : True := trivial
theorem PySem.W.Fast.tw5021099261769145380 : True := trivial
theorem PySem.W.Fast.tw306317860530192725 : True := trivial
theorem PySem.W.Fast.tw956764960005572345 : True := trivial
theorem PySem.W.Fast.tw12535088621755377499 : True := trivial
theorem PySem.W.Fast.tw10141705584342257377 : True := trivial
theorem PySem.W.Fast.tw10079651576124058074 : True := trivial
theorem PySem.W.Fast.tw9598571250170937537 : True := trivial
theorem PySem.W.Fast.tw1742108646016751575 : True := trivial
theorem PySem.W.Fast.tw2086533909616755958 : True := trivial
theorem PySem.W.Fast.tw15811590535170868860 : True := trivial
theorem PySem.W.Fast.tw16068135772168192524 : True := trivial
theorem PySem.W.Fast.tw4393802681078610308 : True := trivial
theorem PySem.W.Fast.tw10339829643405745803 : True := trivial
theorem PySem.W.Fast.tw1621773172828635500 : True := trivial
theorem PySem.W.Fast.tw3017788595408654109 : True := trivial
theorem PySem.W.Fast.tw15993530949848323427 : True := trivial
theorem PySem.W.Fast.tw14179859889691588297 : True := trivial
theorem PySem.W.Fast.tw8370098762855547581 : True := trivial
theorem PySem.W.Fast.tw14983363549760013125 : True := trivial
theorem PySem.W.Fast.tw6157453109130240557 : True := trivial
theorem PySem.W.Fast.tw12043863003555770476 : True := trivial
theorem PySem.W.Fast.tw8180935782657136171 : True := trivial
theorem PySem.W.Fast.tw12236934412841527730 : True := trivial
theorem PySem.W.Fast.tw4829096827391203777 : True := trivial
theorem PySem.W.Fast.tw10539311375323987434 : True := trivial
theorem PySem.W.Fast.tw17745760703757325709 : True := trivial
theorem PySem.W.Fast.tw12481528653182282310 : True := trivial
theorem PySem.W.Fast.tw482330212868801478 : True := trivial
theorem PySem.W.Fast.tw9246543853562108016 : True := trivial
theorem PySem.W.Fast.tw1759476551786173530 : True := trivial
theorem PySem.W.Fast.tw6680651742680540163 : True := trivial
theorem PySem.W.Fast.tw778248978071658531 : True := trivial
theorem PySem.W.Fast.tw1261896074882084857 : True := trivial
theorem PySem.W.Fast.tw8027803910243528571 : True := trivial
theorem PySem.W.Fast.tw12915347274949410637 : True := trivial
theorem PySem.W.Fast.tw16664894195288562153 : True := trivial
theorem PySem.W.Fast.tw8769043727187303497 : True := trivial
theorem PySem.W.Fast.tw12237367084045059417 : True := trivial
theorem PySem.W.Fast.tw1074110782502561259 : True := trivial
theorem PySem.W.Fast.tw889669852125312314 : True := trivial
theorem PySem.W.Fast.tw843533804243802779 : True := trivial
theorem PySem.W.Fast.tw11002682861613774717 : True := trivial
theorem PySem.W.Fast.tw17976659849707521396 : True := trivial
theorem PySem.W.Fast.tw13272026952398676364 : True := trivial
theorem PySem.W.Fast.tw13238027617277596845 : True := trivial
theorem PySem.W.Fast.tw7236758551005490965 : True := trivial
theorem PySem.W.Fast.tw9782036574816176390 : True := trivial
theorem PySem.W.Fast.tw9334516976584374265 : True := trivial
theorem PySem.W.Fast.tw17355223113665969510 : True := trivial
theorem PySem.W.Fast.tw7592789792047808411 : True := trivial
theorem PySem.W.Fast.tw5488958807325524097 : True := trivial
theorem PySem.W.Fast.tw4851862074390688493 : True := trivial
theorem PySem.W.Fast.tw17290486400878030125 : True := trivial
theorem PySem.W.Fast.tw3522105127104979258 : True := trivial
theorem PySem.W.Fast.tw4531118793387681619 : True := trivial
theorem PySem.W.Fast.tw13054518544485405222 : True := trivial
theorem PySem.W.Fast.tw13291975177541610037 : True := trivial
theorem PySem.W.Fast.tw12424260593139289348 : True := trivial
theorem PySem.W.Fast.tw17537018761013691267 : True := trivial
theorem PySem.W.Fast.tw4595136456226694710 : True := trivial
theorem PySem.W.Fast.tw14378687586475068338 : True := trivial
theorem PySem.W.Fast.tw5575050801966504883 : True := trivial
theorem PySem.W.Fast.tw16877902014984099614 : True := trivial
theorem PySem.W.Fast.tw533170768402593111 : True := trivial
theorem PySem.W.Fast.tw16833004300610753066 : True := trivial
theorem PySem.W.Fast.tw1999573721587938053 : True := trivial
theorem PySem.W.Fast.tw13639868250270892190 : True := trivial
theorem PySem.W.Fast.tw9945802356366489545 : True := trivial
theorem PySem.W.Fast.tw17205371652260380748 : True := trivial
theorem PySem.W.Fast.tw11427755044859567290 : True := trivial
theorem PySem.W.Fast.tw11910243875851837939 : True := trivial
theorem PySem.W.Fast.tw4386528871104302075 : True := trivial
theorem PySem.W.Fast.tw18041255592009108125 : True := trivial
theorem PySem.W.Fast.tw3975844292789340192 : True := trivial
theorem PySem.W.Fast.tw12704448172075798409 : True := trivial
theorem PySem.W.Fast.tw5796238990292229567 : True := trivial
theorem PySem.W.Fast.tw12435931430022703342 : True := trivial
theorem PySem.W.Fast.tw13353600314965324506 : True := trivial
theorem PySem.W.Fast.tw16883565949883149280 : True := trivial
theorem PySem.W.Fast.tw2182315637396902989 : True := trivial
theorem PySem.W.Fast.tw8877514323068439989 : True := trivial
theorem PySem.W.Fast.tw9460172989448867662 : True := trivial
theorem PySem.W.Fast.tw18054204119154738209 : True := trivial
theorem PySem.W.Fast.tw1328831263295070434 : True := trivial
theorem PySem.W.Fast.tw6506050288089171701 : True := trivial
theorem PySem.W.Fast.tw242664738806252402 : True := trivial
theorem PySem.W.Fast.tw1030348429853201532 : True := trivial
theorem PySem.W.Fast.tw10326061526568518667 : True := trivial
theorem PySem.W.Fast.tw9322331744344084247 : True := trivial
theorem PySem.W.Fast.tw10571388730096047562 : True := trivial
theorem PySem.W.Fast.tw5770625218368597355 : True := trivial
theorem PySem.W.Fast.tw11706044624120382432 : True := trivial
theorem PySem.W.Fast.tw15993824804065697762 : True := trivial
theorem PySem.W.Fast.tw13917368337770851264 : True := trivial
theorem PySem.W.Fast.tw15935320288042664964 : True := trivial
theorem PySem.W.Fast.tw6585640083585973482 : True := trivial
theorem PySem.W.Fast.tw573432482501047744 : True := trivial
theorem PySem.W.Fast.tw17741556796580216714 : True := trivial
theorem PySem.W.Fast.tw9518751237712595224 : True := trivial
theorem PySem.W.Fast.tw17478183220537020217 : True := trivial
theorem PySem.W.Fast.tw534661087259554266 : True := trivial
theorem PySem.W.Fast.tw5938139690797184665 : True := trivial
theorem PySem.W.Fast.tw5351962686550182637 : True := trivial
theorem PySem.W.Fast.tw8865067579482977156 : True := trivial
theorem PySem.W.Fast.tw1799072224639957490 : True := trivial
theorem PySem.W.Fast.tw16488305506107302700 : True := trivial
theorem PySem.W.Fast.tw2435051300730174119 : True := trivial
theorem PySem.W.Fast.tw17424456144350368447 : True := trivial
theorem PySem.W.Fast.tw8748695449720804689 : True := trivial
theorem PySem.W.Fast.tw1473338376712902214 : True := trivial
theorem PySem.W.Fast.tw5817539105974718744 : True := trivial
theorem PySem.W.Fast.tw2491762576842743009 : True := trivial
theorem PySem.W.Fast.tw6081607931687297976 : True := trivial
theorem PySem.W.Fast.tw15484204135074574510 : True := trivial
theorem PySem.W.Fast.tw8187313356413141908 : True := trivial
theorem PySem.W.Fast.tw238180307349372642 : True := trivial
theorem PySem.W.Fast.tw5710235159092248186 : True := trivial
theorem PySem.W.Fast.tw2313400009449182903 : True := trivial
theorem PySem.W.Fast.tw17092170623092725555 : True := trivial
theorem PySem.W.Fast.tw17134159012592921044 : True := trivial
theorem PySem.W.Fast.tw13810359478587584651 : True := trivial
theorem PySem.W.Fast.tw8573210619261360493 : True := trivial
theorem PySem.W.Fast.tw5397718521343967783 : True := trivial
theorem PySem.W.Fast.tw2634438960626743025 : True := trivial
theorem PySem.W.Fast.tw13677834984373088299 : True := trivial
theorem PySem.W.Fast.tw11647543557518644209 : True := trivial
theorem PySem.W.Fast.tw14536275990453801126 : True := trivial
theorem PySem.W.Fast.tw12847521427680253858 : True := trivial
theorem PySem.W.Fast.tw704325128090550060 : True := trivial
theorem PySem.W.Fast.tw614458026452674193 : True := trivial
theorem PySem.W.Fast.tw17863790336695078214 : True := trivial
theorem PySem.W.Fast.tw17251230381766969364 : True := trivial
theorem PySem.W.Fast.tw14219094908857854122 : True := trivial
theorem PySem.W.Fast.tw1634317553925056782 : True := trivial
theorem PySem.W.Fast.tw15224082642904762421 : True := trivial
theorem PySem.W.Fast.tw15584716303805628931 : True := trivial
theorem PySem.W.Fast.tw11694475960569076611 : True := trivial
theorem PySem.W.Fast.tw8625267953329748183 : True := trivial
theorem PySem.W.Fast.tw9328068255988324805 : True := trivial
theorem PySem.W.Fast.tw16681177291213254531 : True := trivial
theorem PySem.W.Fast.tw3644307730437859756 : True := trivial
theorem PySem.W.Fast.tw11827656352763055898 : True := trivial
theorem PySem.W.Fast.tw3106541558653047849 : True := trivial
theorem PySem.W.Fast.tw16944429577362385626 : True := trivial
theorem PySem.W.Fast.tw13537936186170479308 : True := trivial
theorem PySem.W.Fast.tw557794986481184621 : True := trivial
theorem PySem.W.Fast.tw300190832277120921 : True := trivial
theorem PySem.W.Fast.tw1576123347272582991 : True := trivial
theorem PySem.W.Fast.tw6495844409606907742 : True := trivial
theorem PySem.W.Fast.tw16374337297862050551 : True := trivial
theorem PySem.W.Fast.tw39424060837046710 : True := trivial
theorem PySem.W.Fast.tw17989347515979545537 : True := trivial
theorem PySem.W.Fast.tw3033037678938239901 : True := trivial
theorem PySem.W.Fast.tw14564611593520640231 : True := trivial
theorem PySem.W.Fast.tw3249722361938950650 : True := trivial
theorem PySem.W.Fast.tw917439031175498224 : True := trivial
theorem PySem.W.Fast.tw10869057040053703461 : True := trivial
theorem PySem.W.Fast.tw3756104136239686631 : True := trivial
theorem PySem.W.Fast.tw454545210953446492 : True := trivial
theorem PySem.W.Fast.tw8786313457305139252 : True := trivial
theorem PySem.W.Fast.tw6024034072870199644 : True := trivial
theorem PySem.W.Fast.tw6365220222076220361 : True := trivial
theorem PySem.W.Fast.tw1179848929664270040 : True := trivial
theorem PySem.W.Fast.tw11646052807017490152 : True := trivial
theorem PySem.W.Fast.tw14158706797107870608 : True := trivial
theorem PySem.W.Fast.tw17025685609305395854 : True := trivial
theorem PySem.W.Fast.tw3811079290566323302 : True := trivial
theorem PySem.W.Fast.tw4286152173096399447 : True := trivial
theorem PySem.W.Fast.tw16584157140965864802 : True := trivial
theorem PySem.W.Fast.tw2276021792567783111 : True := trivial
theorem PySem.W.Fast.tw12063819126192719632 : True := trivial
theorem PySem.W.Fast.tw3191234476343082057 : True := trivial
theorem PySem.W.Fast.tw587116967782315807 : True := trivial
theorem PySem.W.Fast.tw10760445890664786761 : True := trivial
theorem PySem.W.Fast.tw1579960706285690638 : True := trivial
theorem PySem.W.Fast.tw15445536842268364062 : True := trivial
theorem PySem.W.Fast.tw9135700898927800629 : True := trivial
theorem PySem.W.Fast.tw15096553982986203144 : True := trivial
theorem PySem.W.Fast.tw1622576429674583469 : True := trivial
theorem PySem.W.Fast.tw7289726253985155967 : True := trivial
theorem PySem.W.Fast.tw9798795373269571082 : True := trivial
theorem PySem.W.Fast.tw10354881094279196282 : True := trivial
theorem PySem.W.Fast.tw12046433613432704058 : True := trivial
theorem PySem.W.Fast.tw16875797268300237054 : True := trivial
theorem PySem.W.Fast.tw7264795851078819916 : True := trivial
theorem PySem.W.Fast.tw16330886530585637678 : True := trivial
theorem PySem.W.Fast.tw8492795926463911993 : True := trivial
theorem PySem.W.Fast.tw12174091878232234295 : True := trivial
theorem PySem.W.Fast.tw14991975492087527727 : True := trivial
theorem PySem.W.Fast.tw3594554889533652119 : True := trivial
theorem PySem.W.Fast.tw2511906103014796590 : True := trivial
theorem PySem.W.Fast.tw15135331554891897989 : True := trivial
theorem PySem.W.Fast.tw6268258021795207396 : True := trivial
theorem PySem.W.Fast.tw4998370603270118210 : True := trivial
theorem PySem.W.Fast.tw11304758939897068113 : True := trivial
theorem PySem.W.Fast.tw4206752853355336824 : True := trivial
theorem PySem.W.Fast.tw14260945624214693066 : True := trivial
theorem PySem.W.Fast.tw1956383299313531287 : True := trivial
theorem PySem.W.Fast.tw17552903545716252352 : True := trivial
theorem PySem.W.Fast.tw11686427884534465279 : True := trivial
theorem PySem.W.Fast.tw14224689550535782932 : True := trivial
theorem PySem.W.Fast.tw8062062131788750998 : True := trivial
theorem PySem.W.Fast.tw15245588953529336945 : True := trivial
theorem PySem.W.Fast.tw11346825259253124515 : True := trivial
theorem PySem.W.Fast.tw16399489461994862935 : True := trivial
theorem PySem.W.Fast.tw7834031259183020230 : True := trivial
theorem PySem.W.Fast.tw2737730247943605168 : True := trivial
theorem PySem.W.Fast.tw2313600578727645097 : True := trivial
theorem PySem.W.Fast.tw12860216133155496309 : True := trivial
theorem PySem.W.Fast.tw518785436442115113 : True := trivial
theorem PySem.W.Fast.tw4117359008714655786 : True := trivial
theorem PySem.W.Fast.tw16234680820395779640 : True := trivial
theorem PySem.W.Fast.tw7426300679869624503 : True := trivial
theorem PySem.W.Fast.tw15793817704551964809 : True := trivial
theorem PySem.W.Fast.tw1937496271093451977 : True := trivial
theorem PySem.W.Fast.tw10933282123796441487 : True := trivial
theorem PySem.W.Fast.tw10152481284944946026 : True := trivial
theorem PySem.W.Fast.tw6296467153271781411 : True := trivial
theorem PySem.W.Fast.tw11006077169842260460 : True := trivial
theorem PySem.W.Fast.tw10054720050649198597 : True := trivial
theorem PySem.W.Fast.tw7007613620168130396 : True := trivial
theorem PySem.W.Fast.tw2167414731911144520 : True := trivial
theorem PySem.W.Fast.tw5849261273264436227 : True := trivial
theorem PySem.W.Fast.tw10262351730716655946 : True := trivial
theorem PySem.W.Fast.tw12602376135594299818 : True := trivial
theorem PySem.W.Fast.tw13914460392030781015 : True := trivial
theorem PySem.W.Fast.tw6831700188389252766 : True := trivial
theorem PySem.W.Fast.tw10500102390616170834 : True := trivial
theorem PySem.W.Fast.tw2165992878100336318 : True := trivial
theorem PySem.W.Fast.tw4672332942779957126 : True := trivial
theorem PySem.W.Fast.tw11251825258614155267 : True := trivial
theorem PySem.W.Fast.tw4652480752844509238 : True := trivial
theorem PySem.W.Fast.tw5891834472991240782 : True := trivial
theorem PySem.W.Fast.tw15999039100659668048 : True := trivial
theorem PySem.W.Fast.tw2345875822516238564 : True := trivial
theorem PySem.W.Fast.tw3816656492989555408 : True := trivial
theorem PySem.W.Fast.tw6082163138147507537 : True := trivial
theorem PySem.W.Fast.tw1406911775082262709 : True := trivial
theorem PySem.W.Fast.tw11232213304244424316 : True := trivial
theorem PySem.W.Fast.tw10910893506518036755 : True := trivial
theorem PySem.W.Fast.tw12627909523453522555 : True := trivial
theorem PySem.W.Fast.tw3628989312479157146 : True := trivial
theorem PySem.W.Fast.tw3194922417148309116 : True := trivial
theorem PySem.W.Fast.tw5095361718285902258 : True := trivial
theorem PySem.W.Fast.tw13180495765187435020 : True := trivial
theorem PySem.W.Fast.tw4316281808925742349 : True := trivial
theorem PySem.W.Fast.tw1341494544478056208 : True := trivial
theorem PySem.W.Fast.tw12759673121400964040 : True := trivial
theorem PySem.W.Fast.tw17815261203204751155 : True := trivial
theorem PySem.W.Fast.tw18277331958878653782 : True := trivial
theorem PySem.W.Fast.tw5521276339363688639 : True := trivial
theorem PySem.W.Fast.tw18324512352266405911 : True := trivial
theorem PySem.W.Fast.tw988396174608245604 : True := trivial
theorem PySem.W.Fast.tw7527478406584692589 : True := trivial
theorem PySem.W.Fast.tw5964893552680778801 : True := trivial
theorem PySem.W.Fast.tw1807542873297133456 : True := trivial
theorem PySem.W.Fast.tw4400770724958075676 : True := trivial
theorem PySem.W.Fast.tw4757259710925479811 : True := trivial
theorem PySem.W.Fast.tw13517383444437118734 : True := trivial
theorem PySem.W.Fast.tw2190476644546804152 : True := trivial
theorem PySem.W.Fast.tw15804137985403458968 : True := trivial
theorem PySem.W.Fast.tw11870111356155498830 : True := trivial
theorem PySem.W.Fast.tw16179257057101769039 : True := trivial
theorem PySem.W.Fast.tw11999408430711178331 : True := trivial
theorem PySem.W.Fast.tw9607574618293402033 : True := trivial
theorem PySem.W.Fast.tw13109726661852982185 : True := trivial
theorem PySem.W.Fast.tw18240788690700863220 : True := trivial
theorem PySem.W.Fast.tw2254255151065716057 : True := trivial
theorem PySem.W.Fast.tw13226128355201290632 : True := trivial
theorem PySem.W.Fast.tw13390268654746592194 : True := trivial
theorem PySem.W.Fast.tw9803176040074639537 : True := trivial
theorem PySem.W.Fast.tw14889469457910072785 : True := trivial
theorem PySem.W.Fast.tw3280700483983448843 : True := trivial
theorem PySem.W.Fast.tw1983849218865185811 : True := trivial
theorem PySem.W.Fast.tw4233072684352828944 : True := trivial
theorem PySem.W.Fast.tw1773301217401809676 : True := trivial
theorem PySem.W.Fast.tw2565539582699718285 : True := trivial
theorem PySem.W.Fast.tw16715067956898015293 : True := trivial
theorem PySem.W.Fast.tw3567937209987463694 : True := trivial
theorem PySem.W.Fast.tw5351061331459428985 : True := trivial
theorem PySem.W.Fast.tw14974493968166701743 : True := trivial
theorem PySem.W.Fast.tw5502817845368807049 : True := trivial
theorem PySem.W.Fast.tw8274683054026005699 : True := trivial
theorem PySem.W.Fast.tw1402689938401069588 : True := trivial
theorem PySem.W.Fast.tw73045715827404510 : True := trivial
theorem PySem.W.Fast.tw14189394846377895158 : True := trivial
theorem PySem.W.Fast.tw13672001629596917954 : True := trivial
theorem PySem.W.Fast.tw14658725764989262047 : True := trivial
theorem PySem.W.Fast.tw11379403176719261762 : True := trivial
theorem PySem.W.Fast.tw10551069742022192457 : True := trivial
theorem PySem.W.Fast.tw1021353978270304511 : True := trivial
theorem PySem.W.Fast.tw4888100526212031809 : True := trivial
theorem PySem.W.Fast.tw5462110464754012234 : True := trivial
theorem PySem.W.Fast.tw336111349158922936 : True := trivial
theorem PySem.W.Fast.tw4512503887328277751 : True := trivial
theorem PySem.W.Fast.tw6494748204678163952 : True := trivial
theorem PySem.W.Fast.tw8862959350309844069 : True := trivial
theorem PySem.W.Fast.tw944021732133313132 : True := trivial
theorem PySem.W.Fast.tw6230566700805262009 : True := trivial
theorem PySem.W.Fast.tw14775426649863354556 : True := trivial
theorem PySem.W.Fast.tw7721978995875713745 : True := trivial
theorem PySem.W.Fast.tw14191176407056269609 : True := trivial
theorem PySem.W.Fast.tw14788312299130260228 : True := trivial
theorem PySem.W.Fast.tw7117230654054773401 : True := trivial
theorem PySem.W.Fast.tw10786806356587075326 : True := trivial
theorem PySem.W.Fast.tw6689956842826412900 : True := trivial
theorem PySem.W.Fast.tw11550549919142890584 : True := trivial
theorem PySem.W.Fast.tw6241973459954915476 : True := trivial
theorem PySem.W.Fast.tw7098878963694501683 : True := trivial
theorem PySem.W.Fast.tw10336389551750347831 : True := trivial
theorem PySem.W.Fast.tw16423735626100568494 : True := trivial
theorem PySem.W.Fast.tw3581943871190299711 : True := trivial
theorem PySem.W.Fast.tw7683027626019921602 : True := trivial
theorem PySem.W.Fast.tw11518161207792954768 : True := trivial
theorem PySem.W.Fast.tw10850449625692460241 : True := trivial
theorem PySem.W.Fast.tw7026389764352469928 : True := trivial
theorem PySem.W.Fast.tw4177394514400068046 : True := trivial
theorem PySem.W.Fast.tw16999724634576611537 : True := trivial
theorem PySem.W.Fast.tw8250454842605606319 : True := trivial
theorem PySem.W.Fast.tw4520220647371986968 : True := trivial
theorem PySem.W.Fast.tw10805625232885918945 : True := trivial
theorem PySem.W.Fast.tw17195928518612013561 : True := trivial
theorem PySem.W.Fast.tw2147344970024865286 : True := trivial
theorem PySem.W.Fast.tw1377787607476545335 : True := trivial
theorem PySem.W.Fast.tw9546838683837275649 : True := trivial
theorem PySem.W.Fast.tw2857477182763766995 : True := trivial
theorem PySem.W.Fast.tw12858524403358802372 : True := trivial
theorem PySem.W.Fast.tw13021007948322445936 : True := trivial
theorem PySem.W.Fast.tw1162995496737043343 : True := trivial
theorem PySem.W.Fast.tw8854350124829821901 : True := trivial
theorem PySem.W.Fast.tw15615760774172956000 : True := trivial
theorem PySem.W.Fast.tw15221631868727737790 : True := trivial
theorem PySem.W.Fast.tw6716585236439088091 : True := trivial
theorem PySem.W.Fast.tw16718891273373583258 : True := trivial
theorem PySem.W.Fast.tw7628915054276651864 : True := trivial
theorem PySem.W.Fast.tw17541704531083447144 : True := trivial
theorem PySem.W.Fast.tw15101889736838956958 : True := trivial
theorem PySem.W.Fast.tw15401361426375663552 : True := trivial
theorem PySem.W.Fast.tw3155001914078898096 : True := trivial
theorem PySem.W.Fast.tw446149634308066152 : True := trivial
theorem PySem.W.Fast.tw3481702795077237376 : True := trivial
theorem PySem.W.Fast.tw12127830501496610300 : True := trivial
theorem PySem.W.Fast.tw8331699560154277640 : True := trivial
theorem PySem.W.Fast.tw17718415977011889533 : True := trivial
theorem PySem.W.Fast.tw16744528878012801266 : True := trivial
theorem PySem.W.Fast.tw15963094997295277207 : True := trivial
theorem PySem.W.Fast.tw621331037074004246 : True := trivial
theorem PySem.W.Fast.tw17705182555587134737 : True := trivial
theorem PySem.W.Fast.tw1668723117795334299 : True := trivial
theorem PySem.W.Fast.tw15654628393194751470 : True := trivial
theorem PySem.W.Fast.tw13223530960461693506 : True := trivial
theorem PySem.W.Fast.tw2280145915205061219 : True := trivial
theorem PySem.W.Fast.tw10503656902123757749 : True := trivial
theorem PySem.W.Fast.tw6279068732752053389 : True := trivial
theorem PySem.W.Fast.tw12863650296080448290 : True := trivial
theorem PySem.W.Fast.tw12288462496186327274 : True := trivial
theorem PySem.W.Fast.tw14354632150228979402 : True := trivial
theorem PySem.W.Fast.tw15253121722092185518 : True := trivial
theorem PySem.W.Fast.tw15494593959672446110 : True := trivial
theorem PySem.W.Fast.tw8596338659969625457 : True := trivial
theorem PySem.W.Fast.tw13816104875800231946 : True := trivial
theorem PySem.W.Fast.tw11022860948632045400 : True := trivial
theorem PySem.W.Fast.tw3572908869835596316 : True := trivial
theorem PySem.W.Fast.tw18046594305216112820 : True := trivial
theorem PySem.W.Fast.tw2961718951198564876 : True := trivial
theorem PySem.W.Fast.tw13267490925338174810 : True := trivial
theorem PySem.W.Fast.tw16770276489242532619 : True := trivial
theorem PySem.W.Fast.tw3534236568498451420 : True := trivial
theorem PySem.W.Fast.tw14338761255787021115 : True := trivial
theorem PySem.W.Fast.tw498855946846901818 : True := trivial
theorem PySem.W.Fast.tw2674052720679580032 : True := trivial
theorem PySem.W.Fast.tw8558492978610376227 : True := trivial
theorem PySem.W.Fast.tw7867445285101979792 : True := trivial
theorem PySem.W.Fast.tw9813247273308833137 : True := trivial
theorem PySem.W.Fast.tw2628318540356150251 : True := trivial
theorem PySem.W.Fast.tw5498177167747420239 : True := trivial
theorem PySem.W.Fast.tw8077802370419908275 : True := trivial
theorem PySem.W.Fast.tw3314669208504324268 : True := trivial
theorem PySem.W.Fast.tw18178386570594941645 : True := trivial
theorem PySem.W.Fast.tw10829126009181345952 : True := trivial
theorem PySem.W.Fast.tw8670536595431116562 : True := trivial
theorem PySem.W.Fast.tw4263172003076044905 : True := trivial
theorem PySem.W.Fast.tw3518469494253333173 : True := trivial
theorem PySem.W.Fast.tw5579079163976048567 : True := trivial
theorem PySem.W.Fast.tw14954266559204552475 : True := trivial
theorem PySem.W.Fast.tw16550834066501062443 : True := trivial
theorem PySem.W.Fast.tw13399477394346530971 : True := trivial
theorem PySem.W.Fast.tw17138066568625931762 : True := trivial
theorem PySem.W.Fast.tw8689835330414752757 : True := trivial
theorem PySem.W.Fast.tw378387518443569090 : True := trivial
theorem PySem.W.Fast.tw14328801581909549352 : True := trivial
theorem PySem.W.Fast.tw9726634331844647975 : True := trivial
theorem PySem.W.Fast.tw17741901135419448340 : True := trivial
theorem PySem.W.Fast.tw7644492888760703027 : True := trivial
theorem PySem.W.Fast.tw9583577749973278275 : True := trivial
theorem PySem.W.Fast.tw8906189506585242228 : True := trivial
theorem PySem.W.Fast.tw4482118300535312997 : True := trivial
theorem PySem.W.Fast.tw13353751963865180553 : True := trivial
theorem PySem.W.Fast.tw10280199352627128152 : True := trivial
theorem PySem.W.Fast.tw14234978789428320758 : True := trivial
theorem PySem.W.Fast.tw4242746798502115791 : True := trivial
theorem PySem.W.Fast.tw6404664468180295756 : True := trivial
theorem PySem.W.Fast.tw10977648199285287330 : True := trivial
theorem PySem.W.Fast.tw4937347153474288284 : True := trivial
theorem PySem.W.Fast.tw12836587713395744529 : True := trivial
theorem PySem.W.Fast.tw5497666531275443462 : True := trivial
theorem PySem.W.Fast.tw7053926777984303961 : True := trivial
theorem PySem.W.Fast.tw1733832878194469040 : True := trivial
theorem PySem.W.Fast.tw3053299301707647156 : True := trivial
theorem PySem.W.Fast.tw2219457947600410667 : True := trivial
theorem PySem.W.Fast.tw15680950121496865748 : True := trivial
theorem PySem.W.Fast.tw17020484062143861437 : True := trivial
theorem PySem.W.Fast.tw12133580840866278834 : True := trivial
theorem PySem.W.Fast.tw129583887522966788 : True := trivial
theorem PySem.W.Fast.tw18063043557852448866 : True := trivial
theorem PySem.W.Fast.tw12495075960501606069 : True := trivial
theorem PySem.W.Fast.tw18265183165152030806 : True := trivial
theorem PySem.W.Fast.tw5725423672120231686 : True := trivial
theorem PySem.W.Fast.tw652303684653579452 : True := trivial
theorem PySem.W.Fast.tw12683255956569821381 : True := trivial
theorem PySem.W.Fast.tw4932903339070020129 : True := trivial
theorem PySem.W.Fast.tw1267846139689078572 : True := trivial
theorem PySem.W.Fast.tw3597274602725795675 : True := trivial
theorem PySem.W.Fast.tw2204068349952210848 : True := trivial
theorem PySem.W.Fast.tw12208099793226197583 : True := trivial
theorem PySem.W.Fast.tw7461403017986124523 : True := trivial
theorem PySem.W.Fast.tw6210455310768824410 : True := trivial
theorem PySem.W.Fast.tw14659080871442249822 : True := trivial
theorem PySem.W.Fast.tw14726827880562112306 : True := trivial
theorem PySem.W.Fast.tw16470613486794566795 : True := trivial
theorem PySem.W.Fast.tw14609697641819535208 : True := trivial
theorem PySem.W.Fast.tw8245001119383661298 : True := trivial
theorem PySem.W.Fast.tw12248485829454851167 : True := trivial
theorem PySem.W.Fast.tw7363910142356438359 : True := trivial
theorem PySem.W.Fast.tw14706623482663943216 : True := trivial
theorem PySem.W.Fast.tw13005930581272047918 : True := trivial
theorem PySem.W.Fast.tw2323616478215611570 : True := trivial
theorem PySem.W.Fast.tw12357864902900629367 : True := trivial
theorem PySem.W.Fast.tw17539861720035441169 : True := trivial
theorem PySem.W.Fast.tw9498882351886329089 : True := trivial
theorem PySem.W.Fast.tw1446438767923337007 : True := trivial
theorem PySem.W.Fast.tw6942895015127650942 : True := trivial
theorem PySem.W.Fast.tw17033776848666793118 : True := trivial
theorem PySem.W.Fast.tw4733566267320323333 : True := trivial
theorem PySem.W.Fast.tw277510621924091723 : True := trivial
theorem PySem.W.Fast.tw9591425344872697106 : True := trivial
theorem PySem.W.Fast.tw8282713549010949794 : True := trivial
theorem PySem.W.Fast.tw461852736565140488 : True := trivial
theorem PySem.W.Fast.tw16695074636288505800 : True := trivial
theorem PySem.W.Fast.tw15364940663961633409 : True := trivial
theorem PySem.W.Fast.tw8211502304121070864 : True := trivial
theorem PySem.W.Fast.tw9372558392341314161 : True := trivial
theorem PySem.W.Fast.tw922985029817655028 : True := trivial
theorem PySem.W.Fast.tw4053329401953062901 : True := trivial
theorem PySem.W.Fast.tw4136523689560246508 : True := trivial
theorem PySem.W.Fast.tw17690699402546210378 : True := trivial
theorem PySem.W.Fast.tw1804299246355267413 : True := trivial
theorem PySem.W.Fast.tw14543443161016048876 : True := trivial
theorem PySem.W.Fast.tw1684224519230608228 : True := trivial
theorem PySem.W.Fast.tw15483624786024106019 : True := trivial
theorem PySem.W.Fast.tw18156564842103797295 : True := trivial
theorem PySem.W.Fast.tw13327941248311932575 : True := trivial
theorem PySem.W.Fast.tw12104665839799141367 : True := trivial
theorem PySem.W.Fast.tw17194316775495692450 : True := trivial
theorem PySem.W.Fast.tw1074318549823923225 : True := trivial
theorem PySem.W.Fast.tw3011693365801597791 : True := trivial
theorem PySem.W.Fast.tw8486375213648550723 : True := trivial
theorem PySem.W.Fast.tw16736882427883893611 : True := trivial
theorem PySem.W.Fast.tw3707814212332923722 : True := trivial
theorem PySem.W.Fast.tw9712140313786893529 : True := trivial
theorem PySem.W.Fast.tw14753245048548394664 : True := trivial
theorem PySem.W.Fast.tw6550867279845699925 : True := trivial
theorem PySem.W.Fast.tw11083560461949599618 : True := trivial
theorem PySem.W.Fast.tw12490783984271257494 : True := trivial
theorem PySem.W.Fast.tw12657403258008293429 : True := trivial
theorem PySem.W.Fast.tw10477796851491953479 : True := trivial
theorem PySem.W.Fast.tw16419387871775742674 : True := trivial
theorem PySem.W.Fast.tw3384567989369151260 : True := trivial
theorem PySem.W.Fast.tw839629769371721849 : True := trivial
theorem PySem.W.Fast.tw16199397300812989841 : True := trivial
theorem PySem.W.Fast.tw14881922364114560663 : True := trivial
theorem PySem.W.Fast.tw13615330525669775661 : True := trivial
theorem PySem.W.Fast.tw18195772115866425976 : True := trivial
theorem PySem.W.Fast.tw6975264257495693039 : True := trivial
theorem PySem.W.Fast.tw2705721140194481179 : True := trivial
theorem PySem.W.Fast.tw6742217565775147524 : True := trivial
theorem PySem.W.Fast.tw14169326319625036270 : True := trivial
theorem PySem.W.Fast.tw12122767826382543811 : True := trivial
theorem PySem.W.Fast.tw15884104420034116498 : True := trivial
theorem PySem.W.Fast.tw15260081276482647297 : True := trivial
theorem PySem.W.Fast.tw11643838499366578007 : True := trivial
theorem PySem.W.Fast.tw14120118618441669874 : True := trivial
theorem PySem.W.Fast.tw7403592073921042006 : True := trivial
theorem PySem.W.Fast.tw14432812816476982094 : True := trivial
theorem PySem.W.Fast.tw9068415456259998740 : True := trivial
theorem PySem.W.Fast.tw9144033286024428855 : True := trivial
theorem PySem.W.Fast.tw8565437565727801688 : True := trivial
theorem PySem.W.Fast.tw2566259409817677209 : True := trivial
theorem PySem.W.Fast.tw4415030862184605130 : True := trivial
theorem PySem.W.Fast.tw6593824856217862541 : True := trivial
theorem PySem.W.Fast.tw14009114597502695249 : True := trivial
theorem PySem.W.Fast.tw17077663714782565162 : True := trivial
theorem PySem.W.Fast.tw634610232780376403 : True := trivial
theorem PySem.W.Fast.tw5221940580293359222 : True := trivial
theorem PySem.W.Fast.tw13786152349906789779 : True := trivial
theorem PySem.W.Fast.tw13285574955040703694 : True := trivial
theorem PySem.W.Fast.tw5078857110418638382 : True := trivial
theorem PySem.W.Fast.tw2868737257055184970 : True := trivial
theorem PySem.W.Fast.tw2407019841839896845 : True := trivial
theorem PySem.W.Fast.tw11268171578279185656 : True := trivial
theorem PySem.W.Fast.tw3388093167372809035 : True := trivial
theorem PySem.W.Fast.tw8541464975124556495 : True := trivial
theorem PySem.W.Fast.tw4272065570765848507 : True := trivial
theorem PySem.W.Fast.tw18146698640719771051 : True := trivial
theorem PySem.W.Fast.tw3440090612509362166 : True := trivial
theorem PySem.W.Fast.tw6898246719333336464 : True := trivial
theorem PySem.W.Fast.tw4870567303422717528 : True := trivial
theorem PySem.W.Fast.tw921881760603129839 : True := trivial
theorem PySem.W.Fast.tw14187976820436078096 : True := trivial
theorem PySem.W.Fast.tw1350276165729994164 : True := trivial
theorem PySem.W.Fast.tw9520319517193464434 : True := trivial
theorem PySem.W.Fast.tw7281862858403544114 : True := trivial
theorem PySem.W.Fast.tw7632811810139884146 : True := trivial
theorem PySem.W.Fast.tw11611258996602675145 : True := trivial
theorem PySem.W.Fast.tw7876400693966570590 : True := trivial
theorem PySem.W.Fast.tw16157169197788286148 : True := trivial
theorem PySem.W.Fast.tw17965539001027239587 : True := trivial
theorem PySem.W.Fast.tw1739676113787597098 : True := trivial
theorem PySem.W.Fast.tw517586061065607572 : True := trivial
theorem PySem.W.Fast.tw5600092656672053505 : True := trivial
theorem PySem.W.Fast.tw18094155428139739748 : True := trivial
theorem PySem.W.Fast.tw1608096892202867180 : True := trivial
theorem PySem.W.Fast.tw1589381256499037672 : True := trivial
theorem PySem.W.Fast.tw12608555085408181359 : True := trivial
theorem PySem.W.Fast.tw8315208604944839084 : True := trivial
theorem PySem.W.Fast.tw9615551458692498826 : True := trivial
theorem PySem.W.Fast.tw17539618763409977540 : True := trivial
theorem PySem.W.Fast.tw8606945681181658248 : True := trivial
theorem PySem.W.Fast.tw16340955422121472623 : True := trivial
theorem PySem.W.Fast.tw1387225806068716671 : True := trivial
theorem PySem.W.Fast.tw10722008507165280514 : True := trivial
theorem PySem.W.Fast.tw10525852952395869134 : True := trivial
theorem PySem.W.Fast.tw9011162374897848813 : True := trivial
theorem PySem.W.Fast.tw11952531675409502504 : True := trivial
theorem PySem.W.Fast.tw3508676851364424852 : True := trivial
theorem PySem.W.Fast.tw3188835173165443424 : True := trivial
theorem PySem.W.Fast.tw17528046160550169007 : True := trivial
theorem PySem.W.Fast.tw17138376831680005005 : True := trivial
theorem PySem.W.Fast.tw13122479265027132559 : True := trivial
theorem PySem.W.Fast.tw7565150563938195623 : True := trivial
theorem PySem.W.Fast.tw10183901164188321984 : True := trivial
theorem PySem.W.Fast.tw12142578762398315287 : True := trivial
theorem PySem.W.Fast.tw8857924608013361832 : True := trivial
theorem PySem.W.Fast.tw15262505592483084475 : True := trivial
theorem PySem.W.Fast.tw15518765117190137801 : True := trivial
theorem PySem.W.Fast.tw12362108971011829899 : True := trivial
theorem PySem.W.Fast.tw6033504588060186730 : True := trivial
theorem PySem.W.Fast.tw12668877082258721605 : True := trivial
theorem PySem.W.Fast.tw2710295299086537924 : True := trivial
theorem PySem.W.Fast.tw10501550789903417222 : True := trivial
theorem PySem.W.Fast.tw14337198996555501042 : True := trivial
theorem PySem.W.Fast.tw14466489279546864310 : True := trivial
theorem PySem.W.Fast.tw11587461527911319204 : True := trivial
theorem PySem.W.Fast.tw11665184296026726170 : True := trivial
theorem PySem.W.Fast.tw16172223807440484516 : True := trivial
theorem PySem.W.Fast.tw10511439876867207976 : True := trivial
theorem PySem.W.Fast.tw5632701750934523269 : True := trivial
theorem PySem.W.Fast.tw12278896200795937944 : True := trivial
theorem PySem.W.Fast.tw15346753753675542313 : True := trivial
theorem PySem.W.Fast.tw7218835243895800099 : True := trivial
theorem PySem.W.Fast.tw8040172474508572586 : True := trivial
theorem PySem.W.Fast.tw8037691703281408368 : True := trivial
theorem PySem.W.Fast.tw12578879730726116757 : True := trivial
theorem PySem.W.Fast.tw11624100495871301488 : True := trivial
theorem PySem.W.Fast.tw10139215460691824657 : True := trivial
theorem PySem.W.Fast.tw6703288958336296413 : True := trivial
theorem PySem.W.Fast.tw17973095274142201815 : True := trivial
theorem PySem.W.Fast.tw8467678705909715813 : True := trivial
theorem PySem.W.Fast.tw5139905031282151026 : True := trivial
theorem PySem.W.Fast.tw12702589013581941336 : True := trivial
theorem PySem.W.Fast.tw10302777085770201256 : True := trivial
theorem PySem.W.Fast.tw18001474158082048330 : True := trivial
theorem PySem.W.Fast.tw17756227254002177210 : True := trivial
theorem PySem.W.Fast.tw14007002105071650218 : True := trivial
theorem PySem.W.Fast.tw8586604564331325018 : True := trivial
theorem PySem.W.Fast.tw1057682684356519511 : True := trivial
theorem PySem.W.Fast.tw6156843283458552625 : True := trivial
theorem PySem.W.Fast.tw2379843916274860341 : True := trivial
theorem PySem.W.Fast.tw8962617688323266710 : True := trivial
theorem PySem.W.Fast.tw15143854364586849939 : True := trivial
theorem PySem.W.Fast.tw1987783034101591525 : True := trivial
theorem PySem.W.Fast.tw15032916871912961330 : True := trivial
theorem PySem.W.Fast.tw364518748076123884 : True := trivial
theorem PySem.W.Fast.tw14412289373775814230 : True := trivial
theorem PySem.W.Fast.tw13604746324361795546 : True := trivial
theorem PySem.W.Fast.tw4935809376259768608 : True := trivial
theorem PySem.W.Fast.tw16237370120687946135 : True := trivial
theorem PySem.W.Fast.tw15684060805209095662 : True := trivial
theorem PySem.W.Fast.tw17730783019769333601 : True := trivial
theorem PySem.W.Fast.tw1917251785402568253 : True := trivial
theorem PySem.W.Fast.tw17156903825336688606 : True := trivial
theorem PySem.W.Fast.tw4222555043790514894 : True := trivial
theorem PySem.W.Fast.tw10507342712883707185 : True := trivial
theorem PySem.W.Fast.tw11422771523021954167 : True := trivial
theorem PySem.W.Fast.tw12235364107592551367 : True := trivial
theorem PySem.W.Fast.tw12486231575569734899 : True := trivial
theorem PySem.W.Fast.tw10765591432779487811 : True := trivial
theorem PySem.W.Fast.tw1660716027097630070 : True := trivial
theorem PySem.W.Fast.tw4039642189549629459 : True := trivial
theorem PySem.W.Fast.tw10001548597450047286 : True := trivial
theorem PySem.W.Fast.tw8818768054845329458 : True := trivial
theorem PySem.W.Fast.tw11013288220612295313 : True := trivial
theorem PySem.W.Fast.tw17196100769335781984 : True := trivial
theorem PySem.W.Fast.tw2599753944353871192 : True := trivial
theorem PySem.W.Fast.tw7725956503596865689 : True := trivial
theorem PySem.W.Fast.tw6717232072071767312 : True := trivial
theorem PySem.W.Fast.tw14295873803412789223 : True := trivial
theorem PySem.W.Fast.tw17145875553351262854 : True := trivial
theorem PySem.W.Fast.tw11940056060028552538 : True := trivial
theorem PySem.W.Fast.tw12280918779285895668 : True := trivial
theorem PySem.W.Fast.tw5725858290894767196 : True := trivial
theorem PySem.W.Fast.tw11205492085528323575 : True := trivial
theorem PySem.W.Fast.tw18427918693492811987 : True := trivial
theorem PySem.W.Fast.tw10879655109703575721 : True := trivial
theorem PySem.W.Fast.tw11071418221638754792 : True := trivial
theorem PySem.W.Fast.tw16082175159245801268 : True := trivial
theorem PySem.W.Fast.tw15849712865382703842 : True := trivial
theorem PySem.W.Fast.tw2890290364334480832 : True := trivial
theorem PySem.W.Fast.tw13313144710418877327 : True := trivial
theorem PySem.W.Fast.tw7713549354724433819 : True := trivial
theorem PySem.W.Fast.tw1006888296571509008 : True := trivial
theorem PySem.W.Fast.tw583724147151790742 : True := trivial
theorem PySem.W.Fast.tw17204313211260007717 : True := trivial
theorem PySem.W.Fast.tw8111740790102915439 : True := trivial
theorem PySem.W.Fast.tw7366232587199703556 : True := trivial
theorem PySem.W.Fast.tw11413380216209798241 : True := trivial
theorem PySem.W.Fast.tw14759155487793039277 : True := trivial
theorem PySem.W.Fast.tw10704539810332775676 : True := trivial
theorem PySem.W.Fast.tw3916427458266324480 : True := trivial
theorem PySem.W.Fast.tw9214810349026819444 : True := trivial
theorem PySem.W.Fast.tw17341184955827366625 : True := trivial
theorem PySem.W.Fast.tw16051145436848907390 : True := trivial
theorem PySem.W.Fast.tw1773591092581332856 : True := trivial
theorem PySem.W.Fast.tw10431469242611932951 : True := trivial
theorem PySem.W.Fast.tw10954277865117572749 : True := trivial
theorem PySem.W.Fast.tw743431718792629112 : True := trivial
theorem PySem.W.Fast.tw16555155184539518323 : True := trivial
theorem PySem.W.Fast.tw17776468127944586506 : True := trivial
theorem PySem.W.Fast.tw4400666137298149762 : True := trivial
theorem PySem.W.Fast.tw1261970947076416286 : True := trivial
theorem PySem.W.Fast.tw16409336298063768821 : True := trivial
theorem PySem.W.Fast.tw17139716417434654807 : True := trivial
theorem PySem.W.Fast.tw8907549066813953170 : True := trivial
theorem PySem.W.Fast.tw973278452262297078 : True := trivial
theorem PySem.W.Fast.tw9952297116828829956 : True := trivial
theorem PySem.W.Fast.tw8772123591422885280 : True := trivial
theorem PySem.W.Fast.tw14993262723313327816 : True := trivial
theorem PySem.W.Fast.tw2072999324705035986 : True := trivial
theorem PySem.W.Fast.tw15233367613123508666 : True := trivial
theorem PySem.W.Fast.tw3816379570307028406 : True := trivial
theorem PySem.W.Fast.tw13433608144829248508 : True := trivial
theorem PySem.W.Fast.tw7802111037173283900 : True := trivial
theorem PySem.W.Fast.tw16870861535026926047 : True := trivial
theorem PySem.W.Fast.tw18140942594615021569 : True := trivial
theorem PySem.W.Fast.tw6426014850054828251 : True := trivial
theorem PySem.W.Fast.tw864400175874802714 : True := trivial
theorem PySem.W.Fast.tw6077740643161046015 : True := trivial
theorem PySem.W.Fast.tw3455348879758685104 : True := trivial
theorem PySem.W.Fast.tw11622150703673571514 : True := trivial
theorem PySem.W.Fast.tw4665586232993936624 : True := trivial
theorem PySem.W.Fast.tw11928523896922151838 : True := trivial
theorem PySem.W.Fast.tw1851049837230001694 : True := trivial
theorem PySem.W.Fast.tw9200295441044841374 : True := trivial
theorem PySem.W.Fast.tw12108014683508258827 : True := trivial
theorem PySem.W.Fast.tw16710551275634334810 : True := trivial
theorem PySem.W.Fast.tw16651233118553281583 : True := trivial
theorem PySem.W.Fast.tw15960625980459831453 : True := trivial
theorem PySem.W.Fast.tw16494862537398474223 : True := trivial
theorem PySem.W.Fast.tw2541518366851002613 : True := trivial
theorem PySem.W.Fast.tw18411377722200446725 : True := trivial
theorem PySem.W.Fast.tw4320490535107602993 : True := trivial
theorem PySem.W.Fast.tw16526212896150887628 : True := trivial
theorem PySem.W.Fast.tw2978861171951263073 : True := trivial
theorem PySem.W.Fast.tw266814280116839012 : True := trivial
theorem PySem.W.Fast.tw17502930390877356901 : True := trivial
theorem PySem.W.Fast.tw16991601540004926089 : True := trivial
theorem PySem.W.Fast.tw3996814892611223328 : True := trivial
theorem PySem.W.Fast.tw13791391254930509862 : True := trivial
theorem PySem.W.Fast.tw13945050144765446653 : True := trivial
theorem PySem.W.Fast.tw9877729410585893313 : True := trivial
theorem PySem.W.Fast.tw4278339278702929543 : True := trivial
theorem PySem.W.Fast.tw362710896413773374 : True := trivial
theorem PySem.W.Fast.tw13746561507646806839 : True := trivial
theorem PySem.W.Fast.tw9590486935708898614 : True := trivial
theorem PySem.W.Fast.tw10652963080085422811 : True := trivial
theorem PySem.W.Fast.tw888764602687510859 : True := trivial
theorem PySem.W.Fast.tw7830144599265697689 : True := trivial
theorem PySem.W.Fast.tw12948896827301837089 : True := trivial
theorem PySem.W.Fast.tw3897689590294543636 : True := trivial
theorem PySem.W.Fast.tw3129791469892322115 : True := trivial
theorem PySem.W.Fast.tw10278345712870386222 : True := trivial
theorem PySem.W.Fast.tw3273651718933863490 : True := trivial
theorem PySem.W.Fast.tw15771727372474608314 : True := trivial
theorem PySem.W.Fast.tw1699677992348292993 : True := trivial
theorem PySem.W.Fast.tw6765784590313665536 : True := trivial
theorem PySem.W.Fast.tw811640877752957683 : True := trivial
theorem PySem.W.Fast.tw11333498449587389532 : True := trivial
theorem PySem.W.Fast.tw5168316778890785217 : True := trivial
theorem PySem.W.Fast.tw15711547379975586306 : True := trivial
theorem PySem.W.Fast.tw15875290565778173935 : True := trivial
theorem PySem.W.Fast.tw15417090486148543124 : True := trivial
theorem PySem.W.Fast.tw8710096951773761811 : True := trivial
theorem PySem.W.Fast.tw14626407067314736100 : True := trivial
theorem PySem.W.Fast.tw15908500542229992565 : True := trivial
theorem PySem.W.Fast.tw17085356354273572840 : True := trivial
theorem PySem.W.Fast.tw11335896244711265696 : True := trivial
theorem PySem.W.Fast.tw17979828918089068594 : True := trivial
theorem PySem.W.Fast.tw12716416586081456442 : True := trivial
theorem PySem.W.Fast.tw16688114795036399358 : True := trivial
theorem PySem.W.Fast.tw13597870032194362070 : True := trivial
theorem PySem.W.Fast.tw11014965853886030797 : True := trivial
theorem PySem.W.Fast.tw11854168295653882670 : True := trivial
theorem PySem.W.Fast.tw6843363566551674759 : True := trivial
theorem PySem.W.Fast.tw7576582376768926518 : True := trivial
theorem PySem.W.Fast.tw16961302872927560189 : True := trivial
theorem PySem.W.Fast.tw10292767174246398147 : True := trivial
theorem PySem.W.Fast.tw8137283522156049734 : True := trivial
theorem PySem.W.Fast.tw12070879674436807555 : True := trivial
theorem PySem.W.Fast.tw10219169253378529920 : True := trivial
theorem PySem.W.Fast.tw16848634788156223693 : True := trivial
theorem PySem.W.Fast.tw17025640832031525876 : True := trivial
theorem PySem.W.Fast.tw13141763021256349276 : True := trivial
theorem PySem.W.Fast.tw15669392713637230305 : True := trivial
theorem PySem.W.Fast.tw1000922244903931993 : True := trivial
theorem PySem.W.Fast.tw15819784785092199546 : True := trivial
theorem PySem.W.Fast.tw4075034453189791130 : True := trivial
theorem PySem.W.Fast.tw2948148657741229905 : True := trivial
theorem PySem.W.Fast.tw6879810705212467240 : True := trivial
theorem PySem.W.Fast.tw634389876512762510 : True := trivial
theorem PySem.W.Fast.tw18299767734653535306 : True := trivial
theorem PySem.W.Fast.tw1684703575826671632 : True := trivial
theorem PySem.W.Fast.tw13288147774590175920 : True := trivial
theorem PySem.W.Fast.tw10166237733650369912 : True := trivial
theorem PySem.W.Fast.tw10946216932722757916 : True := trivial
theorem PySem.W.Fast.tw2382911592241665469 : True := trivial
theorem PySem.W.Fast.tw551696313887375066 : True := trivial
theorem PySem.W.Fast.tw4480841310133246322 : True := trivial
theorem PySem.W.Fast.tw12040720577450012083 : True := trivial
theorem PySem.W.Fast.tw9107775908829713408 : True := trivial
theorem PySem.W.Fast.tw81561724812927923 : True := trivial
theorem PySem.W.Fast.tw4154373011842797809 : True := trivial
theorem PySem.W.Fast.tw9012615794365909536 : True := trivial
theorem PySem.W.Fast.tw8405985700590811633 : True := trivial
theorem PySem.W.Fast.tw988018710590559455 : True := trivial
theorem PySem.W.Fast.tw16475510653035497067 : True := trivial
theorem PySem.W.Fast.tw17499703163454469100 : True := trivial
theorem PySem.W.Fast.tw627374246314633164 : True := trivial
theorem PySem.W.Fast.tw1401185901039272474 : True := trivial
theorem PySem.W.Fast.tw15447716319729835846 : True := trivial
theorem PySem.W.Fast.tw6332725203032652619 : True := trivial
theorem PySem.W.Fast.tw8375325703661773675 : True := trivial
theorem PySem.W.Fast.tw3376380194043490581 : True := trivial
theorem PySem.W.Fast.tw9654448178124734587 : True := trivial
theorem PySem.W.Fast.tw11617070454671467083 : True := trivial
theorem PySem.W.Fast.tw16740293557600554732 : True := trivial
theorem PySem.W.Fast.tw2615304538450588458 : True := trivial
theorem PySem.W.Fast.tw17037496296719174851 : True := trivial
theorem PySem.W.Fast.tw16353628314531362509 : True := trivial
theorem PySem.W.Fast.tw6203189760583254097 : True := trivial
theorem PySem.W.Fast.tw10257635853599454406 : True := trivial
theorem PySem.W.Fast.tw14599395383708346239 : True := trivial
theorem PySem.W.Fast.tw15282834286275330733 : True := trivial
theorem PySem.W.Fast.tw4331642511342430935 : True := trivial
theorem PySem.W.Fast.tw295270195821259884 : True := trivial
theorem PySem.W.Fast.tw16981659699159416491 : True := trivial
theorem PySem.W.Fast.tw121603845573157854 : True := trivial
theorem PySem.W.Fast.tw15005983533130028159 : True := trivial
theorem PySem.W.Fast.tw18032785349635731809 : True := trivial
theorem PySem.W.Fast.tw4113872323197016681 : True := trivial
theorem PySem.W.Fast.tw8951263533957096886 : True := trivial
theorem PySem.W.Fast.tw14561647158486579186 : True := trivial
theorem PySem.W.Fast.tw4353750171678797070 : True := trivial
theorem PySem.W.Fast.tw991246137220334701 : True := trivial
theorem PySem.W.Fast.tw10161515476579289591 : True := trivial
theorem PySem.W.Fast.tw17238005615970452023 : True := trivial
theorem PySem.W.Fast.tw12225477749760120011 : True := trivial
theorem PySem.W.Fast.tw6933788013651033518 : True := trivial
theorem PySem.W.Fast.tw3970806155179806080 : True := trivial
theorem PySem.W.Fast.tw14366221037543021874 : True := trivial
theorem PySem.W.Fast.tw12349167054863487131 : True := trivial
theorem PySem.W.Fast.tw12815584531927940416 : True := trivial
theorem PySem.W.Fast.tw13982504048939556433 : True := trivial
theorem PySem.W.Fast.tw11110820131689905664 : True := trivial
theorem PySem.W.Fast.tw7991895661890810575 : True := trivial
theorem PySem.W.Fast.tw12689130250046118978 : True := trivial
theorem PySem.W.Fast.tw9817656613399317751 : True := trivial
theorem PySem.W.Fast.tw13175364856327219054 : True := trivial
theorem PySem.W.Fast.tw14141547267186986335 : True := trivial
theorem PySem.W.Fast.tw15507425705229747351 : True := trivial
theorem PySem.W.Fast.tw8799390275464570479 : True := trivial
theorem PySem.W.Fast.tw11275034878573477993 : True := trivial
theorem PySem.W.Fast.tw15518155884057151944 : True := trivial
theorem PySem.W.Fast.tw15291628953101107470 : True := trivial
theorem PySem.W.Fast.tw1453688933247849233 : True := trivial
theorem PySem.W.Fast.tw12739592299384099089 : True := trivial
theorem PySem.W.Fast.tw13166303738866201521 : True := trivial
theorem PySem.W.Fast.tw7887936360431328407 : True := trivial
theorem PySem.W.Fast.tw16882299255089145787 : True := trivial
theorem PySem.W.Fast.tw4111338950782536451 : True := trivial
theorem PySem.W.Fast.tw3250623938973186632 : True := trivial
theorem PySem.W.Fast.tw3475992024513683810 : True := trivial
theorem PySem.W.Fast.tw9086930112055032945 : True := trivial
theorem PySem.W.Fast.tw11466653732795435926 : True := trivial
theorem PySem.W.Fast.tw14477162522529168044 : True := trivial
theorem PySem.W.Fast.tw5517404584111521749 : True := trivial
theorem PySem.W.Fast.tw101435180268515527 : True := trivial
theorem PySem.W.Fast.tw4380763725626870115 : True := trivial
theorem PySem.W.Fast.tw14901927092094567740 : True := trivial
theorem PySem.W.Fast.tw11090591350251306283 : True := trivial
theorem PySem.W.Fast.tw17600512011304238992 : True := trivial
theorem PySem.W.Fast.tw10453712279773300747 : True := trivial
theorem PySem.W.Fast.tw479514365811153218 : True := trivial
theorem PySem.W.Fast.tw5401494343365843433 : True := trivial
theorem PySem.W.Fast.tw9635918291380697670 : True := trivial
theorem PySem.W.Fast.tw4259887198180766490 : True := trivial
theorem PySem.W.Fast.tw7729690332203833060 : True := trivial
theorem PySem.W.Fast.tw5237261487359904088 : True := trivial
theorem PySem.W.Fast.tw7399999215966472563 : True := trivial
theorem PySem.W.Fast.tw16834208046973532 : True := trivial
theorem PySem.W.Fast.tw17522438394078946241 : True := trivial
theorem PySem.W.Fast.tw8906896832737698058 : True := trivial
theorem PySem.W.Fast.tw431457038173384880 : True := trivial
theorem PySem.W.Fast.tw3994884088102834993 : True := trivial
theorem PySem.W.Fast.tw17032731815181699403 : True := trivial
theorem PySem.W.Fast.tw4502858155358058077 : True := trivial
theorem PySem.W.Fast.tw10469734022727889451 : True := trivial
theorem PySem.W.Fast.tw4864182469914496563 : True := trivial
theorem PySem.W.Fast.tw4885083155213204634 : True := trivial
theorem PySem.W.Fast.tw10521984405765467384 : True := trivial
theorem PySem.W.Fast.tw9488541006094017569 : True := trivial
theorem PySem.W.Fast.tw12790234980845570588 : True := trivial
theorem PySem.W.Fast.tw4563302306591222850 : True := trivial
theorem PySem.W.Fast.tw16034747821122329195 : True := trivial
theorem PySem.W.Fast.tw1189684060177463857 : True := trivial
theorem PySem.W.Fast.tw8600742893263606556 : True := trivial
theorem PySem.W.Fast.tw2212980600726473865 : True := trivial
theorem PySem.W.Fast.tw15625002275331214075 : True := trivial
theorem PySem.W.Fast.tw13127182933277461709 : True := trivial
theorem PySem.W.Fast.tw6195601932728482163 : True := trivial
theorem PySem.W.Fast.tw6645690091973435344 : True := trivial
theorem PySem.W.Fast.tw17358767673904297229 : True := trivial
theorem PySem.W.Fast.tw14518204822261732298 : True := trivial
theorem PySem.W.Fast.tw4162243646551139650 : True := trivial
theorem PySem.W.Fast.tw13672443303713257197 : True := trivial
theorem PySem.W.Fast.tw3159377117651131059 : True := trivial
theorem PySem.W.Fast.tw5064447281692860194 : True := trivial
theorem PySem.W.Fast.tw13297360441196011046 : True := trivial
theorem PySem.W.Fast.tw4641655842293150201 : True := trivial
theorem PySem.W.Fast.tw10257416344375370166 : True := trivial
theorem PySem.W.Fast.tw13821704111012691334 : True := trivial
theorem PySem.W.Fast.tw10410903153399226137 : True := trivial
theorem PySem.W.Fast.tw3856821002288854835 : True := trivial
theorem PySem.W.Fast.tw9588222988709109380 : True := trivial
theorem PySem.W.Fast.tw3818835663906647085 : True := trivial
theorem PySem.W.Fast.tw5048110882154770346 : True := trivial
theorem PySem.W.Fast.tw6390547185727894035 : True := trivial
theorem PySem.W.Fast.tw5587221367185601441 : True := trivial
theorem PySem.W.Fast.tw792655707870805591 : True := trivial
theorem PySem.W.Fast.tw3634206599766784354 : True := trivial
theorem PySem.W.Fast.tw5716776292200850049 : True := trivial
theorem PySem.W.Fast.tw12141149477197334371 : True := trivial
theorem PySem.W.Fast.tw7663538478214099701 : True := trivial
theorem PySem.W.Fast.tw14027838965072096761 : True := trivial
theorem PySem.W.Fast.tw1375264017918317164 : True := trivial
theorem PySem.W.Fast.tw16809911686280805551 : True := trivial
theorem PySem.W.Fast.tw3810022699332593850 : True := trivial
theorem PySem.W.Fast.tw13145403757639760713 : True := trivial
theorem PySem.W.Fast.tw48712212162915247 : True := trivial
theorem PySem.W.Fast.tw3977407946965848271 : True := trivial
theorem PySem.W.Fast.tw18124771136674700262 : True := trivial
theorem PySem.W.Fast.tw2650364703095430373 : True := trivial
theorem PySem.W.Fast.tw8128743215431635604 : True := trivial
theorem PySem.W.Fast.tw1448334654964455214 : True := trivial
theorem PySem.W.Fast.tw15431537672920577720 : True := trivial
theorem PySem.W.Fast.tw2115527322381314835 : True := trivial
theorem PySem.W.Fast.tw14018533581823451981 : True := trivial
theorem PySem.W.Fast.tw13746398669837343185 : True := trivial
theorem PySem.W.Fast.tw14537384734791361164 : True := trivial
theorem PySem.W.Fast.tw8549666726400394083 : True := trivial
theorem PySem.W.Fast.tw3835029838859705379 : True := trivial
theorem PySem.W.Fast.tw2201018160428588520 : True := trivial
theorem PySem.W.Fast.tw3955327293715180438 : True := trivial
theorem PySem.W.Fast.tw6882250406228737668 : True := trivial
theorem PySem.W.Fast.tw13131081992298706424 : True := trivial
theorem PySem.W.Fast.tw3975288137525728737 : True := trivial
theorem PySem.W.Fast.tw17862515932031950020 : True := trivial
theorem PySem.W.Fast.tw2942709174891934354 : True := trivial
theorem PySem.W.Fast.tw534652932580864283 : True := trivial
theorem PySem.W.Fast.tw11339451031375571469 : True := trivial
theorem PySem.W.Fast.tw3974278968671767641 : True := trivial
theorem PySem.W.Fast.tw1261671765520533631 : True := trivial
theorem PySem.W.Fast.tw5424508184751078123 : True := trivial
theorem PySem.W.Fast.tw12469517606110667181 : True := trivial
theorem PySem.W.Fast.tw4134031456743669295 : True := trivial
theorem PySem.W.Fast.tw10452810763528448687 : True := trivial
theorem PySem.W.Fast.tw4425977319827355399 : True := trivial
theorem PySem.W.Fast.tw16474990704473351441 : True := trivial
theorem PySem.W.Fast.tw2578284665205562327 : True := trivial
theorem PySem.W.Fast.tw18306399753636155378 : True := trivial
theorem PySem.W.Fast.tw3783906316012827078 : True := trivial
theorem PySem.W.Fast.tw224092473810347773 : True := trivial
theorem PySem.W.Fast.tw4377111747192948297 : True := trivial
theorem PySem.W.Fast.tw14455185019027252312 : True := trivial
theorem PySem.W.Fast.tw14631281176272615238 : True := trivial
theorem PySem.W.Fast.tw7068789410139170128 : True := trivial
theorem PySem.W.Fast.tw6645676496292505864 : True := trivial
theorem PySem.W.Fast.tw3222574922644965487 : True := trivial
theorem PySem.W.Fast.tw1881897755727141275 : True := trivial
theorem PySem.W.Fast.tw185814187174447339 : True := trivial
theorem PySem.W.Fast.tw18109806260501209514 : True := trivial
theorem PySem.W.Fast.tw14165909904996385482 : True := trivial
theorem PySem.W.Fast.tw15921073429971971667 : True := trivial
theorem PySem.W.Fast.tw13286880026995173057 : True := trivial
theorem PySem.W.Fast.tw18172068001221390420 : True := trivial
theorem PySem.W.Fast.tw15681905697945893868 : True := trivial
theorem PySem.W.Fast.tw2471646578429929854 : True := trivial
theorem PySem.W.Fast.tw8981043323708965938 : True := trivial
theorem PySem.W.Fast.tw8131055129625811521 : True := trivial
theorem PySem.W.Fast.tw15711351011224555122 : True := trivial
theorem PySem.W.Fast.tw2251234827001985975 : True := trivial
theorem PySem.W.Fast.tw6773815172570767238 : True := trivial
theorem PySem.W.Fast.tw8110216071768141597 : True := trivial
theorem PySem.W.Fast.tw9153505371484522835 : True := trivial
theorem PySem.W.Fast.tw1814620880163994097 : True := trivial
theorem PySem.W.Fast.tw7157412459190439882 : True := trivial
theorem PySem.W.Fast.tw10276437947051175773 : True := trivial
theorem PySem.W.Fast.tw1244020942406792225 : True := trivial
theorem PySem.W.Fast.tw14336988372433290971 : True := trivial
theorem PySem.W.Fast.tw10500826194896178538 : True := trivial
theorem PySem.W.Fast.tw2020444367524352354 : True := trivial
theorem PySem.W.Fast.tw16687378260525966336 : True := trivial
theorem PySem.W.Fast.tw12772230174519130581 : True := trivial
theorem PySem.W.Fast.tw16633917233058770785 : True := trivial
theorem PySem.W.Fast.tw17198387274172462142 : True := trivial
theorem PySem.W.Fast.tw15016349807906555842 : True := trivial
theorem PySem.W.Fast.tw13042987672534827276 : True := trivial
theorem PySem.W.Fast.tw14410054742523672041 : True := trivial
theorem PySem.W.Fast.tw3363138968378208203 : True := trivial
theorem PySem.W.Fast.tw3866297237191180451 : True := trivial
theorem PySem.W.Fast.tw9480885710259236617 : True := trivial
theorem PySem.W.Fast.tw1608373168610950524 : True := trivial
theorem PySem.W.Fast.tw13285205570028963840 : True := trivial
theorem PySem.W.Fast.tw4062711017038305090 : True := trivial
theorem PySem.W.Fast.tw6197173166639027772 : True := trivial
theorem PySem.W.Fast.tw12714662512564373210 : True := trivial
theorem PySem.W.Fast.tw2484061075674714660 : True := trivial
theorem PySem.W.Fast.tw1753569660572954349 : True := trivial
theorem PySem.W.Fast.tw10831320925190875330 : True := trivial
theorem PySem.W.Fast.tw16017707593193273148 : True := trivial
theorem PySem.W.Fast.tw12028779070924033130 : True := trivial
theorem PySem.W.Fast.tw2444679174350487962 : True := trivial
theorem PySem.W.Fast.tw17844856970996246900 : True := trivial
theorem PySem.W.Fast.tw9200403524922730925 : True := trivial
theorem PySem.W.Fast.tw13298924038440596441 : True := trivial
theorem PySem.W.Fast.tw11084277185221680572 : True := trivial
theorem PySem.W.Fast.tw5387724835177754399 : True := trivial
theorem PySem.W.Fast.tw11363394215733463020 : True := trivial
theorem PySem.W.Fast.tw6844734619690514204 : True := trivial
theorem PySem.W.Fast.tw10911156094666336030 : True := trivial
theorem PySem.W.Fast.tw13160512048100537656 : True := trivial
theorem PySem.W.Fast.tw16160833019859747460 : True := trivial
theorem PySem.W.Fast.tw4294502800600138813 : True := trivial
theorem PySem.W.Fast.tw4051052060290246571 : True := trivial
theorem PySem.W.Fast.tw6958123044989384752 : True := trivial
theorem PySem.W.Fast.tw4062491633153504097 : True := trivial
theorem PySem.W.Fast.tw3834943649816417825 : True := trivial
theorem PySem.W.Fast.tw190777523315280102 : True := trivial
theorem PySem.W.Fast.tw16261678993092388009 : True := trivial
theorem PySem.W.Fast.tw8834957974937646418 : True := trivial
theorem PySem.W.Fast.tw10280979414761877090 : True := trivial
theorem PySem.W.Fast.tw17224740757588697362 : True := trivial
theorem PySem.W.Fast.tw3366308600870767335 : True := trivial
theorem PySem.W.Fast.tw10728981406483812596 : True := trivial
theorem PySem.W.Fast.tw18441878005825745082 : True := trivial
theorem PySem.W.Fast.tw9444515682300043808 : True := trivial
theorem PySem.W.Fast.tw5306574242949327038 : True := trivial
theorem PySem.W.Fast.tw2813862498182714904 : True := trivial
theorem PySem.W.Fast.tw13769883134466141703 : True := trivial
theorem PySem.W.Fast.tw5172232902790032526 : True := trivial
theorem PySem.W.Fast.tw6946811966247016621 : True := trivial
theorem PySem.W.Fast.tw11202212949782130901 : True := trivial
theorem PySem.W.Fast.tw11906369509474573728 : True := trivial
theorem PySem.W.Fast.tw10989673883781196561 : True := trivial
theorem PySem.W.Fast.tw11873374298941217331 : True := trivial
theorem PySem.W.Fast.tw3820840518638006189 : True := trivial
theorem PySem.W.Fast.tw7576402901118215790 : True := trivial
theorem PySem.W.Fast.tw16757164592808522788 : True := trivial
theorem PySem.W.Fast.tw9555293377569301274 : True := trivial
theorem PySem.W.Fast.tw3190628780724047061 : True := trivial
theorem PySem.W.Fast.tw17351447235283331629 : True := trivial
theorem PySem.W.Fast.tw673584175854787177 : True := trivial
theorem PySem.W.Fast.tw15530604705416247989 : True := trivial
theorem PySem.W.Fast.tw7598867573292023177 : True := trivial
theorem PySem.W.Fast.tw14743902254585554226 : True := trivial
theorem PySem.W.Fast.tw13355458705276203077 : True := trivial
theorem PySem.W.Fast.tw4191664251256673615 : True := trivial
theorem PySem.W.Fast.tw3909033074446606850 : True := trivial
theorem PySem.W.Fast.tw12119667564441753321 : True := trivial
theorem PySem.W.Fast.tw12162608128339734875 : True := trivial
theorem PySem.W.Fast.tw16542050319512515943 : True := trivial
theorem PySem.W.Fast.tw4615271976524885278 : True := trivial
theorem PySem.W.Fast.tw8709229036131226090 : True := trivial
theorem PySem.W.Fast.tw6792464823780382664 : True := trivial
theorem PySem.W.Fast.tw12472619302483409434 : True := trivial
theorem PySem.W.Fast.tw11140380839341119640 : True := trivial
theorem PySem.W.Fast.tw17987874905905930872 : True := trivial
theorem PySem.W.Fast.tw17873075886916639140 : True := trivial
theorem PySem.W.Fast.tw8244574791408398379 : True := trivial
theorem PySem.W.Fast.tw11118842701909371766 : True := trivial
theorem PySem.W.Fast.tw4432402558864213098 : True := trivial
theorem PySem.W.Fast.tw2522642619987470639 : True := trivial
theorem PySem.W.Fast.tw7479845425088164886 : True := trivial
theorem PySem.W.Fast.tw13163890535628984218 : True := trivial
theorem PySem.W.Fast.tw17503489409779072774 : True := trivial
theorem PySem.W.Fast.tw4337682033709573246 : True := trivial
theorem PySem.W.Fast.tw14856992078084086261 : True := trivial
theorem PySem.W.Fast.tw7006465517543286474 : True := trivial
theorem PySem.W.Fast.tw9600914284150418906 : True := trivial
theorem PySem.W.Fast.tw10640581227350127727 : True := trivial
theorem PySem.W.Fast.tw10514346754659319158 : True := trivial
theorem PySem.W.Fast.tw16776550961637163157 : True := trivial
theorem PySem.W.Fast.tw3873860862656114600 : True := trivial
theorem PySem.W.Fast.tw1310535026676083506 : True := trivial
theorem PySem.W.Fast.tw9704679003229925381 : True := trivial
theorem PySem.W.Fast.tw11438003222418848368 : True := trivial
theorem PySem.W.Fast.tw10611464253676775292 : True := trivial
theorem PySem.W.Fast.tw14157582359311010988 : True := trivial
theorem PySem.W.Fast.tw6678293459321698374 : True := trivial
theorem PySem.W.Fast.tw6900672900343766799 : True := trivial
theorem PySem.W.Fast.tw18107325232992812100 : True := trivial
theorem PySem.W.Fast.tw3432829973039891517 : True := trivial
theorem PySem.W.Fast.tw14547843026032035188 : True := trivial
theorem PySem.W.Fast.tw5839165076836523334 : True := trivial
theorem PySem.W.Fast.tw2749381599170932294 : True := trivial
theorem PySem.W.Fast.tw263871834324891867 : True := trivial
theorem PySem.W.Fast.tw3892457724883984007 : True := trivial
theorem PySem.W.Fast.tw16539496978402906563 : True := trivial
theorem PySem.W.Fast.tw10914150315335834075 : True := trivial
theorem PySem.W.Fast.tw5113819266174823975 : True := trivial
theorem PySem.W.Fast.tw16307306020620921234 : True := trivial
theorem PySem.W.Fast.tw6966456109332146509 : True := trivial
theorem PySem.W.Fast.tw8465763201049894392 : True := trivial
theorem PySem.W.Fast.tw18316422203071136431 : True := trivial
theorem PySem.W.Fast.tw14528170869860799862 : True := trivial
theorem PySem.W.Fast.tw18188404305815367885 : True := trivial
theorem PySem.W.Fast.tw7555327963078378894 : True := trivial
theorem PySem.W.Fast.tw12232262790024629193 : True := trivial
theorem PySem.W.Fast.tw139986107210512493 : True := trivial
theorem PySem.W.Fast.tw7914532073520512567 : True := trivial
theorem PySem.W.Fast.tw13118460651812148780 : True := trivial
theorem PySem.W.Fast.tw12391729773140942111 : True := trivial
theorem PySem.W.Fast.tw9963443567373023509 : True := trivial
theorem PySem.W.Fast.tw13438276816531646620 : True := trivial
theorem PySem.W.Fast.tw11898160036969231048 : True := trivial
theorem PySem.W.Fast.tw11719777139022927243 : True := trivial
theorem PySem.W.Fast.tw9729637440491633766 : True := trivial
theorem PySem.W.Fast.tw5055196593185366012 : True := trivial
theorem PySem.W.Fast.tw11434768316741426533 : True := trivial
theorem PySem.W.Fast.tw8432501584850286985 : True := trivial
theorem PySem.W.Fast.tw16214056793484830364 : True := trivial
theorem PySem.W.Fast.tw4505681177469125225 : True := trivial
theorem PySem.W.Fast.tw1333759991255127482 : True := trivial
theorem PySem.W.Fast.tw12306710486880740358 : True := trivial
theorem PySem.W.Fast.tw7195299150574361560 : True := trivial
theorem PySem.W.Fast.tw97119881564528363 : True := trivial
theorem PySem.W.Fast.tw12468055862502238985 : True := trivial
theorem PySem.W.Fast.tw13144923033796276168 : True := trivial
theorem PySem.W.Fast.tw1499793284445184035 : True := trivial
theorem PySem.W.Fast.tw5287120855162214773 : True := trivial
theorem PySem.W.Fast.tw16297560356507716306 : True := trivial
theorem PySem.W.Fast.tw1274409833425979170 : True := trivial
theorem PySem.W.Fast.tw4654362434067933071 : True := trivial
theorem PySem.W.Fast.tw16057423686431013105 : True := trivial
theorem PySem.W.Fast.tw3702837730953684671 : True := trivial
theorem PySem.W.Fast.tw10558450442074467285 : True := trivial
theorem PySem.W.Fast.tw590547923715971289 : True := trivial
theorem PySem.W.Fast.tw16673602176227020486 : True := trivial
theorem PySem.W.Fast.tw9591853893626968492 : True := trivial
theorem PySem.W.Fast.tw14950879255975763464 : True := trivial
theorem PySem.W.Fast.tw16757966044087805551 : True := trivial
theorem PySem.W.Fast.tw3253447808315290537 : True := trivial
theorem PySem.W.Fast.tw13265784184261292154 : True := trivial
theorem PySem.W.Fast.tw16532623380677028809 : True := trivial
theorem PySem.W.Fast.tw15246727098161989036 : True := trivial
theorem PySem.W.Fast.tw7261651997522003762 : True := trivial
theorem PySem.W.Fast.tw10341694385177179441 : True := trivial
theorem PySem.W.Fast.tw5718931857115438956 : True := trivial
theorem PySem.W.Fast.tw16373635969944646533 : True := trivial
theorem PySem.W.Fast.tw11368124016965152788 : True := trivial
theorem PySem.W.Fast.tw16417345149359735809 : True := trivial
theorem PySem.W.Fast.tw9804299332935632403 : True := trivial
theorem PySem.W.Fast.tw7010204631342555636 : True := trivial
theorem PySem.W.Fast.tw7124892771465426214 : True := trivial
theorem PySem.W.Fast.tw1931952172857424839 : True := trivial
theorem PySem.W.Fast.tw14665875327113036159 : True := trivial
theorem PySem.W.Fast.tw8211816824037225394 : True := trivial
theorem PySem.W.Fast.tw4497407996180690833 : True := trivial
theorem PySem.W.Fast.tw15901574838491974719 : True := trivial
theorem PySem.W.Fast.tw6297042679745752499 : True := trivial
theorem PySem.W.Fast.tw11010025246318248749 : True := trivial
theorem PySem.W.Fast.tw16184189201710076080 : True := trivial
theorem PySem.W.Fast.tw12670885642492550022 : True := trivial
theorem PySem.W.Fast.tw11015393575093429557 : True := trivial
theorem PySem.W.Fast.tw8717512974830308384 : True := trivial
theorem PySem.W.Fast.tw11182441440119984024 : True := trivial
theorem PySem.W.Fast.tw9387276587567362655 : True := trivial
theorem PySem.W.Fast.tw9628704524576474916 : True := trivial
theorem PySem.W.Fast.tw15431148568578198044 : True := trivial
theorem PySem.W.Fast.tw4401236778290997154 : True := trivial
theorem PySem.W.Fast.tw14930002759522575871 : True := trivial
theorem PySem.W.Fast.tw9375761937322327400 : True := trivial
theorem PySem.W.Fast.tw16992141395306655015 : True := trivial
theorem PySem.W.Fast.tw9397852229430531921 : True := trivial
theorem PySem.W.Fast.tw2553178138298937679 : True := trivial
theorem PySem.W.Fast.tw13352283308759582025 : True := trivial
theorem PySem.W.Fast.tw11398233323533225985 : True := trivial
theorem PySem.W.Fast.tw17474407236140965691 : True := trivial
theorem PySem.W.Fast.tw10311359614743136265 : True := trivial
theorem PySem.W.Fast.tw286225658980653843 : True := trivial
theorem PySem.W.Fast.tw15747416470412233728 : True := trivial
theorem PySem.W.Fast.tw2077255809055954684 : True := trivial
theorem PySem.W.Fast.tw3801954030485316490 : True := trivial
theorem PySem.W.Fast.tw9318742334419749628 : True := trivial
theorem PySem.W.Fast.tw7068476805273057129 : True := trivial
theorem PySem.W.Fast.tw9301167800902393982 : True := trivial
theorem PySem.W.Fast.tw1551464207349146349 : True := trivial
theorem PySem.W.Fast.tw1278796727153274536 : True := trivial
theorem PySem.W.Fast.tw7980331041984906850 : True := trivial
theorem PySem.W.Fast.tw9818710596237590428 : True := trivial
theorem PySem.W.Fast.tw10654636918020307572 : True := trivial
theorem PySem.W.Fast.tw15244050787333062641 : True := trivial
theorem PySem.W.Fast.tw18037115054185754828 : True := trivial
theorem PySem.W.Fast.tw7887636000382847258 : True := trivial
theorem PySem.W.Fast.tw8474129503068260410 : True := trivial
theorem PySem.W.Fast.tw6884090520965003324 : True := trivial
theorem PySem.W.Fast.tw6311992108694468237 : True := trivial
theorem PySem.W.Fast.tw16984452353467392832 : True := trivial
theorem PySem.W.Fast.tw15249154325588702553 : True := trivial
theorem PySem.W.Fast.tw7965535230198661822 : True := trivial
theorem PySem.W.Fast.tw8548017958108113420 : True := trivial
theorem PySem.W.Fast.tw4612838509314462631 : True := trivial
theorem PySem.W.Fast.tw12850424916269313546 : True := trivial
theorem PySem.W.Fast.tw3913430730642882782 : True := trivial
theorem PySem.W.Fast.tw8674554818790438574 : True := trivial
theorem PySem.W.Fast.tw8127528315478637115 : True := trivial
theorem PySem.W.Fast.tw2068402535200009039 : True := trivial
theorem PySem.W.Fast.tw3471727175328818093 : True := trivial
theorem PySem.W.Fast.tw2837314510841900609 : True := trivial
theorem PySem.W.Fast.tw17934226958365202438 : True := trivial
theorem PySem.W.Fast.tw11024480271472204040 : True := trivial
theorem PySem.W.Fast.tw9344802042661767808 : True := trivial
theorem PySem.W.Fast.tw7186116527876318199 : True := trivial
theorem PySem.W.Fast.tw9772859721650453722 : True := trivial
theorem PySem.W.Fast.tw1845463655067763267 : True := trivial
theorem PySem.W.Fast.tw9879116505787289726 : True := trivial
theorem PySem.W.Fast.tw11823648438358268403 : True := trivial
theorem PySem.W.Fast.tw10496272699541074425 : True := trivial
theorem PySem.W.Fast.tw2007156600896673867 : True := trivial
theorem PySem.W.Fast.tw16182184921695080968 : True := trivial
theorem PySem.W.Fast.tw3785412301489108050 : True := trivial
theorem PySem.W.Fast.tw1784156649188810202 : True := trivial
theorem PySem.W.Fast.tw16133386991296155658 : True := trivial
theorem PySem.W.Fast.tw11768661509974428717 : True := trivial
theorem PySem.W.Fast.tw2297439743592882733 : True := trivial
theorem PySem.W.Fast.tw17533205595141863769 : True := trivial
theorem PySem.W.Fast.tw8849010607790348997 : True := trivial
theorem PySem.W.Fast.tw6333680240238106414 : True := trivial
theorem PySem.W.Fast.tw13528720962837117603 : True := trivial
theorem PySem.W.Fast.tw9758426775619733083 : True := trivial
theorem PySem.W.Fast.tw9997973817342078602 : True := trivial
theorem PySem.W.Fast.tw2338057060626615302 : True := trivial
theorem PySem.W.Fast.tw4276707908026592536 : True := trivial
theorem PySem.W.Fast.tw8579618129115159873 : True := trivial
theorem PySem.W.Fast.tw11207135440125274702 : True := trivial
theorem PySem.W.Fast.tw14471772903723867378 : True := trivial
theorem PySem.W.Fast.tw3384728402849419155 : True := trivial
theorem PySem.W.Fast.tw1908276079310185276 : True := trivial
theorem PySem.W.Fast.tw8629594237572463007 : True := trivial
theorem PySem.W.Fast.tw13827062642985201785 : True := trivial
theorem PySem.W.Fast.tw2929974920134225320 : True := trivial
theorem PySem.W.Fast.tw16434627118149638496 : True := trivial
theorem PySem.W.Fast.tw10196174141341902166 : True := trivial
theorem PySem.W.Fast.tw18012491029968943308 : True := trivial
theorem PySem.W.Fast.tw5716377428735718970 : True := trivial
theorem PySem.W.Fast.tw208948156646902846 : True := trivial
theorem PySem.W.Fast.tw9877467699027972601 : True := trivial
theorem PySem.W.Fast.tw10002943966871214982 : True := trivial
theorem PySem.W.Fast.tw3823255214419705322 : True := trivial
theorem PySem.W.Fast.tw11532995621678228498 : True := trivial
theorem PySem.W.Fast.tw15213278677435111444 : True := trivial
theorem PySem.W.Fast.tw13607274344012563908 : True := trivial
theorem PySem.W.Fast.tw4312995777350929677 : True := trivial
theorem PySem.W.Fast.tw3991201118393858805 : True := trivial
theorem PySem.W.Fast.tw8109287055565069689 : True := trivial
theorem PySem.W.Fast.tw17492963624801640615 : True := trivial
theorem PySem.W.Fast.tw16277892391217363499 : True := trivial
theorem PySem.W.Fast.tw2220397604834928318 : True := trivial
theorem PySem.W.Fast.tw4204320011845836758 : True := trivial
theorem PySem.W.Fast.tw14546419557998547291 : True := trivial
theorem PySem.W.Fast.tw18052800552849221643 : True := trivial
theorem PySem.W.Fast.tw4384633874637971004 : True := trivial
theorem PySem.W.Fast.tw13915212739530823987 : True := trivial
theorem PySem.W.Fast.tw11073137054420296123 : True := trivial
theorem PySem.W.Fast.tw7395724076831494380 : True := trivial
theorem PySem.W.Fast.tw9049920129440824563 : True := trivial
theorem PySem.W.Fast.tw16975615423047906012 : True := trivial
theorem PySem.W.Fast.tw13182319116014577235 : True := trivial
theorem PySem.W.Fast.tw16930104151842480687 : True := trivial
theorem PySem.W.Fast.tw713434637169616921 : True := trivial
theorem PySem.W.Fast.tw17073559433338262962 : True := trivial
theorem PySem.W.Fast.tw13228029548520350245 : True := trivial
theorem PySem.W.Fast.tw17743182457585017503 : True := trivial
theorem PySem.W.Fast.tw2980359034509848166 : True := trivial
theorem PySem.W.Fast.tw383608740046011606 : True := trivial
theorem PySem.W.Fast.tw16939974319376328843 : True := trivial
theorem PySem.W.Fast.tw13056740822482040447 : True := trivial
theorem PySem.W.Fast.tw15235725610796685694 : True := trivial
theorem PySem.W.Fast.tw5115173588150957074 : True := trivial
theorem PySem.W.Fast.tw13176946475948120798 : True := trivial
theorem PySem.W.Fast.tw14452491706917750009 : True := trivial
theorem PySem.W.Fast.tw12708046936047555726 : True := trivial
theorem PySem.W.Fast.tw2664230825696297574 : True := trivial
theorem PySem.W.Fast.tw9277346552906295119 : True := trivial
theorem PySem.W.Fast.tw11700870376947503886 : True := trivial
theorem PySem.W.Fast.tw5901468572456225643 : True := trivial
theorem PySem.W.Fast.tw14452373244428410637 : True := trivial
theorem PySem.W.Fast.tw17618693992047377171 : True := trivial
theorem PySem.W.Fast.tw11448584929432637361 : True := trivial
theorem PySem.W.Fast.tw8296352925999363202 : True := trivial
theorem PySem.W.Fast.tw3702070637453578249 : True := trivial
theorem PySem.W.Fast.tw5334836321039311700 : True := trivial
theorem PySem.W.Fast.tw17496568818598607505 : True := trivial
theorem PySem.W.Fast.tw17255260473679941279 : True := trivial
theorem PySem.W.Fast.tw1527892783447741947 : True := trivial
theorem PySem.W.Fast.tw17683006586844363458 : True := trivial
theorem PySem.W.Fast.tw17419157839352732461 : True := trivial
theorem PySem.W.Fast.tw2352273203363514155 : True := trivial
theorem PySem.W.Fast.tw16013465945969841243 : True := trivial
theorem PySem.W.Fast.tw14105905396976363864 : True := trivial
theorem PySem.W.Fast.tw12494117524841155996 : True := trivial
theorem PySem.W.Fast.tw5770405543060772867 : True := trivial
theorem PySem.W.Fast.tw4228179780884363080 : True := trivial
theorem PySem.W.Fast.tw12728346654198234186 : True := trivial
theorem PySem.W.Fast.tw1600577206133089205 : True := trivial
theorem PySem.W.Fast.tw10191214624975254270 : True := trivial
theorem PySem.W.Fast.tw5818944888401704854 : True := trivial
theorem PySem.W.Fast.tw10353621319835407051 : True := trivial
theorem PySem.W.Fast.tw10428814544321480708 : True := trivial
theorem PySem.W.Fast.tw10817071722077075455 : True := trivial
theorem PySem.W.Fast.tw14288913887997168846 : True := trivial
theorem PySem.W.Fast.tw16485467494006739536 : True := trivial
theorem PySem.W.Fast.tw11036901025179303056 : True := trivial
theorem PySem.W.Fast.tw13266078842530987631 : True := trivial
theorem PySem.W.Fast.tw15695846259415877443 : True := trivial
theorem PySem.W.Fast.tw6717221070062236994 : True := trivial
theorem PySem.W.Fast.tw6388656699006900903 : True := trivial
theorem PySem.W.Fast.tw6799451609177366542 : True := trivial
theorem PySem.W.Fast.tw6986085867205964870 : True := trivial
theorem PySem.W.Fast.tw16579670745435870337 : True := trivial
theorem PySem.W.Fast.tw9328828183880847636 : True := trivial
theorem PySem.W.Fast.tw16934643081841171344 : True := trivial
theorem PySem.W.Fast.tw14765747121202868717 : True := trivial
theorem PySem.W.Fast.tw9477611970249196219 : True := trivial
theorem PySem.W.Fast.tw6969538550769020367 : True := trivial
theorem PySem.W.Fast.tw16440068698009925849 : True := trivial
theorem PySem.W.Fast.tw10087867573666718025 : True := trivial
theorem PySem.W.Fast.tw396329498291849226 : True := trivial
theorem PySem.W.Fast.tw8125231298491477877 : True := trivial
theorem PySem.W.Fast.tw14777681615675977650 : True := trivial
theorem PySem.W.Fast.tw12901697550696712561 : True := trivial
theorem PySem.W.Fast.tw8453591703783194613 : True := trivial
theorem PySem.W.Fast.tw7170404809983016459 : True := trivial
theorem PySem.W.Fast.tw3352358890668444695 : True := trivial
theorem PySem.W.Fast.tw18430022663534709700 : True := trivial
theorem PySem.W.Fast.tw2889179386540490562 : True := trivial
theorem PySem.W.Fast.tw16860646739018482101 : True := trivial
theorem PySem.W.Fast.tw15182145522612139403 : True := trivial
theorem PySem.W.Fast.tw207881742719842933 : True := trivial
theorem PySem.W.Fast.tw15883775128550331618 : True := trivial
theorem PySem.W.Fast.tw18375052309776807447 : True := trivial
theorem PySem.W.Fast.tw11357461168587971329 : True := trivial
theorem PySem.W.Fast.tw12311432330679430983 : True := trivial
theorem PySem.W.Fast.tw12843619872183140103 : True := trivial
theorem PySem.W.Fast.tw6372758099185925347 : True := trivial
theorem PySem.W.Fast.tw3435271817590761718 : True := trivial
theorem PySem.W.Fast.tw18408221706088820824 : True := trivial
theorem PySem.W.Fast.tw16159598233755691045 : True := trivial
theorem PySem.W.Fast.tw8241829292769877867 : True := trivial
theorem PySem.W.Fast.tw15526633742043323473 : True := trivial
theorem PySem.W.Fast.tw6376656493875674485 : True := trivial
theorem PySem.W.Fast.tw9255027078399998614 : True := trivial
theorem PySem.W.Fast.tw1855592265748650326 : True := trivial
theorem PySem.W.Fast.tw15397090092716446844 : True := trivial
theorem PySem.W.Fast.tw12298743554162127774 : True := trivial
theorem PySem.W.Fast.tw3199756812852006185 : True := trivial
theorem PySem.W.Fast.tw2011791672918363373 : True := trivial
theorem PySem.W.Fast.tw10626442464457634854 : True := trivial
theorem PySem.W.Fast.tw14405160660707193601 : True := trivial
theorem PySem.W.Fast.tw14593098399576581337 : True := trivial
theorem PySem.W.Fast.tw7436713525613336874 : True := trivial
theorem PySem.W.Fast.tw16537706326364206716 : True := trivial
theorem PySem.W.Fast.tw12581746895660308693 : True := trivial
theorem PySem.W.Fast.tw10597410399398011495 : True := trivial
theorem PySem.W.Fast.tw11132498163838868880 : True := trivial
theorem PySem.W.Fast.tw13810871413484481092 : True := trivial
theorem PySem.W.Fast.tw11686224444587850465 : True := trivial
theorem PySem.W.Fast.tw17516010646216545663 : True := trivial
theorem PySem.W.Fast.tw1438465444541400556 : True := trivial
theorem PySem.W.Fast.tw13037997682698500115 : True := trivial
theorem PySem.W.Fast.tw12065394286022912793 : True := trivial
theorem PySem.W.Fast.tw11559483356777696396 : True := trivial
theorem PySem.W.Fast.tw7777220807970461567 : True := trivial
theorem PySem.W.Fast.tw7335112521598934203 : True := trivial
theorem PySem.W.Fast.tw14059583947004742990 : True := trivial
theorem PySem.W.Fast.tw11638346798819760838 : True := trivial
theorem PySem.W.Fast.tw15347906139978913314 : True := trivial
theorem PySem.W.Fast.tw3759189845992206666 : True := trivial
theorem PySem.W.Fast.tw10030865703617163024 : True := trivial
theorem PySem.W.Fast.tw12405808027616114039 : True := trivial
theorem PySem.W.Fast.tw2379681637890858146 : True := trivial
theorem PySem.W.Fast.tw13610265415436402675 : True := trivial
theorem PySem.W.Fast.tw12620726833788499456 : True := trivial
theorem PySem.W.Fast.tw6772750338817054674 : True := trivial
theorem PySem.W.Fast.tw5675478605007916826 : True := trivial
theorem PySem.W.Fast.tw13056527646077609787 : True := trivial
theorem PySem.W.Fast.tw9560525340942656912 : True := trivial
theorem PySem.W.Fast.tw4479524610857842484 : True := trivial
theorem PySem.W.Fast.tw8166375580438659998 : True := trivial
theorem PySem.W.Fast.tw726889643424910978 : True := trivial
theorem PySem.W.Fast.tw18006224435752530604 : True := trivial
theorem PySem.W.Fast.tw5019324182489029452 : True := trivial
theorem PySem.W.Fast.tw8015056720325522431 : True := trivial
theorem PySem.W.Fast.tw14588918422043596384 : True := trivial
theorem PySem.W.Fast.tw348577557722871302 : True := trivial
theorem PySem.W.Fast.tw10621617407878034259 : True := trivial
theorem PySem.W.Fast.tw15868859436605160399 : True := trivial
theorem PySem.W.Fast.tw759655383438572382 : True := trivial
theorem PySem.W.Fast.tw14105807511324879774 : True := trivial
theorem PySem.W.Fast.tw11250241606932863560 : True := trivial
theorem PySem.W.Fast.tw1354484291397748705 : True := trivial
theorem PySem.W.Fast.tw6517579378255694041 : True := trivial
theorem PySem.W.Fast.tw440194109744943032 : True := trivial
theorem PySem.W.Fast.tw7721418557915847875 : True := trivial
theorem PySem.W.Fast.tw14839536253321625364 : True := trivial
theorem PySem.W.Fast.tw13721120078264416018 : True := trivial
theorem PySem.W.Fast.tw663462692651020583 : True := trivial
theorem PySem.W.Fast.tw3182915450932833343 : True := trivial
theorem PySem.W.Fast.tw12494372243305663924 : True := trivial
theorem PySem.W.Fast.tw6593334139760899405 : True := trivial
theorem PySem.W.Fast.tw14249021264269903765 : True := trivial
theorem PySem.W.Fast.tw17204967469028742125 : True := trivial
theorem PySem.W.Fast.tw11196289066755730083 : True := trivial
theorem PySem.W.Fast.tw3851929647279817337 : True := trivial
theorem PySem.W.Fast.tw5012002564041333891 : True := trivial
theorem PySem.W.Fast.tw7043635417341415773 : True := trivial
theorem PySem.W.Fast.tw12067895033833812127 : True := trivial
theorem PySem.W.Fast.tw6933384254430295541 : True := trivial
theorem PySem.W.Fast.tw11736516045001464091 : True := trivial
theorem PySem.W.Fast.tw12168957146159050036 : True := trivial
theorem PySem.W.Fast.tw11332227351886070377 : True := trivial
theorem PySem.W.Fast.tw5413807738695128904 : True := trivial
theorem PySem.W.Fast.tw6383632770722276799 : True := trivial
theorem PySem.W.Fast.tw7045160910933389497 : True := trivial
theorem PySem.W.Fast.tw16677192938652560866 : True := trivial
theorem PySem.W.Fast.tw3145481004785613837 : True := trivial
theorem PySem.W.Fast.tw15567185089812808104 : True := trivial
theorem PySem.W.Fast.tw10989767281342853532 : True := trivial
theorem PySem.W.Fast.tw377106262544651416 : True := trivial
theorem PySem.W.Fast.tw3863205012260672822 : True := trivial
theorem PySem.W.Fast.tw14532868534539938838 : True := trivial
theorem PySem.W.Fast.tw1925836939753015786 : True := trivial
theorem PySem.W.Fast.tw16280975484083606828 : True := trivial
theorem PySem.W.Fast.tw11890614436302488984 : True := trivial
theorem PySem.W.Fast.tw8566372200721052087 : True := trivial
theorem PySem.W.Fast.tw5158950224641623085 : True := trivial
theorem PySem.W.Fast.tw12373225156638977006 : True := trivial
theorem PySem.W.Fast.tw13993973138192250569 : True := trivial
theorem PySem.W.Fast.tw10012064230039428102 : True := trivial
theorem PySem.W.Fast.tw5322734912660997244 : True := trivial
theorem PySem.W.Fast.tw16178850777468297349 : True := trivial
theorem PySem.W.Fast.tw14322920188758161197 : True := trivial
theorem PySem.W.Fast.tw7258880663897004487 : True := trivial
theorem PySem.W.Fast.tw2188687659356187606 : True := trivial
theorem PySem.W.Fast.tw14094300851673726807 : True := trivial
theorem PySem.W.Fast.tw416398912229476749 : True := trivial
theorem PySem.W.Fast.tw14464132743477096971 : True := trivial
theorem PySem.W.Fast.tw10476562407976361344 : True := trivial
theorem PySem.W.Fast.tw1444067514016539137 : True := trivial
theorem PySem.W.Fast.tw12195353265658950813 : True := trivial
theorem PySem.W.Fast.tw16067699435265822763 : True := trivial
theorem PySem.W.Fast.tw415456998701400825 : True := trivial
theorem PySem.W.Fast.tw13286989254350572143 : True := trivial
theorem PySem.W.Fast.tw13967807100610330529 : True := trivial
theorem PySem.W.Fast.tw8799444849313211686 : True := trivial
theorem PySem.W.Fast.tw13784090200769910516 : True := trivial
theorem PySem.W.Fast.tw17145099256291456465 : True := trivial
theorem PySem.W.Fast.tw1954773613464020103 : True := trivial
theorem PySem.W.Fast.tw3953617963260590988 : True := trivial
theorem PySem.W.Fast.tw18324496884211786322 : True := trivial
theorem PySem.W.Fast.tw4452444933647805805 : True := trivial
theorem PySem.W.Fast.tw16420206136357579345 : True := trivial
theorem PySem.W.Fast.tw9696344822992360832 : True := trivial
theorem PySem.W.Fast.tw15520091004508550918 : True := trivial
theorem PySem.W.Fast.tw8370244962260888549 : True := trivial
theorem PySem.W.Fast.tw14824915894325227518 : True := trivial
theorem PySem.W.Fast.tw4859722487170458207 : True := trivial
theorem PySem.W.Fast.tw15373955187208653703 : True := trivial
theorem PySem.W.Fast.tw5714888443099585598 : True := trivial
theorem PySem.W.Fast.tw12896560221354430387 : True := trivial
theorem PySem.W.Fast.tw1820608933070872939 : True := trivial
theorem PySem.W.Fast.tw9678069660864586869 : True := trivial
theorem PySem.W.Fast.tw5833387004917367262 : True := trivial
theorem PySem.W.Fast.tw14313893858217606848 : True := trivial
theorem PySem.W.Fast.tw8547265680871589331 : True := trivial
theorem PySem.W.Fast.tw3521979062970479198 : True := trivial
theorem PySem.W.Fast.tw10190396174700734106 : True := trivial
theorem PySem.W.Fast.tw6944810861060733434 : True := trivial
theorem PySem.W.Fast.tw8817774766293042560 : True := trivial
theorem PySem.W.Fast.tw5410480453542469634 : True := trivial
theorem PySem.W.Fast.tw12228037851457512426 : True := trivial
theorem PySem.W.Fast.tw5002433670270002105 : True := trivial
theorem PySem.W.Fast.tw12125052474083154449 : True := trivial
theorem PySem.W.Fast.tw5048686413553093087 : True := trivial
theorem PySem.W.Fast.tw8972158225414513847 : True := trivial
theorem PySem.W.Fast.tw1480556475099133477 : True := trivial
theorem PySem.W.Fast.tw9031729041932192533 : True := trivial
theorem PySem.W.Fast.tw11021188806721677326 : True := trivial
theorem PySem.W.Fast.tw2400292029654647689 : True := trivial
theorem PySem.W.Fast.tw12357176273309407256 : True := trivial
theorem PySem.W.Fast.tw7570989602092529969 : True := trivial
theorem PySem.W.Fast.tw2716203668819528615 : True := trivial
theorem PySem.W.Fast.tw9193330364873541886 : True := trivial
theorem PySem.W.Fast.tw4074797315386159763 : True := trivial
theorem PySem.W.Fast.tw9343595972436874917 : True := trivial
theorem PySem.W.Fast.tw11104467198240046384 : True := trivial
theorem PySem.W.Fast.tw8513643426171193774 : True := trivial
theorem PySem.W.Fast.tw10460897586818569754 : True := trivial
theorem PySem.W.Fast.tw5330160744757302867 : True := trivial
theorem PySem.W.Fast.tw7635659798167479329 : True := trivial
theorem PySem.W.Fast.tw10807098572161516392 : True := trivial
theorem PySem.W.Fast.tw12531314676857195437 : True := trivial
theorem PySem.W.Fast.tw14796756991051273190 : True := trivial
theorem PySem.W.Fast.tw12561993701201747147 : True := trivial
theorem PySem.W.Fast.tw6592876203207860754 : True := trivial
theorem PySem.W.Fast.tw3074516157399125252 : True := trivial
theorem PySem.W.Fast.tw10418842679490819489 : True := trivial
theorem PySem.W.Fast.tw15606252380292421675 : True := trivial
theorem PySem.W.Fast.tw11964348830706985035 : True := trivial
theorem PySem.W.Fast.tw4528001050179529839 : True := trivial
theorem PySem.W.Fast.tw5890961017216149891 : True := trivial
theorem PySem.W.Fast.tw12279108241632019777 : True := trivial
theorem PySem.W.Fast.tw3496125117179238917 : True := trivial
theorem PySem.W.Fast.tw10883274646026872689 : True := trivial
theorem PySem.W.Fast.tw18143685425540021042 : True := trivial
theorem PySem.W.Fast.tw17348395126321805848 : True := trivial
theorem PySem.W.Fast.tw5692366527418055731 : True := trivial
theorem PySem.W.Fast.tw15557849807864626726 : True := trivial
theorem PySem.W.Fast.tw12399690657385216126 : True := trivial
theorem PySem.W.Fast.tw18178629245193440660 : True := trivial
theorem PySem.W.Fast.tw335947799016312699 : True := trivial
theorem PySem.W.Fast.tw7698037131035699955 : True := trivial
theorem PySem.W.Fast.tw11621214658861674928 : True := trivial
theorem PySem.W.Fast.tw13799303717012880337 : True := trivial
theorem PySem.W.Fast.tw16910448115299389222 : True := trivial
theorem PySem.W.Fast.tw9859040138311859088 : True := trivial
theorem PySem.W.Fast.tw3695467879057372692 : True := trivial
theorem PySem.W.Fast.tw8018802173427408333 : True := trivial
theorem PySem.W.Fast.tw17411054206608473445 : True := trivial
theorem PySem.W.Fast.tw15830578714653848890 : True := trivial
theorem PySem.W.Fast.tw3118889664426164929 : True := trivial
theorem PySem.W.Fast.tw1080754703865665307 : True := trivial
theorem PySem.W.Fast.tw17329741451101453173 : True := trivial
theorem PySem.W.Fast.tw9580217991682721503 : True := trivial
theorem PySem.W.Fast.tw6107654389780393970 : True := trivial
theorem PySem.W.Fast.tw4295487864842256859 : True := trivial
theorem PySem.W.Fast.tw13503708624012890552 : True := trivial
theorem PySem.W.Fast.tw18152654425576337817 : True := trivial
theorem PySem.W.Fast.tw16399622496713796265 : True := trivial
theorem PySem.W.Fast.tw12950094485598778046 : True := trivial
theorem PySem.W.Fast.tw16423220369805730394 : True := trivial
theorem PySem.W.Fast.tw11969128426861590863 : True := trivial
theorem PySem.W.Fast.tw15489794878029941918 : True := trivial
theorem PySem.W.Fast.tw17187844066862191151 : True := trivial
theorem PySem.W.Fast.tw17482224652417051691 : True := trivial
theorem PySem.W.Fast.tw9397523210457474292 : True := trivial
theorem PySem.W.Fast.tw9056159966691692439 : True := trivial
theorem PySem.W.Fast.tw8260870998103819644 : True := trivial
theorem PySem.W.Fast.tw246629825349604462 : True := trivial
theorem PySem.W.Fast.tw14491678443169735547 : True := trivial
theorem PySem.W.Fast.tw16308070796643252953 : True := trivial
theorem PySem.W.Fast.tw1811240732454734750 : True := trivial
theorem PySem.W.Fast.tw5970155241582037670 : True := trivial
theorem PySem.W.Fast.tw11965434588268872915 : True := trivial
theorem PySem.W.Fast.tw1707171250221798985 : True := trivial
theorem PySem.W.Fast.tw13468743586862294599 : True := trivial
theorem PySem.W.Fast.tw1369231515594520213 : True := trivial
theorem PySem.W.Fast.tw8488106469550300995 : True := trivial
theorem PySem.W.Fast.tw10156027393204048478 : True := trivial
theorem PySem.W.Fast.tw7919195905841831805 : True := trivial
theorem PySem.W.Fast.tw2950934712356683009 : True := trivial
theorem PySem.W.Fast.tw1714241972591724506 : True := trivial
theorem PySem.W.Fast.tw1363226766571528313 : True := trivial
theorem PySem.W.Fast.tw14836846381024948562 : True := trivial
theorem PySem.W.Fast.tw14898557036585363057 : True := trivial
theorem PySem.W.Fast.tw12548933552238373645 : True := trivial
theorem PySem.W.Fast.tw4069188224682144410 : True := trivial
theorem PySem.W.Fast.tw5942559855481351436 : True := trivial
theorem PySem.W.Fast.tw2903358622413970171 : True := trivial
theorem PySem.W.Fast.tw18245107960359056713 : True := trivial
theorem PySem.W.Fast.tw9724042064605772925 : True := trivial
theorem PySem.W.Fast.tw6058265451804651762 : True := trivial
theorem PySem.W.Fast.tw6300945075630870609 : True := trivial
theorem PySem.W.Fast.tw7511676885053520093 : True := trivial
theorem PySem.W.Fast.tw12608577105145699154 : True := trivial
theorem PySem.W.Fast.tw14503798714900404523 : True := trivial
theorem PySem.W.Fast.tw6474095013939552401 : True := trivial
theorem PySem.W.Fast.tw8692054963343861606 : True := trivial
theorem PySem.W.Fast.tw17130526259468896627 : True := trivial
theorem PySem.W.Fast.tw17542922931072731616 : True := trivial
theorem PySem.W.Fast.tw11083717930670062551 : True := trivial
theorem PySem.W.Fast.tw10181264467206982786 : True := trivial
theorem PySem.W.Fast.tw15137591402535448680 : True := trivial
theorem PySem.W.Fast.tw1320982198606534963 : True := trivial
theorem PySem.W.Fast.tw15820207785674189317 : True := trivial
theorem PySem.W.Fast.tw12727426639904974105 : True := trivial
theorem PySem.W.Fast.tw8449715630342919090 : True := trivial
theorem PySem.W.Fast.tw1261613547469810747 : True := trivial
theorem PySem.W.Fast.tw14620140806443664537 : True := trivial
theorem PySem.W.Fast.tw5005616673809124999 : True := trivial
theorem PySem.W.Fast.tw5550955815431763425 : True := trivial
theorem PySem.W.Fast.tw15813563709780078934 : True := trivial
theorem PySem.W.Fast.tw15588082725326003412 : True := trivial
theorem PySem.W.Fast.tw4102183337001355242 : True := trivial
theorem PySem.W.Fast.tw8039428367231200015 : True := trivial
theorem PySem.W.Fast.tw8233597676043028135 : True := trivial
theorem PySem.W.Fast.tw10648916574410797852 : True := trivial
theorem PySem.W.Fast.tw14738385074580263685 : True := trivial
theorem PySem.W.Fast.tw3757735320997052114 : True := trivial
theorem PySem.W.Fast.tw3023411186624471836 : True := trivial
theorem PySem.W.Fast.tw3587318362234037190 : True := trivial
theorem PySem.W.Fast.tw1341050756275278790 : True := trivial
theorem PySem.W.Fast.tw14538886831604265141 : True := trivial
theorem PySem.W.Fast.tw6184048846437021274 : True := trivial
theorem PySem.W.Fast.tw2366885715919796181 : True := trivial
theorem PySem.W.Fast.tw2326192195073538917 : True := trivial
theorem PySem.W.Fast.tw9137221552319108416 : True := trivial
theorem PySem.W.Fast.tw11783233321000351144 : True := trivial
theorem PySem.W.Fast.tw11788315081816576455 : True := trivial
theorem PySem.W.Fast.tw9182503795391143929 : True := trivial
theorem PySem.W.Fast.tw7260256538016590120 : True := trivial
theorem PySem.W.Fast.tw5589418163687038744 : True := trivial
theorem PySem.W.Fast.tw13067978488707930661 : True := trivial
theorem PySem.W.Fast.tw17717321202609451338 : True := trivial
theorem PySem.W.Fast.tw14675322780270189736 : True := trivial
theorem PySem.W.Fast.tw15652287634467725610 : True := trivial
theorem PySem.W.Fast.tw9655746337840157573 : True := trivial
theorem PySem.W.Fast.tw10678918458154277450 : True := trivial
theorem PySem.W.Fast.tw3155914555450512580 : True := trivial
theorem PySem.W.Fast.tw15533575540194907009 : True := trivial
theorem PySem.W.Fast.tw17133907585220360099 : True := trivial
theorem PySem.W.Fast.tw15832893873642507556 : True := trivial
theorem PySem.W.Fast.tw3783934194937950144 : True := trivial
theorem PySem.W.Fast.tw1388671709748204597 : True := trivial
theorem PySem.W.Fast.tw10833896220312938196 : True := trivial
theorem PySem.W.Fast.tw766760830823204526 : True := trivial
theorem PySem.W.Fast.tw6142526912938703151 : True := trivial
theorem PySem.W.Fast.tw14177408884819581116 : True := trivial
theorem PySem.W.Fast.tw3356797517585761323 : True := trivial
theorem PySem.W.Fast.tw7663654164025910817 : True := trivial
theorem PySem.W.Fast.tw5248290202046816682 : True := trivial
theorem PySem.W.Fast.tw6874877334459575681 : True := trivial
theorem PySem.W.Fast.tw11106871478770260054 : True := trivial
theorem PySem.W.Fast.tw4093721929955184949 : True := trivial
theorem PySem.W.Fast.tw14574250163288598691 : True := trivial
theorem PySem.W.Fast.tw17082635580110250808 : True := trivial
theorem PySem.W.Fast.tw330361226138025004 : True := trivial
theorem PySem.W.Fast.tw2425280614705811525 : True := trivial
theorem PySem.W.Fast.tw6559795772074200782 : True := trivial
theorem PySem.W.Fast.tw8303260244791516208 : True := trivial
theorem PySem.W.Fast.tw14863503419834250696 : True := trivial
theorem PySem.W.Fast.tw7353459429171759636 : True := trivial
theorem PySem.W.Fast.tw4541908630239845705 : True := trivial
theorem PySem.W.Fast.tw10675119364858002133 : True := trivial
theorem PySem.W.Fast.tw15576481040806128954 : True := trivial
theorem PySem.W.Fast.tw15884921626841581604 : True := trivial
theorem PySem.W.Fast.tw14441727534157186671 : True := trivial
theorem PySem.W.Fast.tw10769722898394680880 : True := trivial
theorem PySem.W.Fast.tw18334700857675435402 : True := trivial
theorem PySem.W.Fast.tw13821516980730838666 : True := trivial
theorem PySem.W.Fast.tw17486668310726191080 : True := trivial
theorem PySem.W.Fast.tw10703576342271630786 : True := trivial
theorem PySem.W.Fast.tw8323982785015120547 : True := trivial
theorem PySem.W.Fast.tw5721849401939390403 : True := trivial
theorem PySem.W.Fast.tw18252390763677339786 : True := trivial
theorem PySem.W.Fast.tw2639239493261698850 : True := trivial
theorem PySem.W.Fast.tw15843298856429611688 : True := trivial
theorem PySem.W.Fast.tw9824945934149313200 : True := trivial
theorem PySem.W.Fast.tw16172584851351662708 : True := trivial
theorem PySem.W.Fast.tw10213692319908541195 : True := trivial
theorem PySem.W.Fast.tw111045662406075499 : True := trivial
theorem PySem.W.Fast.tw1860530451592858525 : True := trivial
theorem PySem.W.Fast.tw13932586163159384334 : True := trivial
theorem PySem.W.Fast.tw7376029292079592739 : True := trivial
theorem PySem.W.Fast.tw12899973022023708437 : True := trivial
theorem PySem.W.Fast.tw16998896791502893448 : True := trivial
theorem PySem.W.Fast.tw3644839702225816659 : True := trivial
theorem PySem.W.Fast.tw15285861180670414960 : True := trivial
theorem PySem.W.Fast.tw12186472965692065882 : True := trivial
theorem PySem.W.Fast.tw17903083535150046008 : True := trivial
theorem PySem.W.Fast.tw8879909553637502595 : True := trivial
theorem PySem.W.Fast.tw10807263621913597825 : True := trivial
theorem PySem.W.Fast.tw14540160344503636278 : True := trivial
theorem PySem.W.Fast.tw1608256880900096562 : True := trivial
theorem PySem.W.Fast.tw13914689661260955070 : True := trivial
theorem PySem.W.Fast.tw850374461273910929 : True := trivial
theorem PySem.W.Fast.tw1710942968666340100 : True := trivial
theorem PySem.W.Fast.tw3222671542145407535 : True := trivial
theorem PySem.W.Fast.tw956626701625139029 : True := trivial
theorem PySem.W.Fast.tw1259284792472720028 : True := trivial
theorem PySem.W.Fast.tw17865930066076589242 : True := trivial
theorem PySem.W.Fast.tw1433075600300608652 : True := trivial
theorem PySem.W.Fast.tw17237243276290752801 : True := trivial
theorem PySem.W.Fast.tw3372158520434707317 : True := trivial
theorem PySem.W.Fast.tw17551131780688357018 : True := trivial
theorem PySem.W.Fast.tw8602364669997490522 : True := trivial
theorem PySem.W.Fast.tw16055359132595027337 : True := trivial
theorem PySem.W.Fast.tw12914520048423285298 : True := trivial
theorem PySem.W.Fast.tw1145307386378422025 : True := trivial
theorem PySem.W.Fast.tw8883770488657904305 : True := trivial
theorem PySem.W.Fast.tw5021762472551931736 : True := trivial
theorem PySem.W.Fast.tw16701383981913688585 : True := trivial
theorem PySem.W.Fast.tw5886764133870660894 : True := trivial
theorem PySem.W.Fast.tw8265089384810100668 : True := trivial
theorem PySem.W.Fast.tw738957210596469357 : True := trivial
theorem PySem.W.Fast.tw12343009279542628168 : True := trivial
theorem PySem.W.Fast.tw16351113582143279939 : True := trivial
theorem PySem.W.Fast.tw1043512724284110222 : True := trivial
theorem PySem.W.Fast.tw5367340294501729918 : True := trivial
theorem PySem.W.Fast.tw6944779183277151955 : True := trivial
theorem PySem.W.Fast.tw2747333335726761185 : True := trivial
theorem PySem.W.Fast.tw8762491658077947024 : True := trivial
theorem PySem.W.Fast.tw5545551653769417174 : True := trivial
theorem PySem.W.Fast.tw1574042709068133292 : True := trivial
theorem PySem.W.Fast.tw3878509695737994852 : True := trivial
theorem PySem.W.Fast.tw7044996289990560775 : True := trivial
theorem PySem.W.Fast.tw12520876255872682945 : True := trivial
theorem PySem.W.Fast.tw2591266643057579498 : True := trivial
theorem PySem.W.Fast.tw9493147579816747333 : True := trivial
theorem PySem.W.Fast.tw15470193145315245115 : True := trivial
theorem PySem.W.Fast.tw2918364430389922957 : True := trivial
theorem PySem.W.Fast.tw15941587727557147127 : True := trivial
theorem PySem.W.Fast.tw16107223568324445274 : True := trivial
theorem PySem.W.Fast.tw18382490412961427366 : True := trivial
theorem PySem.W.Fast.tw7782801954773105123 : True := trivial
theorem PySem.W.Fast.tw10637984406318902390 : True := trivial
theorem PySem.W.Fast.tw6046910505666159897 : True := trivial
theorem PySem.W.Fast.tw14487056699484611160 : True := trivial
theorem PySem.W.Fast.tw10102477214634566880 : True := trivial
theorem PySem.W.Fast.tw15526185595471289595 : True := trivial
theorem PySem.W.Fast.tw3581232819464718168 : True := trivial
theorem PySem.W.Fast.tw10145862369669416429 : True := trivial
theorem PySem.W.Fast.tw16918829553035342216 : True := trivial
theorem PySem.W.Fast.tw6443608120691380574 : True := trivial
theorem PySem.W.Fast.tw15576163303274418530 : True := trivial
theorem PySem.W.Fast.tw3795224425361879201 : True := trivial
theorem PySem.W.Fast.tw6497729347575558110 : True := trivial
theorem PySem.W.Fast.tw1858728535617695608 : True := trivial
theorem PySem.W.Fast.tw310121246051518264 : True := trivial
theorem PySem.W.Fast.tw18366606367530382112 : True := trivial
theorem PySem.W.Fast.tw12174256708521713299 : True := trivial
theorem PySem.W.Fast.tw3807877247406939539 : True := trivial
theorem PySem.W.Fast.tw7335632635187352395 : True := trivial
theorem PySem.W.Fast.tw11866877957982933258 : True := trivial
theorem PySem.W.Fast.tw17394396944188919929 : True := trivial
theorem PySem.W.Fast.tw1561446707311513502 : True := trivial
theorem PySem.W.Fast.tw13037265468733021694 : True := trivial
theorem PySem.W.Fast.tw14488199045578174415 : True := trivial
theorem PySem.W.Fast.tw14103374017689619448 : True := trivial
theorem PySem.W.Fast.tw7257123772866783640 : True := trivial
theorem PySem.W.Fast.tw14123517816033633732 : True := trivial
theorem PySem.W.Fast.tw3062363916587586365 : True := trivial
theorem PySem.W.Fast.tw7313491144829640656 : True := trivial
theorem PySem.W.Fast.tw1090949660220143725 : True := trivial
theorem PySem.W.Fast.tw16598240494455362074 : True := trivial
theorem PySem.W.Fast.tw3929742459731415545 : True := trivial
theorem PySem.W.Fast.tw4810374525736135891 : True := trivial
theorem PySem.W.Fast.tw8922773678959185341 : True := trivial
theorem PySem.W.Fast.tw2306107099067191196 : True := trivial
theorem PySem.W.Fast.tw3874651795160512747 : True := trivial
theorem PySem.W.Fast.tw17769519740442067214 : True := trivial
theorem PySem.W.Fast.tw16250008930055091166 : True := trivial
theorem PySem.W.Fast.tw14482832916860154858 : True := trivial
theorem PySem.W.Fast.tw6166175666719528885 : True := trivial
theorem PySem.W.Fast.tw11034164386653729491 : True := trivial
theorem PySem.W.Fast.tw15316997919255228007 : True := trivial
theorem PySem.W.Fast.tw2305480764206281335 : True := trivial
theorem PySem.W.Fast.tw5894802673077137009 : True := trivial
theorem PySem.W.Fast.tw5216087004040510368 : True := trivial
theorem PySem.W.Fast.tw7993809962680310626 : True := trivial
theorem PySem.W.Fast.tw10211713436402837587 : True := trivial
theorem PySem.W.Fast.tw570024535086816014 : True := trivial
theorem PySem.W.Fast.tw11280703507537032517 : True := trivial
theorem PySem.W.Fast.tw11801466304100899322 : True := trivial
theorem PySem.W.Fast.tw1026408261463533371 : True := trivial
theorem PySem.W.Fast.tw13692947075343637582 : True := trivial
theorem PySem.W.Fast.tw4943076717131754163 : True := trivial
theorem PySem.W.Fast.tw2102099577988703990 : True := trivial
theorem PySem.W.Fast.tw2388468486158730472 : True := trivial
theorem PySem.W.Fast.tw5756177887291611720 : True := trivial
theorem PySem.W.Fast.tw10037828566416582354 : True := trivial
theorem PySem.W.Fast.tw10041396914843557729 : True := trivial
theorem PySem.W.Fast.tw5779643202257601585 : True := trivial
theorem PySem.W.Fast.tw1246482857954619764 : True := trivial
theorem PySem.W.Fast.tw5161185368518941400 : True := trivial
theorem PySem.W.Fast.tw7429417204256341205 : True := trivial
theorem PySem.W.Fast.tw13786506409774562879 : True := trivial
theorem PySem.W.Fast.tw343439285703671975 : True := trivial
theorem PySem.W.Fast.tw9973455784474164297 : True := trivial
theorem PySem.W.Fast.tw4215273742257166762 : True := trivial
theorem PySem.W.Fast.tw13603350459772898376 : True := trivial
theorem PySem.W.Fast.tw6605156681201197592 : True := trivial
theorem PySem.W.Fast.tw957030838792440441 : True := trivial
theorem PySem.W.Fast.tw4061302867550697514 : True := trivial
theorem PySem.W.Fast.tw1470004016360875771 : True := trivial
theorem PySem.W.Fast.tw2919406163697768351 : True := trivial
theorem PySem.W.Fast.tw5829258248744978974 : True := trivial
theorem PySem.W.Fast.tw9747878432720391813 : True := trivial
theorem PySem.W.Fast.tw17165444476126066187 : True := trivial
theorem PySem.W.Fast.tw3079528898998122429 : True := trivial
theorem PySem.W.Fast.tw3017741456795931651 : True := trivial
theorem PySem.W.Fast.tw17676979028456136649 : True := trivial
theorem PySem.W.Fast.tw2731990161045746255 : True := trivial
theorem PySem.W.Fast.tw17628129798358119676 : True := trivial
theorem PySem.W.Fast.tw15071683931007623840 : True := trivial
theorem PySem.W.Fast.tw886254695506685010 : True := trivial
theorem PySem.W.Fast.tw10518784955965412478 : True := trivial
theorem PySem.W.Fast.tw10145346586590364708 : True := trivial
theorem PySem.W.Fast.tw15744996659507194127 : True := trivial
theorem PySem.W.Fast.tw3429118365941717728 : True := trivial
theorem PySem.W.Fast.tw11648661504519178392 : True := trivial
theorem PySem.W.Fast.tw5923625769270657003 : True := trivial
theorem PySem.W.Fast.tw14736190414441115774 : True := trivial
theorem PySem.W.Fast.tw5941933928484066436 : True := trivial
theorem PySem.W.Fast.tw17832604549717393132 : True := trivial
theorem PySem.W.Fast.tw15531592387261924852 : True := trivial
theorem PySem.W.Fast.tw8908567727291659717 : True := trivial
theorem PySem.W.Fast.tw9652428602853564244 : True := trivial
theorem PySem.W.Fast.tw1027000418705288590 : True := trivial
theorem PySem.W.Fast.tw11811422065288765315 : True := trivial
theorem PySem.W.Fast.tw4679880466028853675 : True := trivial
theorem PySem.W.Fast.tw9025474769180538878 : True := trivial
theorem PySem.W.Fast.tw15409534781518556085 : True := trivial
theorem PySem.W.Fast.tw17745191170092046838 : True := trivial
theorem PySem.W.Fast.tw15253252783481282140 : True := trivial
theorem PySem.W.Fast.tw1496127183775421485 : True := trivial
theorem PySem.W.Fast.tw10186328999663224140 : True := trivial
theorem PySem.W.Fast.tw15572098682131788129 : True := trivial
theorem PySem.W.Fast.tw8106343027443859647 : True := trivial
theorem PySem.W.Fast.tw7736316857787225552 : True := trivial
theorem PySem.W.Fast.tw11808507076084060373 : True := trivial
theorem PySem.W.Fast.tw10655910107280386642 : True := trivial
theorem PySem.W.Fast.tw17287804454671338068 : True := trivial
theorem PySem.W.Fast.tw7779612131004435142 : True := trivial
theorem PySem.W.Fast.tw14502080345805663975 : True := trivial
theorem PySem.W.Fast.tw11787480254737541994 : True := trivial
theorem PySem.W.Fast.tw14766956874371505321 : True := trivial
theorem PySem.W.Fast.tw739309471186284078 : True := trivial
theorem PySem.W.Fast.tw9207412233389131597 : True := trivial
theorem PySem.W.Fast.tw13899043186479515399 : True := trivial
theorem PySem.W.Fast.tw14815037019666839586 : True := trivial
theorem PySem.W.Fast.tw10709523569986119618 : True := trivial
theorem PySem.W.Fast.tw16079351780594608838 : True := trivial
theorem PySem.W.Fast.tw4751373894246516418 : True := trivial
theorem PySem.W.Fast.tw15875907756536464930 : True := trivial
theorem PySem.W.Fast.tw9200764666402846034 : True := trivial
theorem PySem.W.Fast.tw8436865968082326604 : True := trivial
theorem PySem.W.Fast.tw15447276158893405496 : True := trivial
theorem PySem.W.Fast.tw10199844146157927943 : True := trivial
theorem PySem.W.Fast.tw1814706444450596706 : True := trivial
theorem PySem.W.Fast.tw12555172884900120988 : True := trivial
theorem PySem.W.Fast.tw16361664820335832533 : True := trivial
theorem PySem.W.Fast.tw3434829874221495480 : True := trivial
theorem PySem.W.Fast.tw14058013411449227697 : True := trivial
theorem PySem.W.Fast.tw9559766056725526778 : True := trivial
theorem PySem.W.Fast.tw1755088521129044218 : True := trivial
theorem PySem.W.Fast.tw15562684619558190653 : True := trivial
theorem PySem.W.Fast.tw2125389254274878040 : True := trivial
theorem PySem.W.Fast.tw10950866444328484983 : True := trivial
theorem PySem.W.Fast.tw16966787417640875070 : True := trivial
theorem PySem.W.Fast.tw14716015532116398339 : True := trivial
theorem PySem.W.Fast.tw3038927845005122147 : True := trivial
theorem PySem.W.Fast.tw4837308650645728561 : True := trivial
theorem PySem.W.Fast.tw10905078197314146916 : True := trivial
theorem PySem.W.Fast.tw5442259585051703355 : True := trivial
theorem PySem.W.Fast.tw15479977768058884290 : True := trivial
theorem PySem.W.Fast.tw7533386758505433816 : True := trivial
theorem PySem.W.Fast.tw14421608760771365305 : True := trivial
theorem PySem.W.Fast.tw9713683626917897450 : True := trivial
theorem PySem.W.Fast.tw243004188420739335 : True := trivial
theorem PySem.W.Fast.tw14962763557729937895 : True := trivial
theorem PySem.W.Fast.tw2384537936308977155 : True := trivial
theorem PySem.W.Fast.tw6706339315626243354 : True := trivial
theorem PySem.W.Fast.tw723057297953228194 : True := trivial
theorem PySem.W.Fast.tw8190895496866931430 : True := trivial
theorem PySem.W.Fast.tw18339558539355441179 : True := trivial
theorem PySem.W.Fast.tw13259850812206843697 : True := trivial
theorem PySem.W.Fast.tw14050535250519918176 : True := trivial
theorem PySem.W.Fast.tw1951279845584326910 : True := trivial
theorem PySem.W.Fast.tw6289780997372685505 : True := trivial
theorem PySem.W.Fast.tw11597487955947308420 : True := trivial
theorem PySem.W.Fast.tw12064187283891625774 : True := trivial
theorem PySem.W.Fast.tw12721075398922532361 : True := trivial
theorem PySem.W.Fast.tw13697037737850426002 : True := trivial
theorem PySem.W.Fast.tw17868701143259860483 : True := trivial
theorem PySem.W.Fast.tw17669232241143183497 : True := trivial
theorem PySem.W.Fast.tw2130017468786850507 : True := trivial
theorem PySem.W.Fast.tw11409973916325109088 : True := trivial
theorem PySem.W.Fast.tw1182165805780446300 : True := trivial
theorem PySem.W.Fast.tw460964836714760615 : True := trivial
theorem PySem.W.Fast.tw103232119113117052 : True := trivial
theorem PySem.W.Fast.tw17396099210534649426 : True := trivial
theorem PySem.W.Fast.tw12352082839688927288 : True := trivial
theorem PySem.W.Fast.tw14299794700007526948 : True := trivial
theorem PySem.W.Fast.tw805125870420305949 : True := trivial
theorem PySem.W.Fast.tw7812267698937627718 : True := trivial
theorem PySem.W.Fast.tw646093732890958588 : True := trivial
theorem PySem.W.Fast.tw15233726534619242689 : True := trivial
theorem PySem.W.Fast.tw13292990932244357309 : True := trivial
theorem PySem.W.Fast.tw9278105067313101459 : True := trivial
theorem PySem.W.Fast.tw14264607337156419096 : True := trivial
theorem PySem.W.Fast.tw6027233733945068673 : True := trivial
theorem PySem.W.Fast.tw9005101652008785952 : True := trivial
theorem PySem.W.Fast.tw17718144963943326684 : True := trivial
theorem PySem.W.Fast.tw3343210783285078582 : True := trivial
theorem PySem.W.Fast.tw7996198041987072159 : True := trivial
theorem PySem.W.Fast.tw9908761014371535861 : True := trivial
theorem PySem.W.Fast.tw11998990152610321279 : True := trivial
theorem PySem.W.Fast.tw4048836112829805109 : True := trivial
theorem PySem.W.Fast.tw17266182707748771703 : True := trivial
theorem PySem.W.Fast.tw8120090594612324864 : True := trivial
theorem PySem.W.Fast.tw8326601784752625197 : True := trivial
theorem PySem.W.Fast.tw13539994403558158491 : True := trivial
theorem PySem.W.Fast.tw9678612240637718929 : True := trivial
theorem PySem.W.Fast.tw1143509024966028434 : True := trivial
theorem PySem.W.Fast.tw1785538729168139774 : True := trivial
theorem PySem.W.Fast.tw16405369223781414825 : True := trivial
theorem PySem.W.Fast.tw12428142478873619312 : True := trivial
theorem PySem.W.Fast.tw13910650285539617275 : True := trivial
theorem PySem.W.Fast.tw18076254736974422935 : True := trivial
theorem PySem.W.Fast.tw14599416749686244827 : True := trivial
theorem PySem.W.Fast.tw9738797112565190478 : True := trivial
theorem PySem.W.Fast.tw2167559530413955370 : True := trivial
theorem PySem.W.Fast.tw18068381076364490079 : True := trivial
theorem PySem.W.Fast.tw243986075931951918 : True := trivial
theorem PySem.W.Fast.tw6969180966870272662 : True := trivial
theorem PySem.W.Fast.tw12367677911154930665 : True := trivial
theorem PySem.W.Fast.tw6844165263613778473 : True := trivial
theorem PySem.W.Fast.tw10825612932116173268 : True := trivial
theorem PySem.W.Fast.tw2752819596735694052 : True := trivial
theorem PySem.W.Fast.tw1780663437972124414 : True := trivial
theorem PySem.W.Fast.tw6282846304359501898 : True := trivial
theorem PySem.W.Fast.tw6078153352583977528 : True := trivial
theorem PySem.W.Fast.tw13711331350565766929 : True := trivial
theorem PySem.W.Fast.tw4227602191227789076 : True := trivial
theorem PySem.W.Fast.tw5105164031531104099 : True := trivial
theorem PySem.W.Fast.tw8910857033247451764 : True := trivial
theorem PySem.W.Fast.tw5967497061753933694 : True := trivial
theorem PySem.W.Fast.tw4403068150056329628 : True := trivial
theorem PySem.W.Fast.tw5246939819739774182 : True := trivial
theorem PySem.W.Fast.tw14568006625084943441 : True := trivial
theorem PySem.W.Fast.tw2345750701763202785 : True := trivial
theorem PySem.W.Fast.tw15931680763115212664 : True := trivial
theorem PySem.W.Fast.tw3422787736436687519 : True := trivial
theorem PySem.W.Fast.tw18113543309816030047 : True := trivial
theorem PySem.W.Fast.tw14682351755020350860 : True := trivial
theorem PySem.W.Fast.tw6522977580333159106 : True := trivial
theorem PySem.W.Fast.tw18115656894958732202 : True := trivial
theorem PySem.W.Fast.tw12690852706142398047 : True := trivial
theorem PySem.W.Fast.tw11060932894721152410 : True := trivial
theorem PySem.W.Fast.tw17630041424826119593 : True := trivial
theorem PySem.W.Fast.tw13287339926046747515 : True := trivial
theorem PySem.W.Fast.tw4598059662631152140 : True := trivial
theorem PySem.W.Fast.tw2021006676940217778 : True := trivial
theorem PySem.W.Fast.tw6826573747610887822 : True := trivial
theorem PySem.W.Fast.tw179245288271656457 : True := trivial
theorem PySem.W.Fast.tw9588682271689839111 : True := trivial
theorem PySem.W.Fast.tw7167884967735817657 : True := trivial
theorem PySem.W.Fast.tw9708143999740822421 : True := trivial
theorem PySem.W.Fast.tw73387736070750274 : True := trivial
theorem PySem.W.Fast.tw14628792049396665795 : True := trivial
theorem PySem.W.Fast.tw7636077099213772941 : True := trivial
theorem PySem.W.Fast.tw6062472978948621544 : True := trivial
theorem PySem.W.Fast.tw10157593615230564694 : True := trivial
theorem PySem.W.Fast.tw3922731366208347230 : True := trivial
theorem PySem.W.Fast.tw16123488239113955588 : True := trivial
theorem PySem.W.Fast.tw5058268084174986771 : True := trivial
theorem PySem.W.Fast.tw3824259167521961059 : True := trivial
theorem PySem.W.Fast.tw7836286111196129322 : True := trivial
theorem PySem.W.Fast.tw555276090613168762 : True := trivial
theorem PySem.W.Fast.tw5179071956645327128 : True := trivial
theorem PySem.W.Fast.tw7900477635267267768 : True := trivial
theorem PySem.W.Fast.tw2876461033998492495 : True := trivial
theorem PySem.W.Fast.tw4916395176359870251 : True := trivial
theorem PySem.W.Fast.tw1298043676809566853 : True := trivial
theorem PySem.W.Fast.tw6468300771825208772 : True := trivial
theorem PySem.W.Fast.tw7851896350803597475 : True := trivial
theorem PySem.W.Fast.tw12303172244960682786 : True := trivial
theorem PySem.W.Fast.tw16668819484565061012 : True := trivial
theorem PySem.W.Fast.tw17544219016362919961 : True := trivial
theorem PySem.W.Fast.tw3677531722256434727 : True := trivial
theorem PySem.W.Fast.tw12481960637133773710 : True := trivial
theorem PySem.W.Fast.tw4472655727481220092 : True := trivial
theorem PySem.W.Fast.tw15773818908027243463 : True := trivial
theorem PySem.W.Fast.tw1506350581737797268 : True := trivial
theorem PySem.W.Fast.tw11537508552498038625 : True := trivial
theorem PySem.W.Fast.tw14172056317244987849 : True := trivial
theorem PySem.W.Fast.tw18254338494874196621 : True := trivial
theorem PySem.W.Fast.tw18078021793334026603 : True := trivial
theorem PySem.W.Fast.tw15137617227103268226 : True := trivial
theorem PySem.W.Fast.tw13368930695979975945 : True := trivial
set_option maxHeartbeats 0 in
theorem PySem.Challenge.cw_anchoredits_k13_errors_and_limits_holds : PySem.Challenge.rw_anchoredits_k13_errors_and_limits.Holds := by
  w_on; o_law; k_head; (case hw => w_witness2)
  k_fill
  refine AB.walk_tab (l := PySem.Challenge.rw_anchoredits_k13_errors_and_limits) (n := 63) (k := 4) (x := "_law_script") rfl (by decide) (Nat.le_refl _) rfl ⟨rfl, by decide, by decide⟩ (by decide +kernel) (fun w h Y => ⟨PySem.W.kIn_of Y, fun t ht => absurd ht (List.not_mem_nil (a := t))⟩) ?F
  case F =>
    intro w mg fa h KX G hmg
    refine' Law.all_mk KX G hmg ?a0 ?l0 ?c0 ?k0 ?a1 ?l1 ?c1 ?k1 ?a2 ?l2 ?c2 ?k2 ?a3 ?l3 ?c3 ?k3 ?a4 ?l4 ?c4 ?k4 ?a5 ?l5 ?c5 ?k5 ?a6 ?l6 ?c6 ?k6 ?a7 ?l7 ?c7 ?k7 ?a8 ?l8 ?c8 ?k8 ?gl0 ?gl1 ?gl2 ?gl3 ?gl4 ?gl5 ?gl6 ?gl7 ?gl8 ?z0 ?z1 ?z2 ?z3 ?z4 ?z5 ?z6 ?z7 ?z8 ?z9 ?z10 ?z11 ?z12 ?xs ?xo ?xn ?e0a ?e0b ?e0c ?e0d0 ?e0e ?e0f ?e0g ?e0h ?e0i ?e0j ?e0k ?e0l ?e0m ?e0n ?e0x ?e1a ?e1b ?e1c ?e1d0 ?e1e ?e1f ?e1g ?e1h ?e1i ?e1j ?e1k ?e1l ?e1m ?e1n ?e1x ?e2a ?e2b ?e2c ?e2d0 ?e2d1 ?e2e ?e2f ?e2g ?e2h ?e2i ?e2j ?e2k ?e2l ?e2m ?e2n ?e2x ?e3a ?e3b ?e3c ?e3d0 ?e3d1 ?e3e ?e3f ?e3g ?e3h ?e3i ?e3j ?e3k ?e3l ?e3m ?e3n ?e3x ?e4a ?e4b ?e4c ?e4d0 ?e4e ?e4f ?e4g ?e4h ?e4i ?e4j ?e4k ?e4l ?e4m ?e4n ?e4x ?e5a ?e5b ?e5c ?e5d0 ?e5e ?e5f ?e5g ?e5h ?e5i ?e5j ?e5k ?e5l ?e5m ?e5n ?e5x ?e6a ?e6b ?e6c ?e6d0 ?e6e ?e6f ?e6g ?e6h ?e6i ?e6j ?e6k ?e6l ?e6m ?e6n ?e6x ?e7a ?e7b ?e7c ?e7d0 ?e7e ?e7f ?e7g ?e7h ?e7i ?e7j ?e7k ?e7l ?e7m ?e7n ?e7x ?e8a ?e8b ?e8c ?e8d0 ?e8e ?e8f ?e8g ?e8h ?e8i ?e8j ?e8k ?e8l ?e8m ?e8n ?e8x ?e9a ?e9b ?e9c ?e9d0 ?e9e ?e9f ?e9g ?e9h ?e9i ?e9j ?e9k ?e9l ?e9m ?e9n ?e9x ?e10a ?e10b ?e10c ?e10d0 ?e10e ?e10f ?e10g ?e10h ?e10i ?e10j ?e10k ?e10l ?e10m ?e10n ?e10x ?e11a ?e11b ?e11c ?e11d0 ?e11e ?e11f ?e11g ?e11h ?e11i ?e11j ?e11k ?e11l ?e11m ?e11n ?e11x ?e12a ?e12b ?e12c ?e12d0 ?e12e ?e12f ?e12g ?e12h ?e12i ?e12j ?e12k ?e12l ?e12m ?e12n ?e12x ?e13a ?e13b ?e13c ?e13d0 ?e13e ?e13f ?e13g ?e13h ?e13i ?e13j ?e13k ?e13l ?e13m ?e13n ?e13x ?e14a ?e14b ?e14c ?e14d0 ?e14e ?e14f ?e14g ?e14h ?e14i ?e14j ?e14k ?e14l ?e14m ?e14n ?e14x ?e15a ?e15b ?e15c ?e15d0 ?e15e ?e15f ?e15g ?e15h ?e15i ?e15j ?e15k ?e15l ?e15m ?e15n ?e15x ?e16a ?e16b ?e16c ?e16d0 ?e16e ?e16f ?e16g ?e16h ?e16i ?e16j ?e16k ?e16l ?e16m ?e16n ?e16x ?e17a ?e17b ?e17c ?e17d0 ?e17e ?e17f ?e17g ?e17h ?e17i ?e17j ?e17k ?e17l ?e17m ?e17n ?e17x ?e18a ?e18b ?e18c ?e18d0 ?e18e ?e18f ?e18g ?e18h ?e18i ?e18j ?e18k ?e18l ?e18m ?e18n ?e18x ?e19a ?e19b ?e19c ?e19d0 ?e19e ?e19f ?e19g ?e19h ?e19i ?e19j ?e19k ?e19l ?e19m ?e19n ?e19x ?e20a ?e20b ?e20c ?e20d0 ?e20e ?e20f ?e20g ?e20h ?e20i ?e20j ?e20k ?e20l ?e20m ?e20n ?e20x ?e21a ?e21b ?e21c ?e21d0 ?e21e ?e21f ?e21g ?e21h ?e21i ?e21j ?e21k ?e21l ?e21m ?e21n ?e21x ?e22a ?e22b ?e22c ?e22d0 ?e22e ?e22f ?e22g ?e22h ?e22i ?e22j ?e22k ?e22l ?e22m ?e22n ?e22x ?e23a ?e23b ?e23c ?e23d0 ?e23e ?e23f ?e23g ?e23h ?e23i ?e23j ?e23k ?e23l ?e23m ?e23n ?e23x ?e24a ?e24b ?e24c ?e24d0 ?e24d1 ?e24e ?e24f ?e24g ?e24h ?e24i ?e24j ?e24k ?e24l ?e24m ?e24n ?e24x ?e25a ?e25b ?e25c ?e25d0 ?e25e ?e25f ?e25g ?e25h ?e25i ?e25j ?e25k ?e25l ?e25m ?e25n ?e25x ?e26a ?e26b ?e26c ?e26d0 ?e26e ?e26f ?e26g ?e26h ?e26i ?e26j ?e26k ?e26l ?e26m ?e26n ?e26x ?e27a ?e27b ?e27c ?e27d0 ?e27e ?e27f ?e27g ?e27h ?e27i ?e27j ?e27k ?e27l ?e27m ?e27n ?e27x ?e28a ?e28b ?e28c ?e28d0 ?e28e ?e28f ?e28g ?e28h ?e28i ?e28j ?e28k ?e28l ?e28m ?e28n ?e28x ?e29a ?e29b ?e29c ?e29d0 ?e29e ?e29f ?e29g ?e29h ?e29i ?e29j ?e29k ?e29l ?e29m ?e29n ?e29x ?e30a ?e30b ?e30c ?e30d0 ?e30e ?e30f ?e30g ?e30h ?e30i ?e30j ?e30k ?e30l ?e30m ?e30n ?e30x ?e31a ?e31x ?e32a ?e32b ?e32c ?e32d0 ?e32e ?e32f ?e32g ?e32h ?e32i ?e32j ?e32k ?e32l ?e32m ?e32n ?e32x ?e33a ?e33b ?e33c ?e33d0 ?e33d1 ?e33e ?e33f ?e33g ?e33h ?e33i ?e33j ?e33k ?e33l ?e33m ?e33n ?e33x ?yf0 ?yf1 ?yf2 ?yf3 ?yf4 ?yf5 ?yf6 ?yf7 ?yf8 ?yf9 ?yf10 ?yf11 ?yf12 ?yf13 ?yf14 ?yf15 ?yf16 ?yf17 ?yf18 ?yf19 ?yf20 ?yf21 ?yf22 ?yf23 ?yf24 ?yf25 ?yf26 ?yf27 ?yf28 ?yf29 ?yf30 ?yf31 ?yf32 ?yf33 ?yf34 ?yf35 ?yf36 ?xo_Unlike ?xk_Unlike ?eb
    (case a0 => k_is); (case l0 => k_is); (case c0 => k_is); (case k0 => k_is); (case a1 => k_is); (case l1 => k_is); (case c1 => k_is); (case k1 => k_is)
    (case a2 => k_is); (case l2 => k_is); (case c2 => k_is); (case k2 => k_is); (case a3 => k_is); (case l3 => k_is); (case c3 => k_is); (case k3 => k_is)
    (case a4 => k_is); (case l4 => k_is); (case c4 => k_is); (case k4 => k_is); (case a5 => k_is); (case l5 => k_is); (case c5 => k_is); (case k5 => k_is)
    (case a6 => k_is); (case l6 => k_is); (case c6 => k_is); (case k6 => k_is); (case a7 => k_is); (case l7 => k_is); (case c7 => k_is); (case k7 => k_is)
    (case a8 => k_is); (case l8 => k_is); (case c8 => k_is); (case k8 => k_is); (case gl0 => k_is); (case gl1 => k_is); (case gl2 => k_is); (case gl3 => k_is)
    (case gl4 => k_is); (case gl5 => k_is); (case gl6 => k_is); (case gl7 => k_is); (case gl8 => k_is); (case z0 => k_is); (case z1 => k_is); (case z2 => k_is)
    (case z3 => k_is); (case z4 => k_is); (case z5 => k_is); (case z6 => k_is); (case z7 => k_is); (case z8 => k_is); (case z9 => k_is); (case z10 => k_is)
    (case z11 => k_is); (case z12 => k_is); (case xs => k_is); (case xo => k_is); (case xn => kernel_rfl); (case e0a => k_is); (case e0b => k_is); (case e0c => k_is)
    (case e0d0 => k_is); (case e0e => k_is); (case e0f => k_is); (case e0g => k_is); (case e0h => k_is); (case e0i => kernel_rfl); (case e0j => kernel_rfl); (case e0k => k_is)
    (case e0l => k_is); (case e0m => k_is); (case e0n => exact fun _ _ _ _ _ => ⟨_, rfl⟩); (case e0x => kernel_rfl); (case e1a => k_is); (case e1b => k_is); (case e1c => k_is); (case e1d0 => k_is)
    (case e1e => k_is); (case e1f => k_is); (case e1g => k_is); (case e1h => k_is); (case e1i => kernel_rfl); (case e1j => kernel_rfl); (case e1k => k_is); (case e1l => k_is)
    (case e1m => k_is); (case e1n => exact fun _ _ _ _ _ => ⟨_, rfl⟩); (case e1x => kernel_rfl); (case e2a => k_is); (case e2b => k_is); (case e2c => k_is); (case e2d0 => k_is); (case e2d1 => k_is)
    (case e2e => k_is); (case e2f => k_is); (case e2g => k_is); (case e2h => k_is); (case e2i => kernel_rfl); (case e2j => kernel_rfl); (case e2k => k_is); (case e2l => k_is)
    (case e2m => k_is); (case e2n => exact fun _ _ _ _ _ => ⟨_, rfl⟩); (case e2x => kernel_rfl); (case e3a => k_is); (case e3b => k_is); (case e3c => k_is); (case e3d0 => k_is); (case e3d1 => k_is)
    (case e3e => k_is); (case e3f => k_is); (case e3g => k_is); (case e3h => k_is); (case e3i => kernel_rfl); (case e3j => kernel_rfl); (case e3k => k_is); (case e3l => k_is)
    (case e3m => k_is); (case e3n => exact fun _ _ _ _ _ => ⟨_, rfl⟩); (case e3x => kernel_rfl); (case e4a => k_is); (case e4b => k_is); (case e4c => k_is); (case e4d0 => k_is); (case e4e => k_is)
    (case e4f => k_is); (case e4g => k_is); (case e4h => k_is); (case e4i => kernel_rfl); (case e4j => kernel_rfl); (case e4k => k_is); (case e4l => k_is); (case e4m => k_is)
    (case e4n => exact fun _ _ _ _ _ => ⟨_, rfl⟩); (case e4x => kernel_rfl); (case e5a => k_is); (case e5b => k_is); (case e5c => k_is); (case e5d0 => k_is); (case e5e => k_is); (case e5f => k_is)
    (case e5g => k_is); (case e5h => k_is); (case e5i => kernel_rfl); (case e5j => kernel_rfl); (case e5k => k_is); (case e5l => k_is); (case e5m => k_is); (case e5n => exact fun _ _ _ _ _ => ⟨_, rfl⟩)
    (case e5x => kernel_rfl); (case e6a => k_is); (case e6b => k_is); (case e6c => k_is); (case e6d0 => k_is); (case e6e => k_is); (case e6f => k_is); (case e6g => k_is)
    (case e6h => k_is); (case e6i => kernel_rfl); (case e6j => kernel_rfl); (case e6k => k_is); (case e6l => k_is); (case e6m => k_is); (case e6n => exact fun _ _ _ _ _ => ⟨_, rfl⟩); (case e6x => kernel_rfl)
    (case e7a => k_is); (case e7b => k_is); (case e7c => k_is); (case e7d0 => k_is); (case e7e => k_is); (case e7f => k_is); (case e7g => k_is); (case e7h => k_is)
    (case e7i => kernel_rfl); (case e7j => kernel_rfl); (case e7k => k_is); (case e7l => k_is); (case e7m => k_is); (case e7n => exact fun _ _ _ _ _ => ⟨_, rfl⟩); (case e7x => kernel_rfl); (case e8a => k_is)
    (case e8b => k_is); (case e8c => k_is); (case e8d0 => k_is); (case e8e => k_is); (case e8f => k_is); (case e8g => k_is); (case e8h => k_is); (case e8i => kernel_rfl)
    (case e8j => kernel_rfl); (case e8k => k_is); (case e8l => k_is); (case e8m => k_is); (case e8n => exact fun _ _ _ _ _ => ⟨_, rfl⟩); (case e8x => kernel_rfl); (case e9a => k_is); (case e9b => k_is)
    (case e9c => k_is); (case e9d0 => k_is); (case e9e => k_is); (case e9f => k_is); (case e9g => k_is); (case e9h => k_is); (case e9i => kernel_rfl); (case e9j => kernel_rfl)
    (case e9k => k_is); (case e9l => k_is); (case e9m => k_is); (case e9n => exact fun _ _ _ _ _ => ⟨_, rfl⟩); (case e9x => kernel_rfl); (case e10a => k_is); (case e10b => k_is); (case e10c => k_is)
    (case e10d0 => k_is); (case e10e => k_is); (case e10f => k_is); (case e10g => k_is); (case e10h => k_is); (case e10i => kernel_rfl); (case e10j => kernel_rfl); (case e10k => k_is)
    (case e10l => k_is); (case e10m => k_is); (case e10n => exact fun _ _ _ _ _ => ⟨_, rfl⟩); (case e10x => kernel_rfl); (case e11a => k_is); (case e11b => k_is); (case e11c => k_is); (case e11d0 => k_is)
    (case e11e => k_is); (case e11f => k_is); (case e11g => k_is); (case e11h => k_is); (case e11i => kernel_rfl); (case e11j => kernel_rfl); (case e11k => k_is); (case e11l => k_is)
    (case e11m => k_is); (case e11n => exact fun _ _ _ _ _ => ⟨_, rfl⟩); (case e11x => kernel_rfl); (case e12a => k_is); (case e12b => k_is); (case e12c => k_is); (case e12d0 => k_is); (case e12e => k_is)
    (case e12f => k_is); (case e12g => k_is); (case e12h => k_is); (case e12i => kernel_rfl); (case e12j => kernel_rfl); (case e12k => k_is); (case e12l => k_is); (case e12m => k_is)
    (case e12n => exact fun _ _ _ _ _ => ⟨_, rfl⟩); (case e12x => kernel_rfl); (case e13a => k_is); (case e13b => k_is); (case e13c => k_is); (case e13d0 => k_is); (case e13e => k_is); (case e13f => k_is)
    (case e13g => k_is); (case e13h => k_is); (case e13i => kernel_rfl); (case e13j => kernel_rfl); (case e13k => k_is); (case e13l => k_is); (case e13m => k_is); (case e13n => exact fun _ _ _ _ _ => ⟨_, rfl⟩)
    (case e13x => kernel_rfl); (case e14a => k_is); (case e14b => k_is); (case e14c => k_is); (case e14d0 => k_is); (case e14e => k_is); (case e14f => k_is); (case e14g => k_is)
    (case e14h => k_is); (case e14i => kernel_rfl); (case e14j => kernel_rfl); (case e14k => k_is); (case e14l => k_is); (case e14m => k_is); (case e14n => exact fun _ _ _ _ _ => ⟨_, rfl⟩); (case e14x => kernel_rfl)
    (case e15a => k_is); (case e15b => k_is); (case e15c => k_is); (case e15d0 => k_is); (case e15e => k_is); (case e15f => k_is); (case e15g => k_is); (case e15h => k_is)
    (case e15i => kernel_rfl); (case e15j => kernel_rfl); (case e15k => k_is); (case e15l => k_is); (case e15m => k_is); (case e15n => exact fun _ _ _ _ _ => ⟨_, rfl⟩); (case e15x => kernel_rfl); (case e16a => k_is)
    (case e16b => k_is); (case e16c => k_is); (case e16d0 => k_is); (case e16e => k_is); (case e16f => k_is); (case e16g => k_is); (case e16h => k_is); (case e16i => kernel_rfl)
    (case e16j => kernel_rfl); (case e16k => k_is); (case e16l => k_is); (case e16m => k_is); (case e16n => exact fun _ _ _ _ _ => ⟨_, rfl⟩); (case e16x => kernel_rfl); (case e17a => k_is); (case e17b => k_is)
    (case e17c => k_is); (case e17d0 => k_is); (case e17e => k_is); (case e17f => k_is); (case e17g => k_is); (case e17h => k_is); (case e17i => kernel_rfl); (case e17j => kernel_rfl)
    (case e17k => k_is); (case e17l => k_is); (case e17m => k_is); (case e17n => exact fun _ _ _ _ _ => ⟨_, rfl⟩); (case e17x => kernel_rfl); (case e18a => k_is); (case e18b => k_is); (case e18c => k_is)
    (case e18d0 => k_is); (case e18e => k_is); (case e18f => k_is); (case e18g => k_is); (case e18h => k_is); (case e18i => kernel_rfl); (case e18j => kernel_rfl); (case e18k => k_is)
    (case e18l => k_is); (case e18m => k_is); (case e18n => exact fun _ _ _ _ _ => ⟨_, rfl⟩); (case e18x => kernel_rfl); (case e19a => k_is); (case e19b => k_is); (case e19c => k_is); (case e19d0 => k_is)
    (case e19e => k_is); (case e19f => k_is); (case e19g => k_is); (case e19h => k_is); (case e19i => kernel_rfl); (case e19j => kernel_rfl); (case e19k => k_is); (case e19l => k_is)
    (case e19m => k_is); (case e19n => exact fun _ _ _ _ _ => ⟨_, rfl⟩); (case e19x => kernel_rfl); (case e20a => k_is); (case e20b => k_is); (case e20c => k_is); (case e20d0 => k_is); (case e20e => k_is)
    (case e20f => k_is); (case e20g => k_is); (case e20h => k_is); (case e20i => kernel_rfl); (case e20j => kernel_rfl); (case e20k => k_is); (case e20l => k_is); (case e20m => k_is)
    (case e20n => exact fun _ _ _ _ _ => ⟨_, rfl⟩); (case e20x => kernel_rfl); (case e21a => k_is); (case e21b => k_is); (case e21c => k_is); (case e21d0 => k_is); (case e21e => k_is); (case e21f => k_is)
    (case e21g => k_is); (case e21h => k_is); (case e21i => kernel_rfl); (case e21j => kernel_rfl); (case e21k => k_is); (case e21l => k_is); (case e21m => k_is); (case e21n => exact fun _ _ _ _ _ => ⟨_, rfl⟩)
    (case e21x => kernel_rfl); (case e22a => k_is); (case e22b => k_is); (case e22c => k_is); (case e22d0 => k_is); (case e22e => k_is); (case e22f => k_is); (case e22g => k_is)
    (case e22h => k_is); (case e22i => kernel_rfl); (case e22j => kernel_rfl); (case e22k => k_is); (case e22l => k_is); (case e22m => k_is); (case e22n => exact fun _ _ _ _ _ => ⟨_, rfl⟩); (case e22x => kernel_rfl)
    (case e23a => k_is); (case e23b => k_is); (case e23c => k_is); (case e23d0 => k_is); (case e23e => k_is); (case e23f => k_is); (case e23g => k_is); (case e23h => k_is)
    (case e23i => kernel_rfl); (case e23j => kernel_rfl); (case e23k => k_is); (case e23l => k_is); (case e23m => k_is); (case e23n => exact fun _ _ _ _ _ => ⟨_, rfl⟩); (case e23x => kernel_rfl); (case e24a => k_is)
    (case e24b => k_is); (case e24c => k_is); (case e24d0 => k_is); (case e24d1 => k_is); (case e24e => k_is); (case e24f => k_is); (case e24g => k_is); (case e24h => k_is)
    (case e24i => kernel_rfl); (case e24j => kernel_rfl); (case e24k => k_is); (case e24l => k_is); (case e24m => k_is); (case e24n => exact fun _ _ _ _ _ => ⟨_, rfl⟩); (case e24x => kernel_rfl); (case e25a => k_is)
    (case e25b => k_is); (case e25c => k_is); (case e25d0 => k_is); (case e25e => k_is); (case e25f => k_is); (case e25g => k_is); (case e25h => k_is); (case e25i => kernel_rfl)
    (case e25j => kernel_rfl); (case e25k => k_is); (case e25l => k_is); (case e25m => k_is); (case e25n => exact fun _ _ _ _ _ => ⟨_, rfl⟩); (case e25x => kernel_rfl); (case e26a => k_is); (case e26b => k_is)
    (case e26c => k_is); (case e26d0 => k_is); (case e26e => k_is); (case e26f => k_is); (case e26g => k_is); (case e26h => k_is); (case e26i => kernel_rfl); (case e26j => kernel_rfl)
    (case e26k => k_is); (case e26l => k_is); (case e26m => k_is); (case e26n => exact fun _ _ _ _ _ => ⟨_, rfl⟩); (case e26x => kernel_rfl); (case e27a => k_is); (case e27b => k_is); (case e27c => k_is)
    (case e27d0 => k_is); (case e27e => k_is); (case e27f => k_is); (case e27g => k_is); (case e27h => k_is); (case e27i => kernel_rfl); (case e27j => kernel_rfl); (case e27k => k_is)
    (case e27l => k_is); (case e27m => k_is); (case e27n => exact fun _ _ _ _ _ => ⟨_, rfl⟩); (case e27x => kernel_rfl); (case e28a => k_is); (case e28b => k_is); (case e28c => k_is); (case e28d0 => k_is)
    (case e28e => k_is); (case e28f => k_is); (case e28g => k_is); (case e28h => k_is); (case e28i => kernel_rfl); (case e28j => kernel_rfl); (case e28k => k_is); (case e28l => k_is)
    (case e28m => k_is); (case e28n => exact fun _ _ _ _ _ => ⟨_, rfl⟩); (case e28x => kernel_rfl); (case e29a => k_is); (case e29b => k_is); (case e29c => k_is); (case e29d0 => k_is); (case e29e => k_is)
    (case e29f => k_is); (case e29g => k_is); (case e29h => k_is); (case e29i => kernel_rfl); (case e29j => kernel_rfl); (case e29k => k_is); (case e29l => k_is); (case e29m => k_is)
    (case e29n => exact fun _ _ _ _ _ => ⟨_, rfl⟩); (case e29x => kernel_rfl); (case e30a => k_is); (case e30b => k_is); (case e30c => k_is); (case e30d0 => k_is); (case e30e => k_is); (case e30f => k_is)
    (case e30g => k_is); (case e30h => k_is); (case e30i => kernel_rfl); (case e30j => kernel_rfl); (case e30k => k_is); (case e30l => k_is); (case e30m => k_is); (case e30n => exact fun _ _ _ _ _ => ⟨_, rfl⟩)
    (case e30x => kernel_rfl); (case e31a => k_is); (case e31x => kernel_rfl); (case e32a => k_is); (case e32b => k_is); (case e32c => k_is); (case e32d0 => k_is); (case e32e => k_is)
    (case e32f => k_is); (case e32g => k_is); (case e32h => k_is); (case e32i => kernel_rfl); (case e32j => kernel_rfl); (case e32k => k_is); (case e32l => k_is); (case e32m => k_is)
    (case e32n => exact fun _ _ _ _ _ => ⟨_, rfl⟩); (case e32x => kernel_rfl); (case e33a => k_is); (case e33b => k_is); (case e33c => k_is); (case e33d0 => k_is); (case e33d1 => k_is); (case e33e => k_is)
    (case e33f => k_is); (case e33g => k_is); (case e33h => k_is); (case e33i => kernel_rfl); (case e33j => kernel_rfl); (case e33k => k_is); (case e33l => k_is); (case e33m => k_is)
    (case e33n => exact fun _ _ _ _ _ => ⟨_, rfl⟩); (case e33x => kernel_rfl); (case yf0 => k_is); (case yf1 => k_is); (case yf2 => k_is); (case yf3 => k_is); (case yf4 => k_is); (case yf5 => k_is)
    (case yf6 => k_is); (case yf7 => k_is); (case yf8 => k_is); (case yf9 => k_is); (case yf10 => k_is); (case yf11 => k_is); (case yf12 => k_is); (case yf13 => k_is)
    (case yf14 => k_is); (case yf15 => k_is); (case yf16 => k_is); (case yf17 => k_is); (case yf18 => k_is); (case yf19 => k_is); (case yf20 => k_is); (case yf21 => k_is)
    (case yf22 => k_is); (case yf23 => k_is); (case yf24 => k_is); (case yf25 => k_is); (case yf26 => k_is); (case yf27 => k_is); (case yf28 => k_is); (case yf29 => k_is)
    (case yf30 => k_is); (case yf31 => k_is); (case yf32 => k_is); (case yf33 => k_is); (case yf34 => k_is); (case yf35 => k_is); (case yf36 => k_is)
    (case xo_Unlike => kernel_rfl); (case xk_Unlike => k_is); (case eb => kernel_rfl)
