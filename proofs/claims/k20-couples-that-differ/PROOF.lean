import PyProof.Rows.All
import Wide.All
import OpenK.AllK
import Wide.FinOn
import HandS.ForMost
import PyProof.ReprRoads
import PyProof.Rows.RuleB_pow
import HandS.Style
import HandS.NoneIn
import HandS.Conv
import HandS.IsInst
import HandS.WideBits
import PySem.Challenge.RW_twinties_k20_whole_couples_that_differ
import HandS.FStrTup
set_option linter.all false
namespace Tw
/-! ### ties as a function of two persons: what a deed keeps -/
def Maj3 (a b c x : Int) : Prop := (a = x ∧ b = x) ∨ (a = x ∧ c = x) ∨ (b = x ∧ c = x)
def W3 (a b c a' b' c' : Int) : Prop := (a = a' ∧ b = b' ∧ c = c') ∨ ∃ x, Maj3 a b c x ∧ Maj3 a' b' c' x
/-- the six ties of four people i j k l in the order ij ik il jk jl kl: no two stand alike -/
def Firm6 (ij ik il jk jl kl : Int) : Prop :=
  ¬ (ik = jk ∧ il = jl) ∧ ¬ (ij = jk ∧ il = kl) ∧ ¬ (ij = jl ∧ ik = kl) ∧ ¬ (ij = ik ∧ jl = kl) ∧ ¬ (ij = il ∧ jk = kl) ∧ ¬ (ik = il ∧ jk = jl)
def F6 (ij ik il jk jl kl ij' ik' il' jk' jl' kl' : Int) : Prop :=
  (ij = ij' ∧ ik = ik' ∧ il = il' ∧ jk = jk' ∧ jl = jl' ∧ kl = kl') ∨ (¬ Firm6 ij ik il jk jl kl ∧ ¬ Firm6 ij' ik' il' jk' jl' kl')
theorem W3.symm {a b c a' b' c' : Int} (h : W3 a b c a' b' c') : W3 a' b' c' a b c := by
  rcases h with ⟨e1, e2, e3⟩ | ⟨x, m, m'⟩
  · exact .inl ⟨e1.symm, e2.symm, e3.symm⟩
  · exact .inr ⟨x, m', m⟩
theorem key3 {a b c a' b' c' : Int} (h : W3 a b c a' b' c') (h1 : a ≠ a') (h2 : b ≠ c) (h3 : b' ≠ c') : False := by
  rcases h with ⟨e, _, _⟩ | ⟨x, m, m'⟩
  · exact h1 e
  · unfold Maj3 at m m'
    omega
theorem key4 {ij ik il jk jl kl ij' ik' il' jk' jl' kl' : Int} (w1 : W3 ij ik jk ij' ik' jk') (w2 : W3 ij il jl ij' il' jl') (w3 : W3 ik il kl ik' il' kl')
    (f : F6 ij ik il jk jl kl ij' ik' il' jk' jl' kl') (d : ij ≠ ij') (hk : ik ≠ jk) (hl : il' ≠ jl') : False := by
  by_cases h1 : il ≠ jl
  · exact key3 w2 d h1 hl
  by_cases h2 : ik' ≠ jk'
  · exact key3 w1 d hk h2
  have e1 : il = jl := Classical.not_not.mp h1
  have e2 : ik' = jk' := Classical.not_not.mp h2
  rcases w1 with ⟨e, _, _⟩ | ⟨x, m, m'⟩
  · exact d e
  rcases w2 with ⟨e, _, _⟩ | ⟨y, n, n'⟩
  · exact d e
  rcases f with ⟨e, _⟩ | ⟨f, f'⟩
  · exact d e
  unfold Maj3 at m m' n n'
  have x1 : ik' = x := by omega
  have x2 : ij = x := by omega
  have y1 : il = y := by omega
  have y2 : ij' = y := by omega
  have k1 : kl = y := by
    unfold Firm6 at f
    omega
  have k2 : kl' = x := by
    unfold Firm6 at f'
    omega
  clear m m' n n' f f' h1 h2
  rcases w3 with ⟨_, _, e⟩ | ⟨z, q, q'⟩
  · omega
  · unfold Maj3 at q q'
    have z1 : z = y := by
      clear q'
      omega
    have z2 : z = x := by
      clear q
      omega
    omega
theorem wstep1 {a b c a' b' c' a2 b2 c2 : Int} (w : W3 a b c a' b' c') (e : b' = c') (e2 : b2 = b') (e3 : c2 = c') : W3 a b c a2 b2 c2 := by
  refine .inr ⟨b', ?_, .inr (.inr ⟨e2, e3.trans e.symm⟩)⟩
  rcases w with ⟨_, e1, e4⟩ | ⟨x, m, m'⟩
  · exact .inr (.inr ⟨e1, e4.trans e.symm⟩)
  · have ex : x = b' := by
      unfold Maj3 at m'
      omega
    rw [← ex]
    exact m
theorem wstep2 {a b c a' b' c' a2 b2 c2 : Int} (w : W3 a b c a' b' c') (e : a' = c') (e2 : a2 = a') (e3 : c2 = c') : W3 a b c a2 b2 c2 := by
  refine .inr ⟨a', ?_, .inr (.inl ⟨e2, e3.trans e.symm⟩)⟩
  rcases w with ⟨e1, _, e4⟩ | ⟨x, m, m'⟩
  · exact .inr (.inl ⟨e1, e4.trans e.symm⟩)
  · have ex : x = a' := by
      unfold Maj3 at m'
      omega
    rw [← ex]
    exact m
theorem wstep3 {a b c a' b' c' a2 b2 c2 : Int} (w : W3 a b c a' b' c') (e : a' = b') (e2 : a2 = a') (e3 : b2 = b') : W3 a b c a2 b2 c2 := by
  refine .inr ⟨a', ?_, .inl ⟨e2, e3.trans e.symm⟩⟩
  rcases w with ⟨e1, e4, _⟩ | ⟨x, m, m'⟩
  · exact .inl ⟨e1, e4.trans e.symm⟩
  · have ex : x = a' := by
      unfold Maj3 at m'
      omega
    rw [← ex]
    exact m

abbrev Tie := Nat → Nat → Int
def Sym (t : Tie) : Prop := ∀ a b, t a b = t b a
def AlikeF (n : Nat) (t : Tie) (i j : Nat) : Prop := ∀ k, k < n → k ≠ i → k ≠ j → t k i = t k j
/-- what deeds keep: the words of all threes, the firm fours -/
structure J (n : Nat) (t u : Tie) : Prop where
  w : ∀ i j k, i < n → j < n → k < n → i ≠ j → i ≠ k → j ≠ k → W3 (t i j) (t i k) (t j k) (u i j) (u i k) (u j k)
  f : ∀ i j k l, i < n → j < n → k < n → l < n → i ≠ j → i ≠ k → i ≠ l → j ≠ k → j ≠ l → k ≠ l →
    F6 (t i j) (t i k) (t i l) (t j k) (t j l) (t k l) (u i j) (u i k) (u i l) (u j k) (u j l) (u k l)
theorem J.refl (n : Nat) (t : Tie) : J n t t := ⟨fun _ _ _ _ _ _ _ _ _ => .inl ⟨rfl, rfl, rfl⟩, fun _ _ _ _ _ _ _ _ _ _ _ _ _ _ => .inl ⟨rfl, rfl, rfl, rfl, rfl, rfl⟩⟩
theorem J.symm {n : Nat} {t u : Tie} (h : J n t u) : J n u t := by
  refine ⟨fun i j k a b c d e g => (h.w i j k a b c d e g).symm, fun i j k l a b c d e g m p q r => ?_⟩
  rcases h.f i j k l a b c d e g m p q r with ⟨e1, e2, e3, e4, e5, e6⟩ | ⟨f, f'⟩
  · exact .inl ⟨e1.symm, e2.symm, e3.symm, e4.symm, e5.symm, e6.symm⟩
  · exact .inr ⟨f', f⟩
/-- joined companies: a couple that differs stands alike in the one or in the other -/
theorem J.alike {n : Nat} {t u : Tie} (st : Sym t) (su : Sym u) (h : J n t u) {i j : Nat} (hi : i < n) (hj : j < n) (ne : i ≠ j) (d : t i j ≠ u i j) (h1 : ¬ AlikeF n t i j) (h2 : ¬ AlikeF n u i j) : False := by
  have h1' : ∃ k, k < n ∧ k ≠ i ∧ k ≠ j ∧ t k i ≠ t k j := by
    false_or_by_contra
    rename_i z
    refine h1 fun k a b c => ?_
    false_or_by_contra
    rename_i y
    exact z ⟨k, a, b, c, y⟩
  have h2' : ∃ k, k < n ∧ k ≠ i ∧ k ≠ j ∧ u k i ≠ u k j := by
    false_or_by_contra
    rename_i z
    refine h2 fun k a b c => ?_
    false_or_by_contra
    rename_i y
    exact z ⟨k, a, b, c, y⟩
  obtain ⟨k, hk, ki, kj, dk⟩ := h1'
  obtain ⟨l, hl, li, lj, dl⟩ := h2'
  have dk' : t i k ≠ t j k := by rw [st i k, st j k]; exact dk
  have dl' : u i l ≠ u j l := by rw [su i l, su j l]; exact dl
  by_cases e : k = l
  · subst e
    exact key3 (h.w i j k hi hj hk ne ki.symm kj.symm) d dk' dl'
  · exact key4 (h.w i j k hi hj hk ne ki.symm kj.symm) (h.w i j l hi hj hl ne li.symm lj.symm) (h.w i k l hi hk hl ki.symm li.symm e)
      (h.f i j k l hi hj hk hl ne ki.symm li.symm kj.symm lj.symm e) d dk' dl'
/-- a step behind which all is as it was but the tie of p and q -/
structure Step (n : Nat) (u v : Tie) (p q : Nat) : Prop where
  sv : Sym v
  keep : ∀ a b, a ≠ b → ¬ (a = p ∧ b = q) → ¬ (a = q ∧ b = p) → v a b = u a b
/-- the couple p q in either order, and a third one -/
theorem third {n : Nat} {u v : Tie} {p q : Nat} (su : Sym u) (S : Step n u v p q) (al : AlikeF n u p q) {i j r : Nat} (c : (i = p ∧ j = q) ∨ (i = q ∧ j = p)) (hr : r < n) (ri : i ≠ r) (rj : j ≠ r) :
    u i r = u j r ∧ v i r = u i r ∧ v j r = u j r := by
  rcases c with ⟨rfl, rfl⟩ | ⟨rfl, rfl⟩
  · exact ⟨by rw [su i r, su j r]; exact al r hr ri.symm rj.symm, S.keep _ _ ri (fun z => rj z.2.symm) (fun z => ri z.2.symm), S.keep _ _ rj (fun z => rj z.2.symm) (fun z => ri z.2.symm)⟩
  · exact ⟨by rw [su i r, su j r]; exact (al r hr rj.symm ri.symm).symm, S.keep _ _ ri (fun z => ri z.2.symm) (fun z => rj z.2.symm), S.keep _ _ rj (fun z => ri z.2.symm) (fun z => rj z.2.symm)⟩
theorem J.step {n : Nat} {t u v : Tie} {p q : Nat} (su : Sym u) (h : J n t u) (S : Step n u v p q) (al : AlikeF n u p q) : J n t v := by
  have off : ∀ {a b : Nat}, a ≠ b → ¬ ((a = p ∧ b = q) ∨ (a = q ∧ b = p)) → v a b = u a b := fun {a b} ab z => S.keep a b ab (fun y => z (.inl y)) fun y => z (.inr y)
  constructor
  · intro i j k hi hj hk ij ik jk
    have w := h.w i j k hi hj hk ij ik jk
    by_cases c1 : (i = p ∧ j = q) ∨ (i = q ∧ j = p)
    · obtain ⟨e1, e2, e3⟩ := third su S al c1 hk ik jk
      exact wstep1 w e1 e2 e3
    by_cases c2 : (i = p ∧ k = q) ∨ (i = q ∧ k = p)
    · obtain ⟨e1, e2, e3⟩ := third su S al c2 hj ij jk.symm
      exact wstep2 w (by rw [e1, su k j]) e2 (by rw [S.sv j k, e3, su k j])
    by_cases c3 : (j = p ∧ k = q) ∨ (j = q ∧ k = p)
    · obtain ⟨e1, e2, e3⟩ := third su S al c3 hi ij.symm ik.symm
      exact wstep3 w (by rw [su i j, e1, su k i]) (by rw [S.sv i j, e2, su j i]) (by rw [S.sv i k, e3, su k i])
    rw [off ij c1, off ik c2, off jk c3]
    exact w
  · intro i j k l hi hj hk hl ij ik il jk jl kl
    have f := h.f i j k l hi hj hk hl ij ik il jk jl kl
    have fin : ¬ Firm6 (u i j) (u i k) (u i l) (u j k) (u j l) (u k l) → ¬ Firm6 (v i j) (v i k) (v i l) (v j k) (v j l) (v k l) →
        F6 (t i j) (t i k) (t i l) (t j k) (t j l) (t k l) (v i j) (v i k) (v i l) (v j k) (v j l) (v k l) := by
      intro a b
      rcases f with ⟨e1, e2, e3, e4, e5, e6⟩ | ⟨f, _⟩
      · exact .inr ⟨by rw [e1, e2, e3, e4, e5, e6]; exact a, b⟩
      · exact .inr ⟨f, b⟩
    have sv := S.sv
    by_cases c1 : (i = p ∧ j = q) ∨ (i = q ∧ j = p)
    · obtain ⟨e1, e2, e3⟩ := third su S al c1 hk ik jk
      obtain ⟨d1, d2, d3⟩ := third su S al c1 hl il jl
      exact fin (fun f => f.1 ⟨e1, d1⟩) fun f => f.1 ⟨by rw [e2, e3, e1], by rw [d2, d3, d1]⟩
    by_cases c2 : (i = p ∧ k = q) ∨ (i = q ∧ k = p)
    · obtain ⟨e1, e2, e3⟩ := third su S al c2 hj ij jk.symm
      obtain ⟨d1, d2, d3⟩ := third su S al c2 hl il kl
      exact fin (fun f => f.2.1 ⟨by rw [e1, su k j], d1⟩) fun f => f.2.1 ⟨by rw [e2, sv j k, e3, e1], by rw [d2, d3, d1]⟩
    by_cases c3 : (i = p ∧ l = q) ∨ (i = q ∧ l = p)
    · obtain ⟨e1, e2, e3⟩ := third su S al c3 hj ij jl.symm
      obtain ⟨d1, d2, d3⟩ := third su S al c3 hk ik kl.symm
      exact fin (fun f => f.2.2.1 ⟨by rw [e1, su l j], by rw [d1, su l k]⟩) fun f => f.2.2.1 ⟨by rw [e2, sv j l, e3, e1], by rw [d2, sv k l, d3, d1]⟩
    by_cases c4 : (j = p ∧ k = q) ∨ (j = q ∧ k = p)
    · obtain ⟨e1, e2, e3⟩ := third su S al c4 hi ij.symm ik.symm
      obtain ⟨d1, d2, d3⟩ := third su S al c4 hl jl kl
      exact fin (fun f => f.2.2.2.1 ⟨by rw [su i j, e1, su k i], d1⟩) fun f => f.2.2.2.1 ⟨by rw [sv i j, e2, sv i k, e3, e1], by rw [d2, d3, d1]⟩
    by_cases c5 : (j = p ∧ l = q) ∨ (j = q ∧ l = p)
    · obtain ⟨e1, e2, e3⟩ := third su S al c5 hi ij.symm il.symm
      obtain ⟨d1, d2, d3⟩ := third su S al c5 hk jk kl.symm
      exact fin (fun f => f.2.2.2.2.1 ⟨by rw [su i j, e1, su l i], by rw [d1, su l k]⟩) fun f => f.2.2.2.2.1 ⟨by rw [sv i j, e2, sv i l, e3, e1], by rw [d2, sv k l, d3, d1]⟩
    by_cases c6 : (k = p ∧ l = q) ∨ (k = q ∧ l = p)
    · obtain ⟨e1, e2, e3⟩ := third su S al c6 hi ik.symm il.symm
      obtain ⟨d1, d2, d3⟩ := third su S al c6 hj jk.symm jl.symm
      exact fin (fun f => f.2.2.2.2.2 ⟨by rw [su i k, e1, su l i], by rw [su j k, d1, su l j]⟩) fun f => f.2.2.2.2.2 ⟨by rw [sv i k, e2, sv i l, e3, e1], by rw [sv j k, d2, sv j l, d3, d1]⟩
    rw [off ij c1, off ik c2, off il c3, off jk c4, off jl c5, off kl c6]
    exact f
end Tw
set_option Elab.async false
set_option linter.all false
set_option maxRecDepth 100000
set_option maxHeartbeats 2000000
/-! repr of nested lists over the hand layer: a promise that holds where no repr is under way -/
namespace TwG
open PySem PySem.Spec PyProof.Rows L2

/-! ### powers of great numbers -/
section
variable {X : Cx}
def CPowG (i j : Int) : Prop := 0 ≤ j ∧ (Builtin.Int.intBits i : Int) * j ≤ 2 ^ 27
theorem op_powG : OpR X (binaryOp .Pow) (rI CPowG fun i j => .int (i ^ j.toNat)) :=
  opI fun i j t u A s Q hc q => pow_int hc.1 hc.2 q
end

/-! ### repr -/
/-- repr of data at any depth, None too -/
def rRepr (K : PySem.W.Frag) : List V → Hp → VK → Prop := fun vs H Q =>
  ∃ v d, vs = [v] ∧ Dp K H v d ∧ d.showable = true ∧ d.hasDict = false ∧ d.shown.length ≤ sizeLine ∧ d.depth ≤ 20 ∧ (d = .none ∨ ∃ p, v = .ref p) ∧ Q (.str d.shown) H
theorem call_repr {X : Cx} (hgd : X.A.guards = some []) (hu : X.A.units + 64 < cLine) : CallR X (.builtin "repr") (rRepr X.K) := by
  intro pins s σ H vs us Q I r h
  obtain ⟨v, d, rfl, hd, h1, h2, h3, h4, h5, q⟩ := h
  obtain ⟨u, rfl, hv⟩ := vals1 r
  obtain ⟨as, rd⟩ := Dp.reads I d v u hd hv
  rcases h5 with rfl | ⟨p, rfl⟩
  · cases hd
    cases hv
    refine PySem.P.repr_of_none ?_
    exact ⟨.str _, H, I.tok _, ⟨_, rfl⟩, by simpa [PyData.shown] using q⟩
  · cases hv
    refine repr_of_reads' rd h1 (PyData.noDict_hsm h2) hgd (by omega) (fun _ _ e => e) (fun h' u tk hk => ?_) h3
    exact ⟨.str _, H, I.kept hk, ⟨_, rfl⟩, q⟩

/-! ### a promise where no repr is under way -/
structure GOk (P : Program) (w : World) (K : PySem.W.Frag) (mg : Str → Option Value) (base : Heap) (k : Nat) (f : Addr) (fd : FuncData) (ps : List Str) (sp : Sp) : Prop where
  len : ∀ vs H Q E, sp vs H Q E → vs.length = ps.length
  run : ∀ (A : Around) (outer : List Env) (s : Shared) (H : Hp) (args : Args) (us : List Value) (vs : List V) (Q : VK) (E : XK),
    A.guards = some [] → Room k A → Env0 P w K mg base A outer s H → BindsTo s fd args (ps.zip us) → Vals vs us → sp vs H Q E →
    codeAny (model P w) A (.call (.ref f) args) (CR CX0 outer P w H s Q E) s

section
variable {P : Program} {w : World} {K : PySem.W.Frag} {mg : Str → Option Value} {base : Heap}
theorem gok_of {x qual : Str} {st : Stmt} {f : Addr} {fd : FuncData} {N ps : List Str} {k : Nat} {sp : Sp} (F : Fun K x qual st f fd) (S : FnScope N ps (defScope st))
    (len : ∀ vs H Q E, sp vs H Q E → vs.length = ps.length)
    (body : ∀ (cdv : Value) (A : Around) (outer : List Env) (s : Shared) (H : Hp) (vs : List V) (Q : VK) (E : XK),
      A.guards = some [] → Room k (A.deeper (envOfC qual (defScope st) s.heap.objs.size f cdv)) → sp vs H Q E →
      ∃ t, PSs (cxOf CX0 P w K mg base N qual (defScope st) f cdv A outer s H E).nox (defBody st) t ∧
        t { nx := fun _ H' => Q .non H', rt := Q } (start N vs) H) : GOk P w K mg base (k + 1) f fd ps sp := by
  obtain ⟨oc, od, kV, doc, pm, an, cdv, ct, osl, rfl, lk, hcd⟩ := F.ex
  refine ⟨len, ?_⟩
  intro A outer s H args us vs Q E hgd hr e0 hb r hsp
  have hl : vs.length = ps.length := len _ _ _ _ hsp
  have up : ∀ b o, base.get? b = some o → s.heap.get? b = some o := fun b o e => (e0.bs b o e).1
  have KX : K.In s.heap := PySem.W.Frag.In.keeps e0.mod.kin up
  have nl : s.heap.NoLimit := e0.mod.nolimit.keeps up
  have kinds : ∀ y ∈ ps.zip us, (defScope st).names.lookup y.1 = some .local ∨
      ((defScope st).names.lookup y.1 = some .cell ∧ ((cellsFrom (s.heap.objs.size + 1) (defScope st).names []).lookup y.1).isSome = true) := by
    rintro ⟨n, v⟩ hy
    rcases S.par n (List.of_mem_zip hy).1 with q | q
    · exact Or.inl q
    · exact Or.inr ⟨q, PySem.W.cellsFrom_some _ _ _ (Or.inl q)⟩
  refine codeAny_call_function hr.depth (KX _ _ lk) rfl S.co S.gen rfl (PySem.W.codeRec_of KX hcd) (hb _ _ _ _ ?_)
  refine wpAny_newFunctionEnv_cells S.kind kinds ?_
  rintro env rfl s1 x
  refine ⟨nl.keeps x.toInCall.keep, codeAny_func ?_⟩
  obtain ⟨t, ht, hq⟩ := body cdv A outer s H vs Q E hgd (hr.deeper _) hsp
  have I := inv_start (CX := CX0) (E := E) S hr.hd e0 hl r x
  refine wpAny_mono (ht.nox.run [] s1 (start N vs) H _ I hq) ?_ (fun _ _ z => z)
  rintro (_ | _ | _ | u) s' hs
  · obtain ⟨σ', H', I2, q⟩ := hs
    exact ⟨V.non, H', I2.os, I2.bare, I2.base, I2.hok, rfl, q⟩
  · obtain ⟨_, _, _, q⟩ := hs
    cases q
  · obtain ⟨_, _, _, q⟩ := hs
    cases q
  · obtain ⟨v, σ', H', I2, rv, q⟩ := hs
    exact ⟨v, H', I2.os, I2.bare, I2.base, I2.hok, rv, q⟩
end

section
variable {X : Cx} {k : Nat} {f : Addr} {fd : FuncData} {ps : List Str} {sp : Sp} {x : Str} {p pos : Pos} {e : Expr} {es : List Expr} {t : TA}
theorem pe_callG (F : GOk X.prog X.w X.K X.mg X.base k f fd ps sp) (hgd : X.A.guards = some []) (hr : Room k X.A) (hg : Gl X x) (hm : X.mg x = some (.ref f))
    (hk : PySem.W.keepIn X.K (.ref f) = true) (hb : Binds X.K fd ps []) (ha : PA X (e :: es) t) (hdb : (x == ("__debug__" : Str)) = false := by decide)
    (he : starEach (e :: es) X.env = (false, eval e X.env) :: starEach es X.env := by rfl)
    (hpl : (backTo pos (starEach es X.env)).any (·.1) = false := by rfl) : PE X (.Call (.Name x p) (e :: es) [] pos) (tCall sp [] E0 t) := by
  constructor
  intro pins s σ H Q I h
  refine wpAny_Call_Name_kw (ld_glob I hg hm ?_ hdb)
  refine PySem.W.callWith_K (h₀ := X.base) I.ok.mod.kin hk (thn (ha.run pos pins s σ H _ I h) ?_) he hpl
  rintro us s1 ⟨vs, H1, I1, r, q⟩
  refine ⟨I1.kIn, ?_⟩
  have r2 : Vals vs us := r
  have q2 : sp vs H1 Q E0 := by
    have z : sp (vs ++ []) H1 Q E0 := q
    rw [List.append_nil] at z
    exact z
  have hl : us.length = ps.length := r2.length.symm.trans (F.len _ _ _ _ q2)
  have hB : BindsTo s1 fd ⟨us, []⟩ (ps.zip us) := by
    have z := hb s1 us I1.kIn (by rw [List.append_nil]; exact hl)
    rw [List.append_nil] at z
    exact z
  refine wpAny_call (codeAny_mono (F.run X.A X.stack s1 H1 ⟨us, []⟩ us vs Q E0 hgd hr I1.env0 hB r2 q2) ?_)
  rintro (er | (_ | _ | _ | u)) s' hq
  · exact False.elim hq
  · exact False.elim hq
  · exact False.elim hq
  · exact False.elim hq
  · exact I1.after hq
end

/-! ### the law's own entry -/
theorem seen (s : Heap) (H : Hp) : ∀ b o, (hidT s H).get? b = some o → s.get? b = some o ∧ H b = none := fun _ _ e => of_hidT e
section
variable {P : Program} {w : World} {K : PySem.W.Frag} {mg mb : Str → Option Value} {k : Nat} {fa a : Addr} {fd : FuncData} {x : Str} {sp : Sp} {s : Shared} {vs : List Value} {ns : List Int}
abbrev lawEnd (s : Shared) : Result → Shared → Prop := fun r s' => r = .ok (.ret (.bool true)) ∧ OldK s.heap s'.heap ∧ s'.os = s.os ∧ AllBare s'.gens
theorem law_runs (H : Hp) (KX : K.In s.heap) (g1 : s.heap.Ns mainGlobals mg) (g2 : s.heap.Ns builtinsNs mb) (g3 : ∀ x : Str, x ≠ "__name__" → mb x = bootBuiltins x)
    (g4 : s.heap.NoLimit) (g5 : s.gens = #[]) (ha : s.heap.get? a = some { cls := .type "list", data := .seq vs.toArray }) (hr : Room k callerA)
    (F : ∀ base : Heap, K.In base → base.Ns mainGlobals mg → GOk P w K mg base k fa fd [x] sp) (hbind : ∀ (s : Shared) (u : Value), BindsTo s fd ⟨[u], []⟩ [(x, u)])
    (only : Only H) (hok : HOk P w H s.heap) (here : ∀ b, H b ≠ none → b = a) (hK : H a ≠ none → K.lookup a = none)
    (hsp : sp [.ref a] H (fun v _ => v = .bl true) fun _ _ _ => False) :
    codeAny (model P w) callerA (.call (.ref fa) ⟨[.ref a], []⟩) (lawEnd s) s := by
  have hid : ∀ {b : Addr} {o : Obj}, s.heap.get? b = some o → (H b = none ∨ b ≠ a) → (hidT s.heap H).get? b = some o := by
    intro b o e z
    refine hidT_get e ?_
    rcases z with z | z
    · exact z
    · false_or_by_contra
      rename_i y
      exact z (here b y)
  have ns : ∀ {b : Addr} {m : Str → Option Value}, s.heap.Ns b m → (hidT s.heap H).Ns b m := by
    rintro b m ⟨o, es, ep, e, d, r⟩
    refine ⟨o, es, ep, hid e (.inr ?_), d, r⟩
    rintro rfl
    rw [ha] at e
    cases e
    have z : Data.seq vs.toArray _ = Data.dict es ep := d
    cases z
  have KB : K.In (hidT s.heap H) := by
    intro b o e
    refine hid (KX b o e) ?_
    by_cases z : H b = none
    · exact .inl z
    · refine .inr fun y => ?_
      subst y
      rw [hK z] at e
      cases e
  have M : Mod K mg (hidT s.heap H) := by
    obtain ⟨mc, c1, c2⟩ := g4
    exact ⟨KB, ns g1, ⟨mb, ns g2, g3⟩, mc, ns c1, c2⟩
  have E : Env0 P w K mg (hidT s.heap H) callerA [] s H :=
    ⟨rfl, M, seen s.heap H, Nat.le_of_eq (hidT_size _ _), trivial, (fun b z => absurd (show b ∈ ([] : List Addr) from z) List.not_mem_nil), hok, .of_eq g5⟩
  refine codeAny_mono ((F _ KB (ns g1)).run callerA [] s H ⟨[.ref a], []⟩ [.ref a] [.ref a] _ _ rfl hr E (hbind s _) (.cons rfl .nil) hsp) ?_
  rintro (er | (_ | _ | _ | u)) s' h
  · exact False.elim h
  · exact False.elim h
  · exact False.elim h
  · exact False.elim h
  · obtain ⟨v, H', os, bare, un, hok', rv, q⟩ := h
    have q' : v = .bl true := q
    subst q'
    obtain rfl : u = Value.bool true := rv
    refine ⟨rfl, .of_keep fun b o e => ?_, os, bare⟩
    have nf : b ∉ ([] : List Addr) := List.not_mem_nil
    cases z : H b with
    | none => exact un.keep b o e z nf nf
    | some y =>
      rcases only b with n | ⟨ob, xs, n⟩
      · rw [n] at z
        cases z
      · have f1 := (hok b _ n).1
        have f2 := (hok' b _ (un.frzs b ob _ n)).1
        rw [e] at f1
        cases f1
        exact f2
theorem law_all (KX : K.In s.heap) (g1 : s.heap.Ns mainGlobals mg) (g2 : s.heap.Ns builtinsNs mb) (g3 : ∀ x : Str, x ≠ "__name__" → mb x = bootBuiltins x)
    (g4 : s.heap.NoLimit) (g5 : s.gens = #[]) (ha : s.heap.get? a = some { cls := .type "list", data := .seq vs.toArray }) (hi : IntsAre vs ns) (hl : ns.length ≤ sizeLine) (hr : Room k callerA)
    (F : ∀ base : Heap, K.In base → base.Ns mainGlobals mg → GOk P w K mg base k fa fd [x] sp) (hbind : ∀ (s : Shared) (u : Value), BindsTo s fd ⟨[u], []⟩ [(x, u)])
    (hsp : ∀ H : Hp, Only H → SqL K H a (ns.map V.int) → sp [.ref a] H (fun v _ => v = .bl true) fun _ _ _ => False) :
    codeAny (model P w) callerA (.call (.ref fa) ⟨[.ref a], []⟩) (lawEnd s) s := by
  have rv := vals_ints hi
  have nL : vs.length ≤ sizeLine := by
    rw [hi.length]
    exact hl
  cases hk : K.lookup a with
  | some o =>
    have e := KX a o hk
    rw [ha] at e
    cases e
    have none_ : ∀ {b : Addr} {u : HO}, (fun _ : Addr => (none : Option HO)) b = some u → False := fun z => nomatch z
    refine law_runs (fun _ => none) KX g1 g2 g3 g4 g5 ha hr F hbind (fun _ => .inl rfl) (fun b u z => (none_ (b := b) z).elim) (fun b z => absurd rfl z) (fun z => absurd rfl z) (hsp _ (fun _ => .inl rfl) ?_)
    exact .inr ⟨_, vs.toArray, _, hk, rfl, rfl, rfl, by rw [List.size_toArray]; exact nL, by simpa using rv⟩
  | none =>
    let H0 : Hp := fun b => if b = a then some (.frz { cls := .type "list", data := .seq vs.toArray } (.lst (ns.map V.int))) else none
    have at_a : H0 a = some (.frz { cls := .type "list", data := .seq vs.toArray } (.lst (ns.map V.int))) := if_pos rfl
    have off : ∀ b, b ≠ a → H0 b = none := fun b z => if_neg z
    have on : Only H0 := fun b => by
      by_cases z : b = a
      · subst z
        exact .inr ⟨_, _, at_a⟩
      · exact .inl (off b z)
    refine law_runs H0 KX g1 g2 g3 g4 g5 ha hr F hbind on ?_ ?_ (fun _ => hk) (hsp _ on (.inl (.inr ⟨_, at_a⟩)))
    · intro b u z
      by_cases y : b = a
      · subst y
        rw [at_a] at z
        cases z
        exact ⟨ha, by rw [List.length_map]; exact hl, vs, _, rv, ha⟩
      · rw [off b y] at z
        cases z
    · intro b z
      false_or_by_contra
      rename_i y
      exact z (off b y)
end
/-- the goal behind the head, from the law's promise at a place where no repr is under way -/
theorem walk_G {l : PySem.W.OpenLaw} {n k : Nat} {q : Program} {loose : List Str} {XP : (Str → Option Value) → Heap → Prop} {YP : World → Heap → Prop} {d : DefRec} {K : Params → PySem.W.Frag} {sp : World → Sp} {x : Str}
    (hn : l.most = some n) (hn2 : n ≤ sizeLine) (hdf : d.params.defaults = []) (hr : Room k callerA) (hY : ∀ (w : World) (h : Heap), YP w h → (K w.params).In h)
    (F : ∀ (w : World) (mg : Str → Option Value) (fa : Addr) (h : Heap), (K w.params).In h → h.Ns mainGlobals mg → mg d.name = some (.ref fa) →
      ∃ fd : FuncData, (∀ (s : Shared) (u : Value), BindsTo s fd ⟨[u], []⟩ [(x, u)]) ∧
        ∀ base : Heap, (K w.params).In base → base.Ns mainGlobals mg → GOk l.prog w (K w.params) mg base k fa fd [x] (sp w))
    (hsp : ∀ (w : World) (H : Hp) (a : Addr) (ns : List Int), ns.length ≤ n → Only H → SqL (K w.params) H a (ns.map V.int) → sp w [.ref a] H (fun v _ => v = .bl true) fun _ _ _ => False) :
    PySem.W.WalkO q loose XP YP l.row.toRowW d [] (fun f vs => PySem.call f vs) := by
  refine Att.attach_call hn hdf ?_
  intro w s₀ s₁ mg mb fa o pm cd doc a vs ns G Y ho hd hcd hmg hobj hints hlen hg
  have KX := hY w _ Y
  obtain ⟨fd, hb, hF⟩ := F w mg fa _ KX G.T.g hmg
  exact law_all KX G.T.g G.T.b G.T.builtins G.T.nolimit hg hobj hints (Nat.le_trans hlen hn2) hr hF hb fun H hO hS => hsp w H a ns hlen hO hS
end TwG
set_option Elab.async false
set_option linter.all false
set_option maxRecDepth 100000
set_option maxHeartbeats 2000000
/-! data in the heap, companies, and the short words of the walk -/
namespace Tw
open PySem PySem.Spec PyProof.Rows L2 TwG

abbrev cN (n : Nat) : V := .int (n : Int)
/-! ### heaps -/
theorem same_new {H0 H : Hp} {p : Addr} {o : HO} (s : Same H0 H) (h : H p = none) : Same H0 (upd H p o) := fun b u e => by
  rw [upd_ne (ne_of_none (s b u e) h)]
  exact s b u e
theorem same_in {H0 H : Hp} {p : Addr} {o : HO} (s : Same H0 H) (h : H0 p = none) : Same H0 (upd H p o) := fun b u e => by
  rw [upd_ne (ne_of_none e h)]
  exact s b u e
theorem same_up {H : Hp} {p : Addr} {o : HO} (h : H p = none) : Same H (upd H p o) := same_new (Same.refl H) h
/-- all is as it was but at g -/
def SameX (g : Addr) (H H' : Hp) : Prop := ∀ b o, b ≠ g → H b = some o → H' b = some o
theorem SameX.trans {g : Addr} {H H1 H2 : Hp} (a : SameX g H H1) (b : SameX g H1 H2) : SameX g H H2 := fun c o n h => b c o n (a c o n h)
theorem SameX.of {g : Addr} {H H' : Hp} (s : Same H H') : SameX g H H' := fun b o _ h => s b o h
theorem SameX.refl (g : Addr) (H : Hp) : SameX g H H := fun _ _ _ h => h
theorem SameX.at {g : Addr} {H H' : Hp} {o : HO} (s : SameX g H H') : SameX g H (upd H' g o) := fun b u n e => by
  rw [upd_ne n]
  exact s b u n e
theorem SameX.new {g p : Addr} {H0 H : Hp} {o : HO} (s : SameX g H0 H) (h : H p = none) : SameX g H0 (upd H p o) := fun b u n e => by
  rw [upd_ne (ne_of_none (s b u n e) h)]
  exact s b u n e
theorem SameX.in {g p : Addr} {H0 H : Hp} {o : HO} (s : SameX g H0 H) (h : H0 p = none) : SameX g H0 (upd H p o) := fun b u n e => by
  rw [upd_ne (ne_of_none e h)]
  exact s b u n e
theorem SameX.free {g : Addr} {H H' : Hp} (s : SameX g H H') {l : Addr} (n : l ≠ g) (h : H' l = none) : H l = none := by
  cases q : H l with
  | none => rfl
  | some o =>
    rw [s l o n q] at h
    cases h

/-! ### a list of tracked objects -/
def Objs (H : Hp) (ts : List Addr) (os : List HO) : Prop := ts.length = os.length ∧ ∀ (i : Nat) (t : Addr) (o : HO), ts[i]? = some t → os[i]? = some o → H t = some o
theorem Objs.same {H H' : Hp} {ts : List Addr} {os : List HO} (s : Same H H') (h : Objs H ts os) : Objs H' ts os := ⟨h.1, fun i t o a b => s _ _ (h.2 i t o a b)⟩
theorem Objs.nil (H : Hp) : Objs H [] [] := ⟨rfl, fun i t o a => by simp at a⟩
theorem Objs.keep {H H' : Hp} {ts : List Addr} {os : List HO} (s : ∀ t ∈ ts, ∀ o, H t = some o → H' t = some o) (h : Objs H ts os) : Objs H' ts os := ⟨h.1, fun i t o a b => s t (List.mem_of_getElem? a) o (h.2 i t o a b)⟩
theorem Objs.push {H : Hp} {ts : List Addr} {os : List HO} {t : Addr} {o : HO} (h : Objs H ts os) (e : H t = some o) : Objs H (ts ++ [t]) (os ++ [o]) := by
  refine ⟨by simp [h.1], fun i u v a b => ?_⟩
  by_cases hi : i < ts.length
  · rw [List.getElem?_append_left hi] at a
    rw [List.getElem?_append_left (h.1 ▸ hi)] at b
    exact h.2 i u v a b
  · rw [List.getElem?_append_right (by omega)] at a
    rw [List.getElem?_append_right (by have := h.1; omega)] at b
    have hl := h.1
    rw [hl] at a
    generalize i - os.length = j at a b
    cases j with
    | zero =>
      cases a
      cases b
      exact e
    | succ j => simp at a
theorem Objs.get {H : Hp} {ts : List Addr} {os : List HO} (h : Objs H ts os) {i : Nat} {o : HO} (e : os[i]? = some o) : ∃ t, ts[i]? = some t ∧ H t = some o := by
  have hi : i < ts.length := by
    rw [h.1]
    exact (List.getElem?_eq_some_iff.mp e).1
  exact ⟨ts[i], List.getElem?_eq_getElem hi, h.2 i _ o (List.getElem?_eq_getElem hi) e⟩
theorem Objs.app {H : Hp} {ts us : List Addr} {os ps : List HO} (h : Objs H ts os) (h2 : Objs H us ps) : Objs H (ts ++ us) (os ++ ps) := by
  refine ⟨by simp [h.1, h2.1], fun i u v a b => ?_⟩
  by_cases hi : i < ts.length
  · rw [List.getElem?_append_left hi] at a
    rw [List.getElem?_append_left (h.1 ▸ hi)] at b
    exact h.2 i u v a b
  · rw [List.getElem?_append_right (by omega)] at a
    rw [List.getElem?_append_right (by have := h.1; omega)] at b
    rw [h.1] at a
    exact h2.2 _ u v a b
/-- the list at p holds, one behind the other, objects os that stand elsewhere -/
def LO (H : Hp) (p : Addr) (os : List HO) : Prop := ∃ ts : List Addr, H p = some (.lst (ts.map V.ref)) ∧ p ∉ ts ∧ Objs H ts os
theorem LO.same {H H' : Hp} {p : Addr} {os : List HO} (s : Same H H') (h : LO H p os) : LO H' p os := by
  obtain ⟨ts, a, b, c⟩ := h
  exact ⟨ts, s _ _ a, b, c.same s⟩
theorem LO.nil (H : Hp) (p : Addr) : LO (upd H p (.lst [])) p [] := ⟨[], upd_same, by simp, Objs.nil _⟩
theorem LO.push {H : Hp} {p t : Addr} {os : List HO} {o : HO} (h : LO H p os) (e : H t = some o) (ne : t ≠ p) :
    ∃ acc, H p = some (.lst acc) ∧ acc.length = os.length ∧ LO (upd H p (.lst (acc ++ [.ref t]))) p (os ++ [o]) := by
  obtain ⟨ts, a, b, c⟩ := h
  refine ⟨ts.map V.ref, a, by rw [List.length_map]; exact c.1, ts ++ [t], by rw [upd_same, List.map_append]; rfl, ?_, ?_⟩
  · simp only [List.mem_append, List.mem_singleton, not_or]
    exact ⟨b, ne.symm⟩
  · refine (c.push e).keep fun u hu v hv => ?_
    rw [upd_ne ?_]
    · exact hv
    · rcases List.mem_append.mp hu with z | z
      · exact fun y => b (y ▸ z)
      · rw [List.mem_singleton.mp z]
        exact ne
theorem LO.sql {K : PySem.W.Frag} {H : Hp} {p : Addr} {os : List HO} (h : LO H p os) : ∃ ts : List Addr, SqL K H p (ts.map V.ref) ∧ ts.length = os.length := by
  obtain ⟨ts, a, b, c⟩ := h
  exact ⟨ts, SqL.of a, c.1⟩
theorem Objs.away {H : Hp} {ts : List Addr} {os : List HO} (h : Objs H ts os) {r : Addr} (nr : H r = none) : r ∉ ts := by
  intro z
  obtain ⟨i, hi⟩ := List.getElem?_of_mem z
  have hl : i < os.length := by
    rw [← h.1]
    exact (List.getElem?_eq_some_iff.mp hi).1
  have e := h.2 i r _ hi (List.getElem?_eq_getElem hl)
  rw [nr] at e
  cases e
/-- two such lists one behind the other, in a new one -/
theorem LO.cat {H : Hp} {p q : Addr} {os us : List HO} (h : LO H p os) (h2 : LO H q us) :
    ∃ xs ys, H p = some (.lst xs) ∧ H q = some (.lst ys) ∧ xs.length = os.length ∧ ys.length = us.length ∧ ∀ r, H r = none → LO (upd H r (.lst (xs ++ ys))) r (os ++ us) := by
  obtain ⟨ts, a, b, c⟩ := h
  obtain ⟨vs, a2, b2, c2⟩ := h2
  refine ⟨_, _, a, a2, by rw [List.length_map]; exact c.1, by rw [List.length_map]; exact c2.1, fun r nr => ⟨ts ++ vs, by rw [upd_same, List.map_append], ?_, (c.app c2).same (same_up nr)⟩⟩
  rw [List.mem_append, not_or]
  exact ⟨c.away nr, c2.away nr⟩
/-- the same, the first one grown in its place -/
theorem LO.ext {H : Hp} {p q : Addr} {os us : List HO} (h : LO H p os) (h2 : LO H q us) (n : ∀ ts : List Addr, H q = some (.lst (ts.map V.ref)) → p ∉ ts) :
    ∃ xs ys, H p = some (.lst xs) ∧ H q = some (.lst ys) ∧ xs.length = os.length ∧ ys.length = us.length ∧ LO (upd H p (.lst (xs ++ ys))) p (os ++ us) := by
  obtain ⟨ts, a, b, c⟩ := h
  obtain ⟨vs, a2, b2, c2⟩ := h2
  have b3 := n vs a2
  have bb : p ∉ ts ++ vs := by
    rw [List.mem_append, not_or]
    exact ⟨b, b3⟩
  refine ⟨_, _, a, a2, by rw [List.length_map]; exact c.1, by rw [List.length_map]; exact c2.1, ts ++ vs, by rw [upd_same, List.map_append], bb, ?_⟩
  refine (c.app c2).keep fun u hu v hv => ?_
  have nu : u ≠ p := fun z => by
    rw [z] at hu
    exact bb hu
  rw [upd_ne nu]
  exact hv

theorem LO.put {H : Hp} {r o : Addr} {os : List HO} {x : HO} (h : LO H r os) (n : r ≠ o) (off : ∀ ts : List Addr, H r = some (.lst (ts.map V.ref)) → o ∉ ts) : LO (upd H o x) r os := by
  obtain ⟨ts, a, b, c⟩ := h
  have z := off ts a
  refine ⟨ts, by rw [upd_ne n]; exact a, b, c.keep fun u hu v hv => ?_⟩
  have nu : u ≠ o := fun e => by
    rw [e] at hu
    exact z hu
  rw [upd_ne nu]
  exact hv
theorem LO.lst {H : Hp} {p : Addr} {os : List HO} (h : LO H p os) : ∃ xs, H p = some (.lst xs) ∧ xs.length = os.length := by
  obtain ⟨ts, a, b, c⟩ := h
  exact ⟨_, a, by rw [List.length_map]; exact c.1⟩
theorem refs_inj : ∀ {ts us : List Addr}, ts.map V.ref = us.map V.ref → ts = us
  | [], [], _ => rfl
  | [], _ :: _, h => by simp at h
  | _ :: _, [], h => by simp at h
  | t :: ts, u :: us, h => by
    rw [List.map_cons, List.map_cons] at h
    injection h with h1 h2
    rw [V.ref.inj h1, refs_inj h2]
/-! ### companies in the heap -/
abbrev Co := List (List Int)
abbrev rowO (r : List Int) : HO := .lst (r.map V.int)
/-- a company is to be read at a -/
def Cm (K : PySem.W.Frag) (H : Hp) (a : Addr) (c : Co) : Prop :=
  ∃ ps : List Addr, SqL K H a (ps.map V.ref) ∧ ps.length = c.length ∧ ∀ (i : Nat) (p : Addr) (r : List Int), ps[i]? = some p → c[i]? = some r → SqL K H p (r.map V.int)
theorem Cm.same {K : PySem.W.Frag} {H H' : Hp} {a : Addr} {c : Co} (s : Same H H') (h : Cm K H a c) : Cm K H' a c := by
  obtain ⟨ps, h1, h2, h3⟩ := h
  exact ⟨ps, s.seq h1, h2, fun i p r e1 e2 => s.seq (h3 i p r e1 e2)⟩
/-- a company stands at a, in objects of its own none of which is in S -/
def Com (S : Addr → Prop) (H : Hp) (a : Addr) (c : Co) : Prop :=
  ∃ ps : List Addr, ¬ S a ∧ (∀ p ∈ ps, ¬ S p) ∧ H a = some (.lst (ps.map V.ref)) ∧ Objs H ps (c.map rowO)
theorem Com.cm {K : PySem.W.Frag} {S : Addr → Prop} {H : Hp} {a : Addr} {c : Co} (h : Com S H a c) : Cm K H a c := by
  obtain ⟨ps, _, _, h1, h2, h3⟩ := h
  refine ⟨ps, SqL.of h1, by rw [h2, List.length_map], fun i p r e1 e2 => SqL.of (h3 i p (rowO r) e1 ?_)⟩
  rw [List.getElem?_map, e2]
  rfl
theorem Com.keep {S : Addr → Prop} {H H' : Hp} {a : Addr} {c : Co} (s : ∀ b o, ¬ S b → H b = some o → H' b = some o) (h : Com S H a c) : Com S H' a c := by
  obtain ⟨ps, h1, h2, h3, h4⟩ := h
  exact ⟨ps, h1, h2, s _ _ h1 h3, h4.keep fun t ht o e => s t o (h2 t ht) e⟩
theorem Com.same {S : Addr → Prop} {H H' : Hp} {a : Addr} {c : Co} (s : Same H H') (h : Com S H a c) : Com S H' a c := h.keep fun b o _ e => s b o e
theorem Com.mono {S T : Addr → Prop} {H : Hp} {a : Addr} {c : Co} (h : Com S H a c) (i : ∀ b, T b → S b) : Com T H a c := by
  obtain ⟨ps, h1, h2, h3, h4⟩ := h
  exact ⟨ps, fun z => h1 (i _ z), fun p hp z => h2 p hp (i _ z), h3, h4⟩

/-! ### the data of lists -/
def intsD (l : List Int) : PyData := .list (l.map PyData.int)
def coD (c : Co) : PyData := .list (c.map intsD)
section
variable {K : PySem.W.Frag} {H H' : Hp}
mutual
theorem dp_same (s : Same H H') : ∀ (d : PyData) (v : V), Dp K H v d → Dp K H' v d
  | .none, _, h => by
    cases h
    exact .non
  | .bool b, _, h => by
    cases h
    exact .bl b
  | .int i, _, h => by
    cases h
    exact .int i
  | .str x, _, h => by
    cases h
    exact .str x
  | .list ds, _, h => by
    cases h with
    | lst h1 h2 => exact .lst (s.seq h1) (dpa_same s ds _ h2)
  | .tuple ds, _, h => by
    cases h with
    | tup h1 h2 =>
      refine .tup ?_ (dpa_same s ds _ h2)
      rcases h1 with (h1 | ⟨o, h1⟩) | h1
      · exact .inl (.inl (s _ _ h1))
      · exact .inl (.inr ⟨o, s _ _ h1⟩)
      · exact .inr h1
  | .dict _, _, h => by cases h
theorem dpa_same (s : Same H H') : ∀ (ds : List PyData) (vs : List V), DpAll K H vs ds → DpAll K H' vs ds
  | [], _, h => by
    cases h
    exact .nil
  | d :: ds, _, h => by
    cases h with
    | cons h1 h2 => exact .cons (dp_same s d _ h1) (dpa_same s ds _ h2)
end
theorem dp_ints : ∀ l : List Int, DpAll K H (l.map V.int) (l.map PyData.int)
  | [] => .nil
  | x :: l => .cons (.int x) (dp_ints l)
theorem dp_row {p : Addr} {l : List Int} (h : SqL K H p (l.map V.int)) : Dp K H (.ref p) (intsD l) := .lst h (dp_ints l)
theorem dpa_of {α : Type} (F : α → PyData) : ∀ (vs : List V) (xs : List α), vs.length = xs.length → (∀ (i : Nat) v x, vs[i]? = some v → xs[i]? = some x → Dp K H v (F x)) → DpAll K H vs (xs.map F)
  | [], [], _, _ => .nil
  | [], _ :: _, h, _ => by simp at h
  | _ :: _, [], h, _ => by simp at h
  | v :: vs, x :: xs, h, f => .cons (f 0 v x rfl rfl) (dpa_of F vs xs (by simpa using h) fun i w y a b => f (i + 1) w y (by simpa using a) (by simpa using b))
theorem Cm.dp {a : Addr} {c : Co} (h : Cm K H a c) : Dp K H (.ref a) (coD c) := by
  obtain ⟨ps, h1, h2, h3⟩ := h
  refine .lst h1 (dpa_of intsD _ _ (by rw [List.length_map, h2]) fun i v x e1 e2 => ?_)
  rw [List.getElem?_map] at e1
  cases e : ps[i]? with
  | none =>
    rw [e] at e1
    cases e1
  | some p =>
    rw [e] at e1
    cases e1
    exact dp_row (h3 i p x e e2)
end

/-! ### a def of the text, and a def that may be called by its name -/
structure Df (K : PySem.W.Frag) (mg : Str → Option Value) (x : Str) (st : Stmt) (ps : List Str) : Prop where
  ex : ∃ f fd, Fun K x x st f fd ∧ mg x = some (.ref f) ∧ Binds K fd ps []
structure Cl (P : Program) (w : World) (K : PySem.W.Frag) (mg : Str → Option Value) (base : Heap) (k : Nat) (x : Str) (sp : Sp) : Prop where
  ex : ∃ f fd ps, FnOk P w K mg base CX0 k f fd ps sp ∧ mg x = some (.ref f) ∧ PySem.W.keepIn K (.ref f) = true ∧ Binds K fd ps []
structure ClG (P : Program) (w : World) (K : PySem.W.Frag) (mg : Str → Option Value) (base : Heap) (k : Nat) (x : Str) (sp : Sp) : Prop where
  ex : ∃ f fd ps, GOk P w K mg base k f fd ps sp ∧ mg x = some (.ref f) ∧ PySem.W.keepIn K (.ref f) = true ∧ Binds K fd ps []
section
variable {P : Program} {w : World} {K : PySem.W.Frag} {mg : Str → Option Value} {base : Heap}
theorem Df.cl {x : Str} {st : Stmt} {ps N : List Str} {k : Nat} {sp : Sp} (D : Df K mg x st ps) (S : FnScope N ps (defScope st)) (len : ∀ vs H Q E, sp vs H Q E → vs.length = ps.length)
    (body : ∀ (f : Addr) (cdv : Value) (A : Around) (outer : List Env) (s : Shared) (H : Hp) (vs : List V) (Q : VK) (E : XK), Room k (A.deeper (envOfC x (defScope st) s.heap.objs.size f cdv)) → sp vs H Q E →
      ∃ t, PSs (cxOf CX0 P w K mg base N x (defScope st) f cdv A outer s H E).nox (defBody st) t ∧
        t { nx := fun _ H' => Q .non H', rt := Q } (start N vs) H) : Cl P w K mg base (k + 1) x sp := by
  obtain ⟨f, fd, F, g, b⟩ := D.ex
  exact ⟨f, fd, ps, F.ok S len (fun cdv A outer s H vs Q E => body f cdv A outer s H vs Q E), g, F.kp, b⟩
theorem Df.clG {x : Str} {st : Stmt} {ps N : List Str} {k : Nat} {sp : Sp} (D : Df K mg x st ps) (S : FnScope N ps (defScope st)) (len : ∀ vs H Q E, sp vs H Q E → vs.length = ps.length)
    (body : ∀ (f : Addr) (cdv : Value) (A : Around) (outer : List Env) (s : Shared) (H : Hp) (vs : List V) (Q : VK) (E : XK), A.guards = some [] → Room k (A.deeper (envOfC x (defScope st) s.heap.objs.size f cdv)) → sp vs H Q E →
      ∃ t, PSs (cxOf CX0 P w K mg base N x (defScope st) f cdv A outer s H E).nox (defBody st) t ∧
        t { nx := fun _ H' => Q .non H', rt := Q } (start N vs) H) : ClG P w K mg base (k + 1) x sp := by
  obtain ⟨f, fd, F, g, b⟩ := D.ex
  exact ⟨f, fd, ps, gok_of F S len (fun cdv A outer s H vs Q E => body f cdv A outer s H vs Q E), g, F.kp, b⟩
end
section
variable {X : Cx} {j k : Nat} {sp : Sp} {x : Str} {p pos : Pos} {e : Expr} {es : List Expr} {t : TA}
theorem pe_c (c : Cl X.prog X.w X.K X.mg X.base k x sp) (hr : Room j X.A) (hg : Gl X x) (ha : PA X (e :: es) t) (hk : k ≤ j := by decide) (hdb : (x == ("__debug__" : Str)) = false := by decide)
    (he : starEach (e :: es) X.env = (false, eval e X.env) :: starEach es X.env := by rfl)
    (hpl : (backTo pos (starEach es X.env)).any (·.1) = false := by rfl) : PE X (.Call (.Name x p) (e :: es) [] pos) (tCall sp [] E0 t) := by
  obtain ⟨f, fd, ps, F, g, kp, b⟩ := c.ex
  exact pe_call F (hr.mono hk) hg g kp b .nil pass0 ha hdb he hpl
theorem pe_g (c : ClG X.prog X.w X.K X.mg X.base k x sp) (hgd : X.A.guards = some []) (hr : Room j X.A) (hg : Gl X x) (ha : PA X (e :: es) t) (hk : k ≤ j := by decide) (hdb : (x == ("__debug__" : Str)) = false := by decide)
    (he : starEach (e :: es) X.env = (false, eval e X.env) :: starEach es X.env := by rfl)
    (hpl : (backTo pos (starEach es X.env)).any (·.1) = false := by rfl) : PE X (.Call (.Name x p) (e :: es) [] pos) (tCall sp [] E0 t) := by
  obtain ⟨f, fd, ps, F, g, kp, b⟩ := c.ex
  exact pe_callG F hgd (hr.mono hk) hg g kp b ha hdb he hpl
end

/-! ### loops by the number of turns, over anything that is walked -/
theorem for_n {J : It} {n : Nat} {g : TG} {tb : TS} {D : Ends} {σ : L2.St} {H : Hp} (Pv : Nat → L2.St → Hp → Prop) (h0 : Pv 0 σ H)
    (hgo : ∀ (i : Nat) (σ : L2.St) (H : Hp), i < n → Pv i σ H → J.go i H) (hst : ∀ (σ : L2.St) (H : Hp), Pv n σ H → J.stop n H)
    (hs : ∀ (i : Nat) (x : V) (σ : L2.St) (H H' : Hp), i < n → Pv i σ H → J.yld i H x H' → g x σ H' fun σ2 H2 => tb { D with nx := Pv (i + 1), ct := Pv (i + 1), bk := D.nx } σ2 H2)
    (hd : ∀ (σ : L2.St) (H : Hp), Pv n σ H → D.nx σ H) :
    ∃ W : Nat → Nat → L2.St → Hp → Prop, (∃ m, W 0 m σ H) ∧ ∀ i m σ H, W i m σ H →
      (J.stop i H ∧ D.nx σ H) ∨ (J.go i H ∧ ∃ N : L2.St → Hp → Prop, (∀ σ' H', N σ' H' → ∃ m', m' < m ∧ W (i + 1) m' σ' H') ∧
        ∀ x H', J.yld i H x H' → g x σ H' fun σ2 H2 => tb { D with nx := N, ct := N, bk := D.nx } σ2 H2) := by
  refine ⟨fun i m σ H => m + i = n ∧ Pv i σ H, ⟨n, rfl, h0⟩, ?_⟩
  rintro i m σ H ⟨em, p⟩
  cases m with
  | zero =>
    have e : i = n := by omega
    subst e
    exact Or.inl ⟨hst σ H p, hd σ H p⟩
  | succ m =>
    have hi : i < n := by omega
    exact Or.inr ⟨hgo i σ H hi p, Pv (i + 1), fun σ' H' p' => ⟨m, Nat.lt_succ_self m, by omega, p'⟩, fun x H' y => hs i x σ H H' hi p y⟩
theorem lc_n {J : It} {n : Nat} {g : TG} {tt : TT} {te : TE} {vs : List Nat} {σ : L2.St} {H1 : Hp} {D : Addr} {Qd : Hp → Prop} (Pv : Nat → Hp → Prop) (h0 : Pv 0 (upd H1 D (.lst [])))
    (hgo : ∀ (i : Nat) (H : Hp), i < n → Pv i H → J.go i H) (hst : ∀ (H : Hp), Pv n H → J.stop n H)
    (hs : ∀ (i : Nat) (x : V) (H H' : Hp), i < n → Pv i H → J.yld i H x H' → g x (wipe σ vs) H' fun σ2 H2 => wipe σ2 vs = wipe σ vs ∧ tt σ2 H2 fun b H3 =>
      if b = true then te σ2 H3 fun y H4 => ∃ acc, H4 D = some (.lst acc) ∧ acc.length < sizeLine ∧ Pv (i + 1) (upd H4 D (.lst (acc ++ [y]))) else Pv (i + 1) H3)
    (hd : ∀ H, Pv n H → Qd H) :
    ∃ W : Nat → Nat → Hp → Prop, (∃ m, W 0 m (upd H1 D (.lst []))) ∧ ∀ i m H, W i m H →
      (J.stop i H ∧ Qd H) ∨ (J.go i H ∧ ∃ Nx : Hp → Prop, (∀ H', Nx H' → ∃ m', m' < m ∧ W (i + 1) m' H') ∧ ∀ x H', J.yld i H x H' → g x (wipe σ vs) H' fun σ2 H2 => wipe σ2 vs = wipe σ vs ∧ tt σ2 H2 fun b H3 =>
        if b = true then te σ2 H3 fun y H4 => ∃ acc, H4 D = some (.lst acc) ∧ acc.length < sizeLine ∧ Nx (upd H4 D (.lst (acc ++ [y]))) else Nx H3) := by
  refine ⟨fun i m H => m + i = n ∧ Pv i H, ⟨n, rfl, h0⟩, ?_⟩
  rintro i m H ⟨em, p⟩
  cases m with
  | zero =>
    have e : i = n := by omega
    subst e
    exact Or.inl ⟨hst H p, hd H p⟩
  | succ m =>
    have hi : i < n := by omega
    exact Or.inr ⟨hgo i H hi p, Pv (i + 1), fun H' p' => ⟨m, Nat.lt_succ_self m, by omega, p'⟩, fun x H' y => hs i x H H' hi p y⟩
end Tw
set_option Elab.async false
set_option linter.all false
set_option maxRecDepth 100000
/-! the text by places; printed by a program of ours (wip/gentxt.py) -/
namespace Tw
open PySem PySem.Spec PyProof.Rows L2 TwG
def topS (i : Nat) : Stmt := PySem.Challenge.pw_twinties_k20_whole_couples_that_differ.main.body.getD i (.Pass ⟨0, 0, 0, 0⟩)
abbrev sIsWhole : Stmt := topS 8
theorem cIsWhole : FnScope ["value"] ["value"] (defScope sIsWhole) := ⟨rfl, rfl, rfl, by decide +kernel, rfl, by decide +kernel, by decide +kernel⟩
abbrev sIsBetween : Stmt := topS 9
theorem cIsBetween : FnScope ["value", "low", "high"] ["value", "low", "high"] (defScope sIsBetween) := ⟨rfl, rfl, rfl, by decide +kernel, rfl, by decide +kernel, by decide +kernel⟩
abbrev sCheckNumber : Stmt := topS 10
theorem cCheckNumber : FnScope ["number", "low", "high"] ["number", "low", "high"] (defScope sCheckNumber) := ⟨rfl, rfl, rfl, by decide +kernel, rfl, by decide +kernel, by decide +kernel⟩
abbrev sCheckKinds : Stmt := topS 11
theorem cCheckKinds : FnScope ["kinds"] ["kinds"] (defScope sCheckKinds) := ⟨rfl, rfl, rfl, by decide +kernel, rfl, by decide +kernel, by decide +kernel⟩
abbrev sAreTies : Stmt := topS 12
theorem cAreTies : FnScope ["kinds", "size", "value", "item"] ["kinds", "size", "value"] (defScope sAreTies) := ⟨rfl, rfl, rfl, by decide +kernel, rfl, by decide +kernel, by decide +kernel⟩
abbrev sIsCompanyValue : Stmt := topS 13
theorem cIsCompanyValue : FnScope ["kinds", "value", "person", "row"] ["kinds", "value"] (defScope sIsCompanyValue) := ⟨rfl, rfl, rfl, by decide +kernel, rfl, by decide +kernel, by decide +kernel⟩
abbrev sCheckCompany : Stmt := topS 14
theorem cCheckCompany : FnScope ["kinds", "company"] ["kinds", "company"] (defScope sCheckCompany) := ⟨rfl, rfl, rfl, by decide +kernel, rfl, by decide +kernel, by decide +kernel⟩
abbrev sCheckPair : Stmt := topS 15
theorem cCheckPair : FnScope ["kinds", "one", "other"] ["kinds", "one", "other"] (defScope sCheckPair) := ⟨rfl, rfl, rfl, by decide +kernel, rfl, by decide +kernel, by decide +kernel⟩
abbrev sTieOf : Stmt := topS 16
theorem cTieOf : FnScope ["company", "one", "other"] ["company", "one", "other"] (defScope sTieOf) := ⟨rfl, rfl, rfl, by decide +kernel, rfl, by decide +kernel, by decide +kernel⟩
abbrev sStandsAlike : Stmt := topS 17
theorem cStandsAlike : FnScope ["company", "one", "other", "others", "person"] ["company", "one", "other"] (defScope sStandsAlike) := ⟨rfl, rfl, rfl, by decide +kernel, rfl, by decide +kernel, by decide +kernel⟩
abbrev sCouplesOf : Stmt := topS 18
theorem cCouplesOf : FnScope ["company", "found", "one", "other"] ["company"] (defScope sCouplesOf) := ⟨rfl, rfl, rfl, by decide +kernel, rfl, by decide +kernel, by decide +kernel⟩
abbrev sWordAt : Stmt := topS 20
theorem cWordAt : FnScope ["company", "first", "second", "third", "low", "middle", "high"] ["company", "first", "second", "third"] (defScope sWordAt) := ⟨rfl, rfl, rfl, by decide +kernel, rfl, by decide +kernel, by decide +kernel⟩
abbrev sThreesOf : Stmt := topS 21
theorem cThreesOf : FnScope ["people", "found", "place", "first", "at", "third"] ["people"] (defScope sThreesOf) := ⟨rfl, rfl, rfl, by decide +kernel, rfl, by decide +kernel, by decide +kernel⟩
abbrev sFoursOf : Stmt := topS 22
theorem cFoursOf : FnScope ["people", "found", "first", "second", "third", "last"] ["people"] (defScope sFoursOf) := ⟨rfl, rfl, rfl, by decide +kernel, rfl, by decide +kernel, by decide +kernel⟩
abbrev sFourTies : Stmt := topS 23
theorem cFourTies : FnScope ["company", "lot", "first", "second", "third", "last", "rows", "low", "high"] ["company", "lot"] (defScope sFourTies) := ⟨rfl, rfl, rfl, by decide +kernel, rfl, by decide +kernel, by decide +kernel⟩
abbrev sIsFirm : Stmt := topS 24
theorem cIsFirm : FnScope ["ties", "pairs", "low", "high", "one", "two"] ["ties"] (defScope sIsFirm) := ⟨rfl, rfl, rfl, by decide +kernel, rfl, by decide +kernel, by decide +kernel⟩
abbrev sWordsAmong : Stmt := topS 25
theorem cWordsAmong : FnScope ["company", "people", "first", "second", "third"] ["company", "people"] (defScope sWordsAmong) := ⟨rfl, rfl, rfl, by decide +kernel, rfl, by decide +kernel, by decide +kernel⟩
abbrev sFirmAmong : Stmt := topS 26
theorem cFirmAmong : FnScope ["company", "people", "found", "lot", "item"] ["company", "people"] (defScope sFirmAmong) := ⟨rfl, rfl, rfl, by decide +kernel, rfl, by decide +kernel, by decide +kernel⟩
abbrev sJoinedIn : Stmt := topS 27
theorem cJoinedIn : FnScope ["one", "other", "people"] ["one", "other", "people"] (defScope sJoinedIn) := ⟨rfl, rfl, rfl, by decide +kernel, rfl, by decide +kernel, by decide +kernel⟩
abbrev sSameWords : Stmt := topS 28
theorem cSameWords : FnScope ["kinds", "one", "other"] ["kinds", "one", "other"] (defScope sSameWords) := ⟨rfl, rfl, rfl, by decide +kernel, rfl, by decide +kernel, by decide +kernel⟩
abbrev sLoneCouple : Stmt := topS 30
theorem cLoneCouple : FnScope ["kinds", "one", "other", "low", "high"] ["kinds", "one", "other"] (defScope sLoneCouple) := ⟨rfl, rfl, rfl, by decide +kernel, rfl, by decide +kernel, by decide +kernel⟩
abbrev sDiffering : Stmt := topS 32
theorem cDiffering : FnScope ["kinds", "one", "other", "low", "high"] ["kinds", "one", "other"] (defScope sDiffering) := ⟨rfl, rfl, rfl, by decide +kernel, rfl, by decide +kernel, by decide +kernel⟩
abbrev sLHash : Stmt := topS 34
theorem cLHash : FnScope ["_law_seed", "_law_index", "_law_mixed"] ["_law_seed", "_law_index"] (defScope sLHash) := ⟨rfl, rfl, rfl, by decide +kernel, rfl, by decide +kernel, by decide +kernel⟩
abbrev sLRandom : Stmt := topS 35
theorem cLRandom : FnScope ["_law_generator_here", "_law_bound", "_law_drawn", "_law_turn"] ["_law_generator_here", "_law_bound"] (defScope sLRandom) := ⟨rfl, rfl, rfl, by decide +kernel, rfl, by decide +kernel, by decide +kernel⟩
abbrev sLCell : Stmt := topS 36
theorem cLCell : FnScope ["_law_script", "_law_index"] ["_law_script", "_law_index"] (defScope sLCell) := ⟨rfl, rfl, rfl, by decide +kernel, rfl, by decide +kernel, by decide +kernel⟩
abbrev sLGenerator : Stmt := topS 37
theorem cLGenerator : FnScope ["_law_script", "_law_index", "_law_seed"] ["_law_script", "_law_index"] (defScope sLGenerator) := ⟨rfl, rfl, rfl, by decide +kernel, rfl, by decide +kernel, by decide +kernel⟩
abbrev sLTie : Stmt := topS 38
theorem cLTie : FnScope ["_law_rows", "_law_one", "_law_other"] ["_law_rows", "_law_one", "_law_other"] (defScope sLTie) := ⟨rfl, rfl, rfl, by decide +kernel, rfl, by decide +kernel, by decide +kernel⟩
abbrev sLGrown : Stmt := topS 39
theorem cLGrown : FnScope ["_law_generator_here", "_law_kinds", "_law_size", "_law_rows", "_law_way", "_law_person", "_law_mate", "_law_row", "_law_order", "_law_left", "_law_turn", "_law_other", "_law_at", "_law_to"] ["_law_generator_here", "_law_kinds", "_law_size"] (defScope sLGrown) := ⟨rfl, rfl, rfl, by decide +kernel, rfl, by decide +kernel, by decide +kernel⟩
abbrev sLAlike : Stmt := topS 40
theorem cLAlike : FnScope ["_law_rows", "_law_one", "_law_other", "_law_person"] ["_law_rows", "_law_one", "_law_other"] (defScope sLAlike) := ⟨rfl, rfl, rfl, by decide +kernel, rfl, by decide +kernel, by decide +kernel⟩
abbrev sLCouples : Stmt := topS 41
theorem cLCouples : FnScope ["_law_size", "_law_found", "_law_one", "_law_other"] ["_law_size"] (defScope sLCouples) := ⟨rfl, rfl, rfl, by decide +kernel, rfl, by decide +kernel, by decide +kernel⟩
abbrev sLNear : Stmt := topS 42
theorem cLNear : FnScope ["_law_kinds", "_law_rows", "_law_found", "_law_one", "_law_other", "_law_kind", "_law_made", "_law_row"] ["_law_kinds", "_law_rows"] (defScope sLNear) := ⟨rfl, rfl, rfl, by decide +kernel, rfl, by decide +kernel, by decide +kernel⟩
abbrev sLLed : Stmt := topS 44
theorem cLLed : FnScope ["_law_generator_here", "_law_kinds", "_law_rows", "_law_many", "_law_turn", "_law_near_here"] ["_law_generator_here", "_law_kinds", "_law_rows", "_law_many"] (defScope sLLed) := ⟨rfl, rfl, rfl, by decide +kernel, rfl, by decide +kernel, by decide +kernel⟩
abbrev sLBent : Stmt := topS 45
theorem cLBent : FnScope ["_law_generator_here", "_law_kinds", "_law_rows", "_law_made", "_law_turn", "_law_other", "_law_row"] ["_law_generator_here", "_law_kinds", "_law_rows"] (defScope sLBent) := ⟨rfl, rfl, rfl, by decide +kernel, rfl, by decide +kernel, by decide +kernel⟩
abbrev sLDue : Stmt := topS 48
theorem cLDue : FnScope ["_law_rows", "_law_other", "_law_one", "_law_mate"] ["_law_rows", "_law_other"] (defScope sLDue) := ⟨rfl, rfl, rfl, by decide +kernel, rfl, by decide +kernel, by decide +kernel⟩
abbrev sLRoadRight : Stmt := topS 49
theorem cLRoadRight : FnScope ["_law_kinds", "_law_rows", "_law_other", "_law_one", "_law_two", "_law_turn", "_law_couples_here", "_law_low", "_law_high", "_law_row"] ["_law_kinds", "_law_rows", "_law_other"] (defScope sLRoadRight) := ⟨rfl, rfl, rfl, by decide +kernel, rfl, by decide +kernel, by decide +kernel⟩
abbrev sLPairRight : Stmt := topS 50
theorem cLPairRight : FnScope ["_law_kinds", "_law_rows", "_law_other", "_law_due_here", "_law_kept"] ["_law_kinds", "_law_rows", "_law_other"] (defScope sLPairRight) := ⟨rfl, rfl, rfl, by decide +kernel, rfl, by decide +kernel, by decide +kernel⟩
abbrev sLaw : Stmt := topS 51
theorem cLaw : FnScope ["_law_script", "_law_index", "_law_generator_here", "_law_kinds", "_law_size", "_law_rows", "_law_joined", "_law_other", "_law_row", "_law_told"] ["_law_script"] (defScope sLaw) := ⟨rfl, rfl, rfl, by decide +kernel, rfl, by decide +kernel, by decide +kernel⟩
/-- what the names of the top hold -/
structure Txt (K : PySem.W.Frag) (mg : Str → Option Value) : Prop where
  blen : mg "len" = none
  brange : mg "range" = none
  bmax : mg "max" = none
  bmin : mg "min" = none
  bisinstance : mg "isinstance" = none
  bint : mg "int" = none
  bbool : mg "bool" = none
  blist : mg "list" = none
  benumerate : mg "enumerate" = none
  bsum : mg "sum" = none
  brepr : mg "repr" = none
  dIsWhole : Df K mg "is_whole" sIsWhole ["value"]
  dIsBetween : Df K mg "is_between" sIsBetween ["value", "low", "high"]
  dCheckNumber : Df K mg "check_number" sCheckNumber ["number", "low", "high"]
  dCheckKinds : Df K mg "check_kinds" sCheckKinds ["kinds"]
  dAreTies : Df K mg "are_ties" sAreTies ["kinds", "size", "value"]
  dIsCompanyValue : Df K mg "is_company_value" sIsCompanyValue ["kinds", "value"]
  dCheckCompany : Df K mg "check_company" sCheckCompany ["kinds", "company"]
  dCheckPair : Df K mg "check_pair" sCheckPair ["kinds", "one", "other"]
  dTieOf : Df K mg "tie_of" sTieOf ["company", "one", "other"]
  dStandsAlike : Df K mg "stands_alike" sStandsAlike ["company", "one", "other"]
  dCouplesOf : Df K mg "couples_of" sCouplesOf ["company"]
  dWordAt : Df K mg "word_at" sWordAt ["company", "first", "second", "third"]
  dThreesOf : Df K mg "threes_of" sThreesOf ["people"]
  dFoursOf : Df K mg "fours_of" sFoursOf ["people"]
  dFourTies : Df K mg "four_ties" sFourTies ["company", "lot"]
  dIsFirm : Df K mg "is_firm" sIsFirm ["ties"]
  dWordsAmong : Df K mg "words_among" sWordsAmong ["company", "people"]
  dFirmAmong : Df K mg "firm_among" sFirmAmong ["company", "people"]
  dJoinedIn : Df K mg "joined_in" sJoinedIn ["one", "other", "people"]
  dSameWords : Df K mg "same_words" sSameWords ["kinds", "one", "other"]
  dLoneCouple : Df K mg "lone_couple" sLoneCouple ["kinds", "one", "other"]
  dDiffering : Df K mg "differing" sDiffering ["kinds", "one", "other"]
  dLHash : Df K mg "_law_hash" sLHash ["_law_seed", "_law_index"]
  dLRandom : Df K mg "_law_random" sLRandom ["_law_generator_here", "_law_bound"]
  dLCell : Df K mg "_law_cell" sLCell ["_law_script", "_law_index"]
  dLGenerator : Df K mg "_law_generator" sLGenerator ["_law_script", "_law_index"]
  dLTie : Df K mg "_law_tie" sLTie ["_law_rows", "_law_one", "_law_other"]
  dLGrown : Df K mg "_law_grown" sLGrown ["_law_generator_here", "_law_kinds", "_law_size"]
  dLAlike : Df K mg "_law_alike" sLAlike ["_law_rows", "_law_one", "_law_other"]
  dLCouples : Df K mg "_law_couples" sLCouples ["_law_size"]
  dLNear : Df K mg "_law_near" sLNear ["_law_kinds", "_law_rows"]
  dLLed : Df K mg "_law_led" sLLed ["_law_generator_here", "_law_kinds", "_law_rows", "_law_many"]
  dLBent : Df K mg "_law_bent" sLBent ["_law_generator_here", "_law_kinds", "_law_rows"]
  dLDue : Df K mg "_law_due" sLDue ["_law_rows", "_law_other"]
  dLRoadRight : Df K mg "_law_road_right" sLRoadRight ["_law_kinds", "_law_rows", "_law_other"]
  dLPairRight : Df K mg "_law_pair_right" sLPairRight ["_law_kinds", "_law_rows", "_law_other"]
  dLaw : Df K mg "law" sLaw ["_law_script"]
  mK : ∃ t, mg "MOST_KINDS" = some (.int 9 t)
  mP : ∃ t, mg "MOST_PEOPLE" = some (.int 40 t)
end Tw
set_option Elab.async false
set_option linter.all false
set_option maxRecDepth 100000
set_option maxHeartbeats 4000000
/-! the checks of arguments -/
namespace Tw
open PySem PySem.Spec PyProof.Rows L2 TwG
theorem sql_ty {K : PySem.W.Frag} {H : Hp} {a : Addr} {xs : List V} (h : SqL K H a xs) : TyX K H (.ref a) (.type "list") := by
  rcases h with (h | ⟨o, h⟩) | ⟨o, its, n, e, c, _⟩
  · exact .base (.lst h)
  · exact .base (.frz h)
  · exact .kList e c
theorem qT {Q : VK} {b : Bool} {H : Hp} (q : Q (.bl true) H) (e : b = true) : Q (.bl b) H := by
  rw [e]
  exact q
theorem qI {Q : VK} {i j : Int} {H : Hp} (q : Q (.int i) H) (e : j = i) : Q (.int j) H := by
  rw [e]
  exact q
theorem at_int {r : List Int} {i : Nat} {x : V} (h : (r.map V.int)[i]? = some x) : ∃ v, r[i]? = some v ∧ x = .int v := by
  rw [List.getElem?_map] at h
  cases e : r[i]? with
  | none =>
    rw [e] at h
    cases h
  | some v =>
    rw [e] at h
    exact ⟨v, rfl, (Option.some.inj h).symm⟩
theorem at_ref {r : List Addr} {i : Nat} {x : V} (h : (r.map V.ref)[i]? = some x) : ∃ v, r[i]? = some v ∧ x = .ref v := by
  rw [List.getElem?_map] at h
  cases e : r[i]? with
  | none =>
    rw [e] at h
    cases h
  | some v =>
    rw [e] at h
    exact ⟨v, rfl, (Option.some.inj h).symm⟩
/-! ### data that may be compared -/
structure Lay (m : Nat) (d : PyData) : Prop where
  lay : d.canLay0 = true
  dep : d.depth ≤ m
theorem Lay.int (m : Nat) (i : Int) : Lay m (.int i) := ⟨by simp only [PyData.canLay0], by simp only [PyData.depth]; exact Nat.zero_le _⟩
theorem Lay.non (m : Nat) : Lay m .none := ⟨by simp only [PyData.canLay0], by simp only [PyData.depth]; exact Nat.zero_le _⟩
theorem lay_all {m : Nat} : ∀ ds : List PyData, (∀ d ∈ ds, Lay m d) → PyData.canLayAll0 ds = true ∧ PyData.depthAll ds ≤ m
  | [], _ => ⟨by simp only [PyData.canLayAll0], by simp only [PyData.depthAll]; exact Nat.zero_le _⟩
  | d :: ds, h => by
    have h1 := h d List.mem_cons_self
    have h2 := lay_all ds fun e he => h e (List.mem_cons_of_mem _ he)
    refine ⟨?_, ?_⟩
    · simp only [PyData.canLayAll0, h1.lay, h2.1, Bool.and_self]
    · simp only [PyData.depthAll]
      exact Nat.max_le.mpr ⟨h1.dep, h2.2⟩
theorem Lay.list {m : Nat} {ds : List PyData} (h : ∀ d ∈ ds, Lay m d) : Lay (m + 1) (.list ds) := by
  have z := lay_all ds h
  exact ⟨by simp only [PyData.canLay0]; exact z.1, by simp only [PyData.depth]; exact Nat.succ_le_succ z.2⟩
theorem Lay.tuple {m : Nat} {ds : List PyData} (h : ∀ d ∈ ds, Lay m d) : Lay (m + 1) (.tuple ds) := by
  have z := lay_all ds h
  exact ⟨by simp only [PyData.canLay0]; exact z.1, by simp only [PyData.depth]; exact Nat.succ_le_succ z.2⟩
theorem Lay.shaped {m : Nat} {d : PyData} (h : Lay m d) (hm : m ≤ 64 := by decide) : SeqAt.shaped d = true := by
  unfold SeqAt.shaped
  rw [h.lay, Bool.true_and]
  exact decide_eq_true (Nat.le_trans h.dep hm)
theorem Lay.nil (m : Nat) : Lay (m + 1) (.list []) := .list fun d hd => absurd hd List.not_mem_nil
theorem Lay.ints (m : Nat) (l : List Int) : Lay (m + 1) (intsD l) := .list fun d hd => by
  obtain ⟨i, _, rfl⟩ := List.mem_map.mp hd
  exact .int m i
theorem eqv_nil (ds : List PyData) : PyData.eqv (.list ds) (.list []) = ds.isEmpty := by
  cases ds with
  | nil => simp only [PyData.eqv, PyData.eqvAll, List.isEmpty_nil]
  | cons d ds => simp only [PyData.eqv, PyData.eqvAll, List.isEmpty_cons]
/-- LIST == [] -/
theorem eq_nil {K : PySem.W.Frag} {σ : L2.St} {H : Hp} {D : Addr} {ds : List PyData} {m : Nat} {Q : VK} (hd : Dp K H (.ref D) (.list ds)) (l : Lay m (.list ds)) (q : ∀ H', Same H H' → Q (.bl ds.isEmpty) H') (hm : m ≤ 64 := by decide) :
    tLst tNil σ H fun y H2 => rEqD K (.ref D) y H2 Q := by
  refine ⟨Nat.zero_le _, fun p hp => ⟨.list ds, .list [], dp_same (same_up hp) _ _ hd, .lst (SqL.of upd_same) .nil, l.shaped hm, (Lay.nil 0).shaped, ?_⟩⟩
  rw [eqv_nil]
  exact q _ (same_up hp)
/-- what a company is: the row of each person holds as many kinds as there are persons ahead -/
structure Sh (k : Int) (c : Co) : Prop where
  n1 : 1 ≤ c.length
  n2 : c.length ≤ 40
  row : ∀ (i : Nat) (r : List Int), c[i]? = some r → r.length = i
  val : ∀ (i : Nat) (r : List Int), c[i]? = some r → ∀ x ∈ r, 0 ≤ x ∧ x < k
def spWhole : Sp := fun vs H Q _ => ∃ i : Int, vs = [.int i] ∧ Q (.bl true) H
def spBetween : Sp := fun vs H Q _ => ∃ v lo hi : Int, vs = [.int v, .int lo, .int hi] ∧ lo ≤ v ∧ v ≤ hi ∧ Q (.bl true) H
def spNumber : Sp := fun vs H Q _ => ∃ v lo hi : Int, vs = [.int v, .int lo, .int hi] ∧ lo ≤ v ∧ v ≤ hi ∧ Q .non H
def spKinds : Sp := fun vs H Q _ => ∃ k : Int, vs = [.int k] ∧ 2 ≤ k ∧ k ≤ 9 ∧ Q .non H
def spTies (K : PySem.W.Frag) : Sp := fun vs H Q _ => ∃ (k : Int) (p : Addr) (r : List Int), vs = [.int k, .int (r.length : Int), .ref p] ∧ SqL K H p (r.map V.int) ∧ r.length ≤ 40 ∧ (∀ x ∈ r, 0 ≤ x ∧ x < k) ∧ ∀ H', Same H H' → Q (.bl true) H'
def spIsCo (K : PySem.W.Frag) : Sp := fun vs H Q _ => ∃ (k : Int) (a : Addr) (c : Co), vs = [.int k, .ref a] ∧ Cm K H a c ∧ Sh k c ∧ ∀ H', Same H H' → Q (.bl true) H'
def spCheckCo (K : PySem.W.Frag) : Sp := fun vs H Q _ => ∃ (k : Int) (a : Addr) (c : Co), vs = [.int k, .ref a] ∧ 2 ≤ k ∧ k ≤ 9 ∧ Cm K H a c ∧ Sh k c ∧ ∀ H', Same H H' → Q .non H'
def spCheckPair (K : PySem.W.Frag) : Sp := fun vs H Q _ => ∃ (k : Int) (a b : Addr) (c d : Co), vs = [.int k, .ref a, .ref b] ∧ 2 ≤ k ∧ k ≤ 9 ∧ Cm K H a c ∧ Sh k c ∧ Cm K H b d ∧ Sh k d ∧ c.length = d.length ∧ ∀ H', Same H H' → Q .non H'
section
variable {P : Program} {w : World} {K : PySem.W.Frag} {mg : Str → Option Value} {base : Heap}
theorem okWhole (T : Txt K mg) : Cl P w K mg base 1 "is_whole" spWhole := by
  refine T.dIsWhole.cl cIsWhole (fun vs H Q E h => ?_) (fun f cdv A outer s H vs Q E hr h => ?_)
  · obtain ⟨i, rfl, _⟩ := h
    rfl
  · obtain ⟨i, rfl, q⟩ := h
    refine ⟨_, pss_one (ps_ret (pe_and (pe_callB call_isi (by rfl) T.bisinstance boot_isinstance (pa_cons (pv 0) (pa_cons (pe_bltn (v := .ty "int") (by rfl) T.bint boot_int rfl) pa_nil)))
      (pe_one (pe_not (pe_callB call_isi (by rfl) T.bisinstance boot_isinstance (pa_cons (pv 0) (pa_cons (pe_bltn (v := .ty "bool") (by rfl) T.bbool boot_bool rfl) pa_nil))))))), ?_⟩
    refine ⟨_, rfl, _, _, _, _, true, rfl, .ty "int", .base (.int i), kit_ty (by decide +kernel), true, rfl, iteT ?_⟩
    exact ⟨_, rfl, _, _, _, _, false, rfl, .ty "bool", .base (.int i), kit_ty (by decide +kernel), false, rfl, q⟩
theorem okBetween (T : Txt K mg) : Cl P w K mg base 2 "is_between" spBetween := by
  have c1 : Cl P w K mg base 1 "is_whole" spWhole := okWhole T
  refine T.dIsBetween.cl cIsBetween (fun vs H Q E h => ?_) (fun f cdv A outer s H vs Q E hr h => ?_)
  · obtain ⟨v, lo, hi, rfl, _⟩ := h
    rfl
  · obtain ⟨v, lo, hi, rfl, h1, h2, q⟩ := h
    refine ⟨_, pss_cons (ps_if (pt_not (pt_val (pe_c c1 hr (by rfl) (pa_cons (pv 0) pa_nil)))) (pss_one (ps_ret pe_bl)) pss_nil)
      (pss_one (ps_ret (pe_and (pe_or (pe_cmpR op_isN (pv 1) pe_non (nomark _)) (pe_one (pe_cmpR op_ge (pv 0) (pv 1) (nomark _))))
        (pe_one (pe_or (pe_cmpR op_isN (pv 2) pe_non (nomark _)) (pe_one (pe_cmpR op_le (pv 0) (pv 2) (nomark _)))))))), ?_⟩
    refine ⟨_, rfl, v, rfl, true, rfl, iteF ?_⟩
    refine ⟨_, rfl, rfl, false, rfl, iteF ⟨_, rfl, _, rfl, _, _, rfl, rfl, true, congrArg V.bl (decide_eq_true h1), iteT ?_⟩⟩
    exact ⟨_, rfl, rfl, false, rfl, iteF ⟨_, rfl, _, rfl, _, _, rfl, rfl, qT q (decide_eq_true h2)⟩⟩
theorem okNumber (T : Txt K mg) : Cl P w K mg base 3 "check_number" spNumber := by
  have c1 : Cl P w K mg base 2 "is_between" spBetween := okBetween T
  refine T.dCheckNumber.cl cCheckNumber (fun vs H Q E h => ?_) (fun f cdv A outer s H vs Q E hr h => ?_)
  · obtain ⟨v, lo, hi, rfl, _⟩ := h
    rfl
  · obtain ⟨v, lo, hi, rfl, h1, h2, q⟩ := h
    refine ⟨_, pss_one (ps_if (pt_not (pt_val (pe_c c1 hr (by rfl) (pa_cons (pv 0) (pa_cons (pv 1) (pa_cons (pv 2) pa_nil)))))) (pss_one ps_never) pss_nil), ?_⟩
    exact ⟨_, rfl, _, rfl, _, rfl, v, lo, hi, rfl, h1, h2, true, rfl, iteF q⟩
theorem okKinds (T : Txt K mg) : Cl P w K mg base 4 "check_kinds" spKinds := by
  have c1 : Cl P w K mg base 3 "check_number" spNumber := okNumber T
  obtain ⟨tk, mk⟩ := T.mK
  refine T.dCheckKinds.cl cCheckKinds (fun vs H Q E h => ?_) (fun f cdv A outer s H vs Q E hr h => ?_)
  · obtain ⟨v, rfl, _⟩ := h
    rfl
  · obtain ⟨v, rfl, h1, h2, q⟩ := h
    refine ⟨_, pss_one (ps_expr (pe_c c1 hr (by rfl) (pa_cons (pv 0) (pa_cons pe_int (pa_cons (pe_glob (v := .int 9) (by rfl) mk ⟨_, rfl⟩) pa_nil))))), ?_⟩
    exact ⟨_, rfl, v, 2, 9, rfl, h1, h2, q⟩
theorem okTies (T : Txt K mg) : Cl P w K mg base 3 "are_ties" (spTies K) := by
  have c1 : Cl P w K mg base 2 "is_between" spBetween := okBetween T
  refine T.dAreTies.cl cAreTies (fun vs H Q E h => ?_) (fun f cdv A outer s H vs Q E hr h => ?_)
  · obtain ⟨k, p, r, rfl, _⟩ := h
    rfl
  · obtain ⟨k, p, r, rfl, hS, hl, hv, q⟩ := h
    refine ⟨_, pss_cons (ps_if (PW.pt (pw_or (pt_not (pt_val (pe_callB call_isi (by rfl) T.bisinstance boot_isinstance (pa_cons (pv 2) (pa_cons (pe_bltn (v := .ty "list") (by rfl) T.blist boot_list rfl) pa_nil)))))
        (pw_or1 (pt_cmpR op_ne (pe_callB call_len_seq (by rfl) T.blen PySem.boot_len (pa_cons (pv 2) pa_nil)) (pv 1) (nomark _))))) (pss_one (ps_ret pe_bl)) pss_nil)
      (pss_one (ps_ret (pe_cmpR (op_eqD hr.units) (pe_lc (own := [("item", 3)]) (g := gName 3) rfl cAreTies.nd (pi_list (pv 2))
        (blkOk_by (own := [("item", 3)]) (N := ["kinds", "size", "value", "item"]) (sc := defScope sAreTies) (by decide +kernel)) (fun _ _ _ _ _ => pg_name (i := 3) cAreTies.nd rfl (Or.inl rfl))
        (fun _ _ _ _ _ => pts_one (pt_not (pt_val (pe_c c1 hr (by rfl) (pa_cons (pv 3) (pa_cons pe_int (pa_cons (pe_op op_sub (pv 0) pe_int) pa_nil)))))))
        (fun _ _ _ _ _ => pv 3)) (pe_lst pa_nil) (nomark _)))), ?_⟩
    refine ⟨_, rfl, _, _, _, _, true, rfl, .ty "list", sql_ty hS, kit_ty (by decide +kernel), true, rfl, iteF ?_⟩
    refine ⟨_, rfl, p, _, rfl, .inl hS, _, rfl, rfl, _, rfl, iteNS (by rw [List.length_map]) ?_⟩
    refine ⟨_, rfl, p, rfl, ⟨_, hS⟩, fun D hD => lc_list (K := K) (a := p) (xs := r.map V.int) (fun _ H' => Same H H' ∧ H' D = some (.lst [])) ⟨same_up hD, upd_same⟩ (fun i H' _ h => h.1.seq hS) ?_ ?_⟩
    · rintro i x H' hx ⟨sm, hd⟩
      obtain ⟨v, hv1, rfl⟩ := at_int hx
      have hv2 := hv v (List.mem_of_getElem? hv1)
      exact ⟨rfl, _, rfl, _, rfl, k, 1, rfl, rfl, v, 0, k - 1, rfl, hv2.1, by omega, true, rfl, iteF ⟨sm, hd⟩⟩
    · rintro H' ⟨sm, hd⟩
      exact eq_nil (ds := []) (m := 1) (.lst (SqL.of hd) .nil) (Lay.nil 0) fun H2 s2 => q H2 (sm.trans s2)
theorem okIsCo (T : Txt K mg) : Cl P w K mg base 4 "is_company_value" (spIsCo K) := by
  have c1 : Cl P w K mg base 3 "are_ties" (spTies K) := okTies T
  obtain ⟨tk, mk⟩ := T.mP
  refine T.dIsCompanyValue.cl cIsCompanyValue (fun vs H Q E h => ?_) (fun f cdv A outer s H vs Q E hr h => ?_)
  · obtain ⟨k, a, c, rfl, _⟩ := h
    rfl
  · obtain ⟨k, a, c, rfl, hC, sh, q⟩ := h
    obtain ⟨ps, hS, hpl, hrow⟩ := id hC
    have hlen : ((ps.map V.ref).length : Int) = (c.length : Int) := by rw [List.length_map, hpl]
    have h1 := sh.n1
    have h2 := sh.n2
    refine ⟨_, pss_cons (ps_if (PW.pt (pw_or (pt_not (pt_val (pe_callB call_isi (by rfl) T.bisinstance boot_isinstance (pa_cons (pv 1) (pa_cons (pe_bltn (v := .ty "list") (by rfl) T.blist boot_list rfl) pa_nil)))))
        (pw_or1 (pt_not (pt_chain op_le op_le pe_int (pe_callB call_len_seq (by rfl) T.blen PySem.boot_len (pa_cons (pv 1) pa_nil)) (pe_glob (v := .int 40) (by rfl) mk ⟨_, rfl⟩)))))) (pss_one (ps_ret pe_bl)) pss_nil)
      (pss_one (ps_ret (pe_cmpR (op_eqD hr.units) (pe_lc (own := [("person", 2), ("row", 3)]) (g := gTup K 2 (gCons (gName 2) (gCons (gName 3) gNil))) rfl cIsCompanyValue.nd (pi_enum (by rfl) T.benumerate (pa_cons (pv 1) pa_nil))
        (blkOk_by (own := [("person", 2), ("row", 3)]) (N := ["kinds", "value", "person", "row"]) (sc := defScope sIsCompanyValue) (by decide +kernel))
        (fun _ _ _ _ _ => pg_tup rfl (pgs_cons (pg_name (i := 2) cIsCompanyValue.nd rfl (Or.inl rfl)) (pgs_cons (pg_name (i := 3) cIsCompanyValue.nd rfl (Or.inl rfl)) pgs_nil)))
        (fun _ _ _ _ _ => pts_one (pt_not (pt_val (pe_c c1 hr (by rfl) (pa_cons (pv 0) (pa_cons (pv 2) (pa_cons (pv 3) pa_nil)))))))
        (fun _ _ _ _ _ => pv 2)) (pe_lst pa_nil) (nomark _)))), ?_⟩
    refine ⟨_, rfl, _, _, _, _, true, rfl, .ty "list", sql_ty hS, kit_ty (by decide +kernel), true, rfl, iteF ?_⟩
    refine ⟨_, rfl, a, _, rfl, .inl hS, _, _, rfl, rfl, true, congrArg V.bl (decide_eq_true (by omega)), iteT ⟨_, _, rfl, rfl, true, congrArg V.bl (decide_eq_true (by omega)), iteF ?_⟩⟩
    refine ⟨_, rfl, a, _, rfl, hS, fun D hD => lc_n (J := Ite K a) (n := c.length) (fun _ H' => Same H H' ∧ H' D = some (.lst [])) ⟨same_up hD, upd_same⟩
      (fun i H' hi h => ⟨_, _, h.1.seq hS, by rw [List.getElem?_map, List.getElem?_eq_getElem (hpl ▸ hi)]; rfl⟩) (fun H' h => ⟨_, h.1.seq hS, by rw [List.length_map, hpl]; exact Nat.le_refl _⟩) ?_ ?_⟩
    · rintro i x H1 H2 hi ⟨sm, hd⟩ ⟨T', y, rfl, nT, rfl, fy⟩
      obtain ⟨p, hp, rfl⟩ := at_ref (fy _ (sm.seq hS))
      have hr1 : c[i]? = some c[i] := List.getElem?_eq_getElem hi
      have sm2 : Same H (upd H1 T' (.tup [.int (i : Nat), .ref p])) := same_new sm nT
      refine ⟨T', _, rfl, SqT.of upd_same, rfl, _, _, rfl, _, _, rfl, rfl, rfl, _, rfl, _, rfl, _, rfl, k, p, c[i], ?_, sm2.seq (hrow i p _ hp hr1), ?_, sh.val i _ hr1, fun H3 s3 => ⟨true, rfl, iteF ⟨sm2.trans s3, ?_⟩⟩⟩
      · rw [sh.row i _ hr1]
        rfl
      · rw [sh.row i _ hr1]
        omega
      · refine s3 _ _ ?_
        rw [upd_ne (ne_of_none hd nT)]
        exact hd
    · rintro H' ⟨sm, hd⟩
      exact eq_nil (ds := []) (m := 1) (.lst (SqL.of hd) .nil) (Lay.nil 0) fun H2 s2 => q H2 (sm.trans s2)
theorem okCheckCo (T : Txt K mg) : Cl P w K mg base 5 "check_company" (spCheckCo K) := by
  have c1 : Cl P w K mg base 4 "check_kinds" spKinds := okKinds T
  have c2 : Cl P w K mg base 4 "is_company_value" (spIsCo K) := okIsCo T
  refine T.dCheckCompany.cl cCheckCompany (fun vs H Q E h => ?_) (fun f cdv A outer s H vs Q E hr h => ?_)
  · obtain ⟨k, a, c, rfl, _⟩ := h
    rfl
  · obtain ⟨k, a, c, rfl, h1, h2, hC, sh, q⟩ := h
    refine ⟨_, pss_cons (ps_expr (pe_c c1 hr (by rfl) (pa_cons (pv 0) pa_nil)))
      (pss_one (ps_if (pt_not (pt_val (pe_c c2 hr (by rfl) (pa_cons (pv 0) (pa_cons (pv 1) pa_nil))))) (pss_one ps_never) pss_nil)), ?_⟩
    exact ⟨_, rfl, k, rfl, h1, h2, _, rfl, _, rfl, k, a, c, rfl, hC, sh, fun H' s' => ⟨true, rfl, iteF (q H' s')⟩⟩
theorem okCheckPair (T : Txt K mg) : Cl P w K mg base 6 "check_pair" (spCheckPair K) := by
  have c1 : Cl P w K mg base 5 "check_company" (spCheckCo K) := okCheckCo T
  have c2 : Cl P w K mg base 4 "is_company_value" (spIsCo K) := okIsCo T
  refine T.dCheckPair.cl cCheckPair (fun vs H Q E h => ?_) (fun f cdv A outer s H vs Q E hr h => ?_)
  · obtain ⟨k, a, b, c, d, rfl, _⟩ := h
    rfl
  · obtain ⟨k, a, b, c, d, rfl, h1, h2, hC, sh, hD, sh2, hl, q⟩ := h
    refine ⟨_, pss_cons (ps_expr (pe_c c1 hr (by rfl) (pa_cons (pv 0) (pa_cons (pv 1) pa_nil))))
      (pss_cons (ps_if (pt_not (pt_val (pe_c c2 hr (by rfl) (pa_cons (pv 0) (pa_cons (pv 2) pa_nil))))) (pss_one ps_never) pss_nil)
      (pss_one (ps_if (pt_cmpR op_ne (pe_callB call_len_seq (by rfl) T.blen PySem.boot_len (pa_cons (pv 1) pa_nil)) (pe_callB call_len_seq (by rfl) T.blen PySem.boot_len (pa_cons (pv 2) pa_nil)) (nomark _))
        (pss_one ps_never) pss_nil))), ?_⟩
    refine ⟨_, rfl, _, rfl, k, a, c, rfl, h1, h2, hC, sh, fun H1 s1 => ?_⟩
    refine ⟨_, rfl, _, rfl, k, b, d, rfl, hD.same s1, sh2, fun H2 s2 => ⟨true, rfl, iteF ?_⟩⟩
    have s3 : Same H H2 := s1.trans s2
    obtain ⟨ps, p1, p2, _⟩ := hC.same s3
    obtain ⟨qs, q1, q2, _⟩ := hD.same s3
    exact ⟨_, rfl, a, _, rfl, .inl p1, _, rfl, b, _, rfl, .inl q1, rfl, _, rfl, iteNS (by rw [List.length_map, List.length_map, p2, q2, hl]) (q H2 s3)⟩
end
end Tw
set_option Elab.async false
set_option linter.all false
set_option maxRecDepth 100000
set_option maxHeartbeats 4000000
/-! ties, and who stands alike -/
namespace Tw
open PySem PySem.Spec PyProof.Rows L2 TwG
/-! ### the mathematics of it -/
def tieC (c : Co) (i j : Nat) : Int := (c.getD (max i j) []).getD (min i j) 0
def Tri (c : Co) : Prop := ∀ (i : Nat) (r : List Int), c[i]? = some r → r.length = i
theorem tieC_sym (c : Co) : Sym (tieC c) := fun i j => by
  unfold tieC
  rw [Nat.max_comm, Nat.min_comm]
theorem tie_at {c : Co} (t : Tri c) {i j : Nat} (ne : i ≠ j) (hi : i < c.length) (hj : j < c.length) : ∃ r, c[max i j]? = some r ∧ r[min i j]? = some (tieC c i j) := by
  have hm : max i j < c.length := by omega
  have e1 : c[max i j]? = some c[max i j] := List.getElem?_eq_getElem hm
  have hl : c[max i j].length = max i j := t _ _ e1
  have hn : min i j < c[max i j].length := by omega
  refine ⟨_, e1, ?_⟩
  rw [List.getElem?_eq_getElem hn]
  unfold tieC
  rw [List.getD_eq_getElem?_getD, List.getD_eq_getElem?_getD, e1]
  show _ = some ((c[max i j][min i j]?).getD 0)
  rw [List.getElem?_eq_getElem hn]
  rfl
/-- all but two -/
def othB (i j k : Nat) : Bool := !(decide (k = i) || decide (k = j))
def oth (n i j : Nat) : List Nat := (List.range n).filter (othB i j)
def alikeB (c : Co) (i j : Nat) : Bool := ((oth c.length i j).filter fun k => decide (tieC c k i ≠ tieC c k j)).isEmpty
theorem alikeB_iff (c : Co) (i j : Nat) : alikeB c i j = true ↔ AlikeF c.length (tieC c) i j := by
  unfold alikeB AlikeF
  rw [List.isEmpty_iff, List.filter_eq_nil_iff]
  constructor
  · intro h k hk ki kj
    have hm : k ∈ oth c.length i j := by
      unfold oth othB
      rw [List.mem_filter]
      exact ⟨List.mem_range.mpr hk, by simp [ki, kj]⟩
    have z := h k hm
    simpa using z
  · intro h k hk
    unfold oth othB at hk
    rw [List.mem_filter, List.mem_range] at hk
    obtain ⟨h1, h2⟩ := hk
    simp only [Bool.not_eq_true', Bool.or_eq_false_iff, decide_eq_false_iff_not] at h2
    simp [h k h1 h2.1 h2.2]
theorem filter_step (p : Nat → Bool) (t : Nat) : (List.range (t + 1)).filter p = (List.range t).filter p ++ if p t = true then [t] else [] := by
  rw [List.range_succ, List.filter_append]
  cases e : p t <;> simp [e]
theorem take_filter {α : Type} (p : α → Bool) (l : List α) (t : Nat) (x : α) (h : l[t]? = some x) : (l.take (t + 1)).filter p = (l.take t).filter p ++ if p x = true then [x] else [] := by
  rw [List.take_add_one, h, List.filter_append]
  cases e : p x <;> simp [e]
/-! ### the walk -/
theorem inV2 (t i j : Int) : inV (.int t) [.int i, .int j] = (decide (i = t) || decide (j = t)) := by
  show ((i == t) || ((j == t) || false)) = _
  rw [Bool.or_false]
  rfl
theorem emax (i j : Nat) : (if (j : Int) > (i : Int) then (j : Int) else (i : Int)) = ((max i j : Nat) : Int) := by
  split <;> omega
theorem emin (i j : Nat) : (if (j : Int) < (i : Int) then (j : Int) else (i : Int)) = ((min i j : Nat) : Int) := by
  split <;> omega
theorem Sh.tri {k : Int} {c : Co} (h : Sh k c) : Tri c := h.row
def spTie (K : PySem.W.Frag) : Sp := fun vs H Q _ => ∃ (a : Addr) (c : Co) (i j : Nat), vs = [.ref a, cN i, cN j] ∧ Cm K H a c ∧ Tri c ∧ i ≠ j ∧ i < c.length ∧ j < c.length ∧ Q (.int (tieC c i j)) H
def spAlike (K : PySem.W.Frag) : Sp := fun vs H Q _ => ∃ (a : Addr) (c : Co) (i j : Nat), vs = [.ref a, cN i, cN j] ∧ Cm K H a c ∧ Tri c ∧ c.length ≤ 1000 ∧ i ≠ j ∧ i < c.length ∧ j < c.length ∧ ∀ H', Same H H' → Q (.bl (alikeB c i j)) H'
theorem tie_read {K : PySem.W.Frag} {H : Hp} {a : Addr} {c : Co} {i j : Nat} (hC : Cm K H a c) (t : Tri c) (ne : i ≠ j) (hi : i < c.length) (hj : j < c.length) :
    ∃ (xs : List V) (p : Addr) (r : List Int), SqL K H a xs ∧ atI xs ((max i j : Nat) : Int) = some (.ref p) ∧ SqL K H p (r.map V.int) ∧ atI (r.map V.int) ((min i j : Nat) : Int) = some (.int (tieC c i j)) := by
  obtain ⟨ps, h1, h2, h3⟩ := hC
  obtain ⟨r, e1, e2⟩ := tie_at t ne hi hj
  have hm : max i j < ps.length := by omega
  have ep : ps[max i j]? = some ps[max i j] := List.getElem?_eq_getElem hm
  refine ⟨_, ps[max i j], r, h1, atI_nat ?_, h3 _ _ _ ep e1, atI_nat ?_⟩
  · rw [List.getElem?_map, ep]
    rfl
  · rw [List.getElem?_map, e2]
    rfl
theorem len_of {K : PySem.W.Frag} {H : Hp} {a : Addr} {c : Co} (hC : Cm K H a c) : ∃ xs : List V, SqL K H a xs ∧ ((xs.length : Nat) : Int) = (c.length : Int) := by
  obtain ⟨ps, h1, h2, h3⟩ := hC
  exact ⟨_, h1, by rw [List.length_map, h2]⟩
section
variable {P : Program} {w : World} {K : PySem.W.Frag} {mg : Str → Option Value} {base : Heap}
theorem okTieOf (T : Txt K mg) : Cl P w K mg base 1 "tie_of" (spTie K) := by
  refine T.dTieOf.cl cTieOf (fun vs H Q E h => ?_) (fun f cdv A outer s H vs Q E hr h => ?_)
  · obtain ⟨a, c, i, j, rfl, _⟩ := h
    rfl
  · obtain ⟨a, c, i, j, rfl, hC, t, ne, hi, hj, q⟩ := h
    obtain ⟨xs, p, r, s1, a1, s2, a2⟩ := tie_read hC t ne hi hj
    refine ⟨_, pss_one (ps_ret (pe_ix ix_list (pe_ix ix_list (pv 0) (pe_callB (call_max2 rfl) (by rfl) T.bmax boot_max (pa_cons (pv 1) (pa_cons (pv 2) pa_nil))) (fun _ _ => rfl))
      (pe_callB (call_min2 rfl) (by rfl) T.bmin boot_min (pa_cons (pv 1) (pa_cons (pv 2) pa_nil))) (fun _ _ => rfl))), ?_⟩
    refine ⟨_, rfl, _, rfl, _, rfl, _, _, rfl, a, xs, _, .ref p, rfl, congrArg V.int (emax i j), s1, a1, ?_⟩
    exact ⟨_, rfl, _, rfl, _, _, rfl, p, _, _, _, rfl, congrArg V.int (emin i j), s2, a2, q⟩
theorem okLTie (T : Txt K mg) : Cl P w K mg base 1 "_law_tie" (spTie K) := by
  refine T.dLTie.cl cLTie (fun vs H Q E h => ?_) (fun f cdv A outer s H vs Q E hr h => ?_)
  · obtain ⟨a, c, i, j, rfl, _⟩ := h
    rfl
  · obtain ⟨a, c, i, j, rfl, hC, t, ne, hi, hj, q⟩ := h
    obtain ⟨xs, p, r, s1, a1, s2, a2⟩ := tie_read hC t ne hi hj
    refine ⟨_, pss_one (ps_ret (pe_ix ix_list (pe_ix ix_list (pv 0) (pe_callB (call_max2 rfl) (by rfl) T.bmax boot_max (pa_cons (pv 1) (pa_cons (pv 2) pa_nil))) (fun _ _ => rfl))
      (pe_callB (call_min2 rfl) (by rfl) T.bmin boot_min (pa_cons (pv 1) (pa_cons (pv 2) pa_nil))) (fun _ _ => rfl))), ?_⟩
    refine ⟨_, rfl, _, rfl, _, rfl, _, _, rfl, a, xs, _, .ref p, rfl, congrArg V.int (emax i j), s1, a1, ?_⟩
    exact ⟨_, rfl, _, rfl, _, _, rfl, p, _, _, _, rfl, congrArg V.int (emin i j), s2, a2, q⟩
theorem okStandsAlike (T : Txt K mg) : Cl P w K mg base 2 "stands_alike" (spAlike K) := by
  have c1 : Cl P w K mg base 1 "tie_of" (spTie K) := okTieOf T
  refine T.dStandsAlike.cl cStandsAlike (fun vs H Q E h => ?_) (fun f cdv A outer s H vs Q E hr h => ?_)
  · obtain ⟨a, c, i, j, rfl, _⟩ := h
    rfl
  · obtain ⟨a, c, i, j, rfl, hC, tr, hn, ne, hi, hj, q⟩ := h
    obtain ⟨xs, hS, hxl⟩ := len_of hC
    refine ⟨_, pss_cons (ps_setLc (i := 3) (own := [("person", 4)]) (g := gName 4) (tt := tTest (tOp (rIn K true) (tVar 4) (tTup (tCons (tVar 1) (tCons (tVar 2) tNil))))) rfl cStandsAlike.nd rfl rfl (sw_true rfl rfl rfl (by decide +kernel))
        (pi_range1 (by rfl) T.brange (pa_cons (pe_callB call_len_seq (by rfl) T.blen PySem.boot_len (pa_cons (pv 0) pa_nil)) pa_nil))
        (blkOk_by (own := [("person", 4)]) (N := ["company", "one", "other", "others", "person"]) (sc := defScope sStandsAlike) (by decide +kernel)) (fun _ _ _ _ _ => pg_name (i := 4) cStandsAlike.nd rfl (Or.inl rfl))
        (fun _ _ _ _ _ => pts_one (pt_cmpR op_notIn_seq (pv 4) (pe_tup (pa_cons (pv 1) (pa_cons (pv 2) pa_nil))) (by rfl)))
        (fun _ _ _ _ _ => pv 4))
      (pss_one (ps_ret (pe_cmpR (op_eqD hr.units) (pe_lc (own := [("person", 4)]) (g := gName 4) rfl cStandsAlike.nd (pi_list (pv 3))
        (blkOk_by (own := [("person", 4)]) (N := ["company", "one", "other", "others", "person"]) (sc := defScope sStandsAlike) (by decide +kernel)) (fun _ _ _ _ _ => pg_name (i := 4) cStandsAlike.nd rfl (Or.inl rfl))
        (fun _ _ _ _ _ => pts_one (pt_cmpR op_ne (pe_c c1 hr (by rfl) (pa_cons (pv 0) (pa_cons (pv 4) (pa_cons (pv 1) pa_nil)))) (pe_c c1 hr (by rfl) (pa_cons (pv 0) (pa_cons (pv 4) (pa_cons (pv 2) pa_nil)))) (nomark _)))
        (fun _ _ _ _ _ => pv 4)) (pe_lst pa_nil) (nomark _)))), ?_⟩
    refine ⟨_, rfl, a, _, rfl, .inl hS, _, rfl, by omega, by omega, fun D hD => lc_range (lo := 0) (n := _) (fun t H' => Same H H' ∧ H' D = some (.lst (((List.range t).filter (othB i j)).map cN))) ⟨same_up hD, upd_same⟩ ?_ ?_⟩
    · rintro t H1 ht ⟨sm, hd⟩
      have htn : t < c.length := by omega
      refine ⟨rfl, _, rfl, _, rfl, _, rfl, (by show 2 ≤ sizeLine; decide), fun T' nT => ⟨T', _, rfl, .inr (SqT.of upd_same), rfl, rfl, _, rfl, ?_⟩⟩
      have e0 : (0 : Int) + (t : Nat) = (t : Int) := Int.zero_add _
      have eb : (!inV (.int (0 + (t : Nat))) [cN i, cN j]) = othB i j t := by
        rw [inV2, e0]
        unfold othB
        rw [show (decide ((i : Int) = (t : Int))) = decide (t = i) from decide_eq_decide.mpr ⟨fun h => by omega, fun h => by omega⟩,
          show (decide ((j : Int) = (t : Int))) = decide (t = j) from decide_eq_decide.mpr ⟨fun h => by omega, fun h => by omega⟩]
      show if (!inV (.int (0 + (t : Nat))) [cN i, cN j]) = true then _ else _
      rw [eb, e0]
      have hd2 : (upd H1 T' (.tup [cN i, cN j])) D = some (.lst (((List.range t).filter (othB i j)).map cN)) := by
        rw [upd_ne (ne_of_none hd nT)]
        exact hd
      have sm2 : Same H (upd H1 T' (.tup [cN i, cN j])) := same_new sm nT
      refine ite2 (fun h => ?_) (fun h => ?_)
      · refine ⟨_, rfl, _, hd2, ?_, same_in sm2 hD, ?_⟩
        · rw [List.length_map]
          have z := List.length_filter_le (othB i j) (List.range t)
          rw [List.length_range] at z
          exact small1000 (by omega)
        · rw [upd_same, filter_step, if_pos h, List.map_append]
          rfl
      · refine ⟨sm2, ?_⟩
        rw [filter_step, if_neg h, List.append_nil]
        exact hd2
    · rintro H1 ⟨sm, hd⟩
      rw [show ((xs.length : Nat) : Int).toNat = c.length by omega] at hd
      have hO : SqL K H1 D ((oth c.length i j).map cN) := SqL.of hd
      have hol : (oth c.length i j).length ≤ c.length := by
        have z := List.length_filter_le (othB i j) (List.range c.length)
        rw [List.length_range] at z
        exact z
      refine ⟨_, rfl, D, rfl, ⟨_, hO⟩, fun D2 hD2 => lc_list (K := K) (a := D) (xs := (oth c.length i j).map cN)
        (fun t H' => Same H1 H' ∧ H' D2 = some (.lst ((((oth c.length i j).take t).filter fun k => decide (tieC c k i ≠ tieC c k j)).map cN))) ⟨same_up hD2, upd_same⟩ (fun t H' _ h => h.1.seq hO) ?_ ?_⟩
      · rintro t x H2 hx ⟨sm2, hd2⟩
        rw [List.getElem?_map] at hx
        cases ek : (oth c.length i j)[t]? with
        | none =>
          rw [ek] at hx
          cases hx
        | some k =>
          rw [ek] at hx
          obtain rfl : cN k = x := Option.some.inj hx
          have hm := List.mem_of_getElem? ek
          unfold oth othB at hm
          rw [List.mem_filter, List.mem_range] at hm
          simp only [Bool.not_eq_true', Bool.or_eq_false_iff, decide_eq_false_iff_not] at hm
          have htl : t < (oth c.length i j).length := (List.getElem?_eq_some_iff.mp ek).1
          have hC2 : Cm K H2 a c := hC.same (sm.trans sm2)
          refine ⟨rfl, _, rfl, _, rfl, _, rfl, a, c, k, i, rfl, hC2, tr, hm.2.1, hm.1, hi, _, rfl, _, rfl, _, rfl, a, c, k, j, rfl, hC2, tr, hm.2.2, hm.1, hj, rfl, _, rfl, ?_⟩
          have eb : (!decide (V.int (tieC c k i) = V.int (tieC c k j))) = decide (tieC c k i ≠ tieC c k j) := by
            rw [← decide_not]
            exact decide_eq_decide.mpr ⟨fun h z => h (congrArg V.int z), fun h z => h (V.int.inj z)⟩
          rw [eb]
          refine ite2 (fun h => ?_) (fun h => ?_)
          · refine ⟨_, rfl, _, hd2, ?_, same_in sm2 hD2, ?_⟩
            · rw [List.length_map]
              have z := List.length_filter_le (fun k => decide (tieC c k i ≠ tieC c k j)) ((oth c.length i j).take t)
              rw [List.length_take] at z
              exact small1000 (by omega)
            · rw [upd_same, take_filter _ _ _ _ ek, if_pos h, List.map_append]
              rfl
          · refine ⟨sm2, ?_⟩
            rw [take_filter _ _ _ _ ek, if_neg h, List.append_nil]
            exact hd2
      · rintro H2 ⟨sm2, hd2⟩
        rw [List.length_map, List.take_length] at hd2
        refine eq_nil (m := 1) (ds := ((((oth c.length i j).filter fun k => decide (tieC c k i ≠ tieC c k j)).map fun k => ((k : Nat) : Int))).map PyData.int) ?_ (Lay.ints 0 _) fun H3 s3 => ?_
        · refine .lst (SqL.of (xs := (((oth c.length i j).filter fun k => decide (tieC c k i ≠ tieC c k j)).map fun k => ((k : Nat) : Int)).map V.int) ?_) (dp_ints _)
          rw [hd2, List.map_map]
          rfl
        · have z := q H3 ((sm.trans sm2).trans s3)
          have e : ((((oth c.length i j).filter fun k => decide (tieC c k i ≠ tieC c k j)).map fun k => ((k : Nat) : Int)).map PyData.int).isEmpty = alikeB c i j := by
            unfold alikeB
            rw [List.isEmpty_map, List.isEmpty_map]
          rw [e]
          exact z
theorem qB {Q : VK} {b b' : Bool} {H : Hp} (q : Q (.bl b) H) (e : b = b') : Q (.bl b') H := by
  rw [← e]
  exact q
theorem oth_bit (i j t : Nat) : (!inV (.int (0 + (t : Nat))) [cN i, cN j]) = othB i j t := by
  rw [inV2, show (0 : Int) + (t : Nat) = (t : Int) from Int.zero_add _]
  unfold othB
  rw [show (decide ((i : Int) = (t : Int))) = decide (t = i) from decide_eq_decide.mpr ⟨fun h => by omega, fun h => by omega⟩,
    show (decide ((j : Int) = (t : Int))) = decide (t = j) from decide_eq_decide.mpr ⟨fun h => by omega, fun h => by omega⟩]
theorem ne_bit (x y : Int) : (!decide (V.int x = V.int y)) = decide (x ≠ y) := by
  rw [← decide_not]
  exact decide_eq_decide.mpr ⟨fun h z => h (congrArg V.int z), fun h z => h (V.int.inj z)⟩
theorem othB_iff {i j k : Nat} : othB i j k = true ↔ k ≠ i ∧ k ≠ j := by
  unfold othB
  simp only [Bool.not_eq_true', Bool.or_eq_false_iff, decide_eq_false_iff_not, ne_eq]
theorem okLAlike (T : Txt K mg) : Cl P w K mg base 2 "_law_alike" (spAlike K) := by
  have c1 : Cl P w K mg base 1 "_law_tie" (spTie K) := okLTie T
  refine T.dLAlike.cl cLAlike (fun vs H Q E h => ?_) (fun f cdv A outer s H vs Q E hr h => ?_)
  · obtain ⟨a, c, i, j, rfl, _⟩ := h
    rfl
  · obtain ⟨a, c, i, j, rfl, hC, tr, hn, ne, hi, hj, q⟩ := h
    obtain ⟨xs, hS, hxl⟩ := len_of hC
    refine ⟨_, pss_cons (ps_for PassesOwn.never rfl (pi_range1 (by rfl) T.brange (pa_cons (pe_callB call_len_seq (by rfl) T.blen PySem.boot_len (pa_cons (pv 0) pa_nil)) pa_nil))
        (pg_name (i := 3) cLAlike.nd rfl (Or.inl rfl))
        (pss_one (ps_if (PW.pt (pw_and (pt_cmpR op_notIn_seq (pv 3) (pe_tup (pa_cons (pv 1) (pa_cons (pv 2) pa_nil))) (by rfl))
          (pw_and1 (pt_cmpR op_ne (pe_c c1 hr (by rfl) (pa_cons (pv 0) (pa_cons (pv 3) (pa_cons (pv 1) pa_nil)))) (pe_c c1 hr (by rfl) (pa_cons (pv 0) (pa_cons (pv 3) (pa_cons (pv 2) pa_nil)))) (nomark _)))))
          (pss_one (ps_ret pe_bl)) pss_nil)))
      (pss_one (ps_ret pe_bl)), ?_⟩
    refine ⟨_, rfl, a, _, rfl, .inl hS, _, rfl, by omega, by omega, for_range (lo := 0) (n := _) (fun t σ H' => ∃ y, σ = [some (.ref a), some (cN i), some (cN j), y] ∧ Same H H' ∧
      ∀ k, k < t → k ≠ i → k ≠ j → tieC c k i = tieC c k j) ⟨none, rfl, Same.refl H, fun k hk => absurd hk (Nat.not_lt_zero k)⟩ ?_ ?_⟩
    · rintro t σ H1 ht ⟨y, rfl, sm, al⟩
      have htn : t < c.length := by omega
      refine ⟨_, rfl, _, rfl, _, rfl, (by show 2 ≤ sizeLine; decide), fun T' nT => ⟨T', _, rfl, .inr (SqT.of upd_same), rfl, rfl, _, rfl, ?_⟩⟩
      show if (!inV (.int (0 + (t : Nat))) [cN i, cN j]) = true then _ else _
      rw [oth_bit]
      have e0 : (0 : Int) + (t : Nat) = (t : Int) := Int.zero_add _
      have sm2 : Same H (upd H1 T' (.tup [cN i, cN j])) := same_new sm nT
      have hC2 : Cm K (upd H1 T' (.tup [cN i, cN j])) a c := hC.same sm2
      refine ite2 (fun h => ?_) (fun h => ?_)
      · obtain ⟨n1, n2⟩ := othB_iff.mp h
        refine ⟨_, rfl, _, rfl, _, rfl, a, c, t, i, (by rw [e0]; rfl), hC2, tr, n1, htn, hi, _, rfl, _, rfl, _, rfl, a, c, t, j, (by rw [e0]; rfl), hC2, tr, n2, htn, hj, rfl, _, rfl, ?_⟩
        rw [ne_bit]
        refine ite2 (fun h3 => ?_) (fun h3 => ?_)
        · refine qB (q _ sm2) ?_
          rw [Bool.eq_false_iff]
          intro z
          exact of_decide_eq_true h3 ((alikeB_iff c i j).mp z t htn n1 n2)
        · refine ⟨_, rfl, sm2, fun k hk ki kj => ?_⟩
          by_cases e : k = t
          · subst e
            have z : ¬ (tieC c k i ≠ tieC c k j) := fun y => h3 (decide_eq_true y)
            exact Classical.not_not.mp z
          · exact al k (by omega) ki kj
      · refine ⟨_, rfl, sm2, fun k hk ki kj => ?_⟩
        by_cases e : k = t
        · subst e
          exact absurd (othB_iff.mpr ⟨ki, kj⟩) h
        · exact al k (by omega) ki kj
    · rintro σ H1 ⟨y, rfl, sm, al⟩
      refine qB (q H1 sm) ?_
      rw [alikeB_iff]
      intro k hk
      exact al k (by omega)
end
end Tw
set_option Elab.async false
set_option linter.all false
set_option maxRecDepth 100000
set_option maxHeartbeats 4000000
/-! couples, the couple that stands alone -/
namespace Tw
open PySem PySem.Spec PyProof.Rows L2 TwG
def rowC (n i : Nat) : List (Nat × Nat) := (List.range (n - (i + 1))).map fun d => (i, i + 1 + d)
def couplesTo (n t : Nat) : List (Nat × Nat) := (List.range t).flatMap (rowC n)
def couples (n : Nat) : List (Nat × Nat) := couplesTo n n
theorem couplesTo_succ (n t : Nat) : couplesTo n (t + 1) = couplesTo n t ++ rowC n t := by
  unfold couplesTo
  rw [List.range_succ, List.flatMap_append]
  simp
theorem rowC_len (n i : Nat) : (rowC n i).length = n - (i + 1) := by
  unfold rowC
  rw [List.length_map, List.length_range]
theorem couplesTo_len (n : Nat) : ∀ t, (couplesTo n t).length ≤ t * n
  | 0 => by simp [couplesTo]
  | t + 1 => by
    rw [couplesTo_succ, List.length_append, rowC_len, Nat.succ_mul]
    have z := couplesTo_len n t
    omega
theorem couples_mem {n : Nat} {p : Nat × Nat} (h : p ∈ couples n) : p.1 < p.2 ∧ p.2 < n := by
  unfold couples couplesTo rowC at h
  rw [List.mem_flatMap] at h
  obtain ⟨i, hi, h⟩ := h
  rw [List.mem_map] at h
  obtain ⟨d, hd, rfl⟩ := h
  rw [List.mem_range] at hi hd
  exact ⟨by show i < i + 1 + d; omega, by show i + 1 + d < n; omega⟩
theorem couples_all {n i j : Nat} (h : i < j) (hj : j < n) : (i, j) ∈ couples n := by
  unfold couples couplesTo rowC
  rw [List.mem_flatMap]
  refine ⟨i, List.mem_range.mpr (by omega), ?_⟩
  rw [List.mem_map]
  exact ⟨j - (i + 1), List.mem_range.mpr (by omega), by rw [show i + 1 + (j - (i + 1)) = j by omega]⟩
abbrev cpO (p : Nat × Nat) : HO := .tup [cN p.1, cN p.2]
def loneP (c d : Co) (p : Nat × Nat) : Bool := decide (tieC c p.1 p.2 ≠ tieC d p.1 p.2) && (!alikeB c p.1 p.2 && !alikeB d p.1 p.2)
def lone (c d : Co) : Option (Nat × Nat) := (couples c.length).find? (loneP c d)
def diffP (c d : Co) (p : Nat × Nat) : Bool := decide (tieC c p.1 p.2 ≠ tieC d p.1 p.2)
def diff (c d : Co) : List (Nat × Nat) := (couples c.length).filter (diffP c d)
theorem find_at {α : Type} (p : α → Bool) : ∀ (l : List α) (t : Nat) (x : α), l[t]? = some x → p x = true → (∀ y ∈ l.take t, p y = false) → l.find? p = some x
  | [], _, _, h, _, _ => by simp at h
  | y :: l, 0, x, h, hp, _ => by
    cases h
    rw [List.find?_cons_of_pos hp]
  | y :: l, t + 1, x, h, hp, hb => by
    have e : p y = false := hb y (by simp)
    rw [List.find?_cons_of_neg (by simp [e])]
    exact find_at p l t x (by simpa using h) hp fun z hz => hb z (by simp [hz])
theorem find_none {α : Type} (p : α → Bool) (l : List α) (h : ∀ y ∈ l.take l.length, p y = false) : l.find? p = none := by
  rw [List.take_length] at h
  rw [List.find?_eq_none]
  intro x hx
  rw [h x hx]
  exact Bool.false_ne_true
theorem take_step {α : Type} {P : α → Prop} {l : List α} {t : Nat} {x : α} (h : l[t]? = some x) (a : ∀ y ∈ l.take t, P y) (b : P x) : ∀ y ∈ l.take (t + 1), P y := by
  intro y hy
  rw [List.take_add_one, h, List.mem_append] at hy
  rcases hy with z | z
  · exact a y z
  · have e : y = x := by simpa using z
    rw [e]
    exact b
/-- a couple, or None -/
def LoneV (H : Hp) (v : V) : Option (Nat × Nat) → Prop
  | none => v = .non
  | some q => ∃ p, v = .ref p ∧ H p = some (cpO q)
def spCouplesOf (K : PySem.W.Frag) : Sp := fun vs H Q _ => ∃ (a : Addr) (c : Co), vs = [.ref a] ∧ Cm K H a c ∧ c.length ≤ 40 ∧ ∀ H' p, Same H H' → H p = none → LO H' p ((couples c.length).map cpO) → Q (.ref p) H'
def spLCouples : Sp := fun vs H Q _ => ∃ (n : Nat), vs = [cN n] ∧ n ≤ 40 ∧ ∀ H' p, Same H H' → H p = none → LO H' p ((couples n).map cpO) → Q (.ref p) H'
def spLone (K : PySem.W.Frag) : Sp := fun vs H Q _ => ∃ (k : Int) (a b : Addr) (c d : Co), vs = [.int k, .ref a, .ref b] ∧ 2 ≤ k ∧ k ≤ 9 ∧ Cm K H a c ∧ Sh k c ∧ Cm K H b d ∧ Sh k d ∧ c.length = d.length ∧
  ∀ H' v, Same H H' → LoneV H' v (lone c d) → Q v H'
def spDue (K : PySem.W.Frag) : Sp := fun vs H Q _ => ∃ (k : Int) (a b : Addr) (c d : Co), vs = [.ref a, .ref b] ∧ Cm K H a c ∧ Sh k c ∧ Cm K H b d ∧ Sh k d ∧ c.length = d.length ∧
  ∀ H' v, Same H H' → LoneV H' v (lone c d) → Q v H'
def spDiff (K : PySem.W.Frag) : Sp := fun vs H Q _ => ∃ (k : Int) (a b : Addr) (c d : Co), vs = [.int k, .ref a, .ref b] ∧ 2 ≤ k ∧ k ≤ 9 ∧ Cm K H a c ∧ Sh k c ∧ Cm K H b d ∧ Sh k d ∧ c.length = d.length ∧
  ∀ H' p, Same H H' → H p = none → LO H' p ((diff c d).map cpO) → Q (.ref p) H'
/-- the turn of a loop over such a list -/
theorem LO.turn {H : Hp} {p : Addr} {os : List HO} {ts : List Addr} (h : LO H p os) (hs : H p = some (.lst (ts.map V.ref))) {i : Nat} {x : V} (hx : (ts.map V.ref)[i]? = some x) : ∃ t o, x = .ref t ∧ os[i]? = some o ∧ H t = some o := by
  obtain ⟨us, a, b, c⟩ := h
  rw [hs] at a
  have e : ts = us := refs_inj (HO.lst.inj (Option.some.inj a))
  subst e
  obtain ⟨t, ht, rfl⟩ := at_ref hx
  have hl : i < os.length := by
    rw [← c.1]
    exact (List.getElem?_eq_some_iff.mp ht).1
  exact ⟨t, os[i], rfl, List.getElem?_eq_getElem hl, c.2 i t _ ht (List.getElem?_eq_getElem hl)⟩
section
variable {P : Program} {w : World} {K : PySem.W.Frag} {mg : Str → Option Value} {base : Heap}
theorem okCouplesOf (T : Txt K mg) : Cl P w K mg base 1 "couples_of" (spCouplesOf K) := by
  refine T.dCouplesOf.cl cCouplesOf (fun vs H Q E h => ?_) (fun f cdv A outer s H vs Q E hr h => ?_)
  · obtain ⟨a, c, rfl, _⟩ := h
    rfl
  · obtain ⟨a, c, rfl, hC, hn, q⟩ := h
    obtain ⟨xs, hS, hxl⟩ := len_of hC
    refine ⟨_, pss_cons (ps_set (i := 1) cCouplesOf.nd rfl (.inl rfl) (pe_lst pa_nil))
      (pss_cons (ps_for PassesOwn.never rfl (pi_range1 (by rfl) T.brange (pa_cons (pe_callB call_len_seq (by rfl) T.blen PySem.boot_len (pa_cons (pv 0) pa_nil)) pa_nil))
        (pg_name (i := 2) cCouplesOf.nd rfl (Or.inr rfl))
        (pss_one (ps_set (i := 1) cCouplesOf.nd rfl (.inl rfl) (pe_op op_cat (pv 1)
          (pe_lc (own := [("other", 3)]) (g := gName 3) rfl cCouplesOf.nd (pi_range2 (by rfl) T.brange (pa_cons (pe_op op_add (pv 2) pe_int) (pa_cons (pe_callB call_len_seq (by rfl) T.blen PySem.boot_len (pa_cons (pv 0) pa_nil)) pa_nil)))
            (blkOk_by (own := [("other", 3)]) (N := ["company", "found", "one", "other"]) (sc := defScope sCouplesOf) (by decide +kernel)) (fun _ _ _ _ _ => pg_name (i := 3) cCouplesOf.nd rfl (Or.inl rfl))
            (fun _ _ _ _ _ => pts_nil) (fun _ _ _ _ _ => pe_tup (pa_cons (pv 2) (pa_cons (pv 3) pa_nil))))))))
      (pss_one (ps_ret (pv 1)))), ?_⟩
    refine ⟨Nat.zero_le _, fun o no => ?_⟩
    have s1 : Same H (upd H o (.lst [])) := same_up no
    refine ⟨_, rfl, a, _, rfl, .inl (s1.seq hS), _, rfl, by omega, by omega, for_range (lo := 0) (n := _) (fun t σ H' => ∃ p y z, σ = [some (.ref a), some (.ref p), y, z] ∧ Same H H' ∧ H p = none ∧
      LO H' p ((couplesTo c.length t).map cpO)) ⟨o, none, none, rfl, s1, no, LO.nil H o⟩ ?_ ?_⟩
    · rintro t σ H1 ht ⟨p, y, z, rfl, sm, np, lo⟩
      have htn : t < c.length := by omega
      have e0 : (0 : Int) + (t : Nat) = (t : Int) := Int.zero_add _
      rw [e0]
      have clen := couplesTo_len c.length t
      have cmul : t * c.length ≤ 40 * 40 := Nat.mul_le_mul (by omega) hn
      refine ⟨_, rfl, _, rfl, _, _, rfl, rfl, _, rfl, a, _, rfl, .inl (sm.seq hS), _, _, rfl, ⟨by omega, by omega, by omega, by omega⟩, fun D nD => lc_range (lo := (t : Int) + 1) (n := _)
        (fun u H' => Same H1 H' ∧ H1 D = none ∧ LO H' D (((List.range u).map fun d => (t, t + 1 + d)).map cpO)) ⟨same_up nD, nD, LO.nil H1 D⟩ ?_ ?_⟩
      · rintro u H2 hu ⟨sm2, nD2, lo2⟩
        refine ⟨rfl, _, rfl, _, rfl, (by show 2 ≤ sizeLine; decide), fun T' nT => ?_⟩
        obtain ⟨ts, hts, _⟩ := lo2.lst
        have neT : T' ≠ D := fun e => by
          rw [e, hts] at nT
          cases nT
        obtain ⟨acc, h1, h2, h3⟩ := (lo2.same (same_up (o := .tup [cN t, .int ((t : Int) + 1 + (u : Nat))]) nT)).push (o := cpO (t, t + 1 + u)) (t := T') (by
          rw [upd_same]
          rfl) neT
        refine ⟨acc, h1, ?_, same_in (same_new sm2 nT) nD2, nD2, ?_⟩
        · rw [h2, List.length_map, List.length_map, List.length_range, sizeLine_eq]
          omega
        · rw [List.range_succ, List.map_append, List.map_append]
          exact h3
      · rintro H2 ⟨sm2, nD2, lo2⟩
        rw [show (((xs.length : Nat) : Int) - ((t : Int) + 1)).toNat = c.length - (t + 1) by omega] at lo2
        have lo1 : LO H2 p ((couplesTo c.length t).map cpO) := lo.same sm2
        obtain ⟨xs1, ys1, e1, e2, l1, l2, l3⟩ := LO.cat lo1 lo2
        refine ⟨p, D, xs1, ys1, rfl, rfl, e1, e2, ?_, fun r nr => ?_⟩
        · rw [l1, l2, List.length_map, List.length_map, List.length_map, List.length_range, sizeLine_eq]
          omega
        · have s3 : Same H H2 := sm.trans sm2
          refine ⟨r, _, _, rfl, same_new s3 nr, s3.free nr, ?_⟩
          rw [couplesTo_succ, List.map_append]
          exact l3 r nr
    · rintro σ H1 ⟨p, y, z, rfl, sm, np, lo⟩
      rw [show ((xs.length : Nat) : Int).toNat = c.length by omega] at lo
      exact ⟨_, rfl, q H1 p sm np lo⟩
theorem okLCouples (T : Txt K mg) : Cl P w K mg base 1 "_law_couples" spLCouples := by
  refine T.dLCouples.cl cLCouples (fun vs H Q E h => ?_) (fun f cdv A outer s H vs Q E hr h => ?_)
  · obtain ⟨n, rfl, _⟩ := h
    rfl
  · obtain ⟨n, rfl, hn, q⟩ := h
    refine ⟨_, pss_cons (ps_set (i := 1) cLCouples.nd rfl (.inl rfl) (pe_lst pa_nil))
      (pss_cons (ps_for PassesOwn.never rfl (pi_range1 (by rfl) T.brange (pa_cons (pv 0) pa_nil))
        (pg_name (i := 2) cLCouples.nd rfl (Or.inr rfl))
        (pss_one (ps_set (i := 1) cLCouples.nd rfl (.inl rfl) (pe_op op_cat (pv 1)
          (pe_lc (own := [("_law_other", 3)]) (g := gName 3) rfl cLCouples.nd (pi_range2 (by rfl) T.brange (pa_cons (pe_op op_add (pv 2) pe_int) (pa_cons (pv 0) pa_nil)))
            (blkOk_by (own := [("_law_other", 3)]) (N := ["_law_size", "_law_found", "_law_one", "_law_other"]) (sc := defScope sLCouples) (by decide +kernel)) (fun _ _ _ _ _ => pg_name (i := 3) cLCouples.nd rfl (Or.inl rfl))
            (fun _ _ _ _ _ => pts_nil) (fun _ _ _ _ _ => pe_tup (pa_cons (pv 2) (pa_cons (pv 3) pa_nil))))))))
      (pss_one (ps_ret (pv 1)))), ?_⟩
    refine ⟨Nat.zero_le _, fun o no => ?_⟩
    have s1 : Same H (upd H o (.lst [])) := same_up no
    refine ⟨_, rfl, _, rfl, by omega, by omega, for_range (lo := 0) (n := _) (fun t σ H' => ∃ p y z, σ = [some (cN n), some (.ref p), y, z] ∧ Same H H' ∧ H p = none ∧
      LO H' p ((couplesTo n t).map cpO)) ⟨o, none, none, rfl, s1, no, LO.nil H o⟩ ?_ ?_⟩
    · rintro t σ H1 ht ⟨p, y, z, rfl, sm, np, lo⟩
      have htn : t < n := by omega
      have e0 : (0 : Int) + (t : Nat) = (t : Int) := Int.zero_add _
      rw [e0]
      have clen := couplesTo_len n t
      have cmul : t * n ≤ 40 * 40 := Nat.mul_le_mul (by omega) hn
      refine ⟨_, rfl, _, rfl, _, _, rfl, rfl, _, rfl, _, _, rfl, ⟨by omega, by omega, by omega, by omega⟩, fun D nD => lc_range (lo := (t : Int) + 1) (n := _)
        (fun u H' => Same H1 H' ∧ H1 D = none ∧ LO H' D (((List.range u).map fun d => (t, t + 1 + d)).map cpO)) ⟨same_up nD, nD, LO.nil H1 D⟩ ?_ ?_⟩
      · rintro u H2 hu ⟨sm2, nD2, lo2⟩
        refine ⟨rfl, _, rfl, _, rfl, (by show 2 ≤ sizeLine; decide), fun T' nT => ?_⟩
        obtain ⟨ts, hts, _⟩ := lo2.lst
        have neT : T' ≠ D := fun e => by
          rw [e, hts] at nT
          cases nT
        obtain ⟨acc, h1, h2, h3⟩ := (lo2.same (same_up (o := .tup [cN t, .int ((t : Int) + 1 + (u : Nat))]) nT)).push (o := cpO (t, t + 1 + u)) (t := T') (by
          rw [upd_same]
          rfl) neT
        refine ⟨acc, h1, ?_, same_in (same_new sm2 nT) nD2, nD2, ?_⟩
        · rw [h2, List.length_map, List.length_map, List.length_range, sizeLine_eq]
          omega
        · rw [List.range_succ, List.map_append, List.map_append]
          exact h3
      · rintro H2 ⟨sm2, nD2, lo2⟩
        rw [show ((n : Int) - ((t : Int) + 1)).toNat = n - (t + 1) by omega] at lo2
        have lo1 : LO H2 p ((couplesTo n t).map cpO) := lo.same sm2
        obtain ⟨xs1, ys1, e1, e2, l1, l2, l3⟩ := LO.cat lo1 lo2
        refine ⟨p, D, xs1, ys1, rfl, rfl, e1, e2, ?_, fun r nr => ?_⟩
        · rw [l1, l2, List.length_map, List.length_map, List.length_map, List.length_range, sizeLine_eq]
          omega
        · have s3 : Same H H2 := sm.trans sm2
          refine ⟨r, _, _, rfl, same_new s3 nr, s3.free nr, ?_⟩
          rw [couplesTo_succ, List.map_append]
          exact l3 r nr
    · rintro σ H1 ⟨p, y, z, rfl, sm, np, lo⟩
      rw [show ((n : Nat) : Int).toNat = n by omega] at lo
      exact ⟨_, rfl, q H1 p sm np lo⟩
theorem okLone (T : Txt K mg) : Cl P w K mg base 7 "lone_couple" (spLone K) := by
  have c1 : Cl P w K mg base 6 "check_pair" (spCheckPair K) := okCheckPair T
  have c2 : Cl P w K mg base 1 "couples_of" (spCouplesOf K) := okCouplesOf T
  have c3 : Cl P w K mg base 1 "tie_of" (spTie K) := okTieOf T
  have c4 : Cl P w K mg base 2 "stands_alike" (spAlike K) := okStandsAlike T
  refine T.dLoneCouple.cl cLoneCouple (fun vs H Q E h => ?_) (fun f cdv A outer s H vs Q E hr h => ?_)
  · obtain ⟨k, a, b, c, d, rfl, _⟩ := h
    rfl
  · obtain ⟨k, a, b, c, d, rfl, k1, k2, hC, sh, hD, sh2, hl, q⟩ := h
    refine ⟨_, pss_cons (ps_expr (pe_c c1 hr (by rfl) (pa_cons (pv 0) (pa_cons (pv 1) (pa_cons (pv 2) pa_nil)))))
      (pss_cons (ps_for PassesOwn.never rfl (pi_list (pe_c c2 hr (by rfl) (pa_cons (pv 1) pa_nil))) (pg_tup rfl (pgs_cons (pg_name (i := 3) cLoneCouple.nd rfl (Or.inl rfl)) (pgs_cons (pg_name (i := 4) cLoneCouple.nd rfl (Or.inl rfl)) pgs_nil)))
        (pss_one (ps_if (pt_cmpR op_ne (pe_c c3 hr (by rfl) (pa_cons (pv 1) (pa_cons (pv 3) (pa_cons (pv 4) pa_nil)))) (pe_c c3 hr (by rfl) (pa_cons (pv 2) (pa_cons (pv 3) (pa_cons (pv 4) pa_nil)))) (nomark _))
          (pss_one (ps_if (PW.pt (pw_and (pt_not (pt_val (pe_c c4 hr (by rfl) (pa_cons (pv 1) (pa_cons (pv 3) (pa_cons (pv 4) pa_nil))))))
            (pw_and1 (pt_not (pt_val (pe_c c4 hr (by rfl) (pa_cons (pv 2) (pa_cons (pv 3) (pa_cons (pv 4) pa_nil)))))))))
            (pss_one (ps_ret (pe_tup (pa_cons (pv 3) (pa_cons (pv 4) pa_nil))))) pss_nil)) pss_nil)))
      (pss_one (ps_ret pe_non))), ?_⟩
    refine ⟨_, rfl, _, rfl, _, rfl, k, a, b, c, d, rfl, k1, k2, hC, sh, hD, sh2, hl, fun H1 s1 => ?_⟩
    have n40 := sh.n2
    refine ⟨_, rfl, a, c, rfl, hC.same s1, sh.n2, fun H2 p s2 np lo => ?_⟩
    have s12 : Same H H2 := s1.trans s2
    obtain ⟨ts, hts, _, hob⟩ := id lo
    have tl : (ts.map V.ref).length = (couples c.length).length := by rw [List.length_map, hob.1, List.length_map]
    refine ⟨p, rfl, ⟨_, SqL.of hts⟩, for_list (K := K) (a := p) (xs := ts.map V.ref) (fun t σ H' => ∃ y z, σ = [some (.int k), some (.ref a), some (.ref b), y, z] ∧ Same H2 H' ∧
      ∀ u ∈ (couples c.length).take t, loneP c d u = false) ⟨none, none, rfl, Same.refl H2, by simp⟩ (fun t σ H' _ ⟨_, _, _, s3, _⟩ => s3.seq (SqL.of hts)) ?_ ?_⟩
    · rintro t x σ H3 hx ⟨y, z, rfl, s3, no⟩
      obtain ⟨t', o, rfl, ho, hto⟩ := (lo.same s3).turn (s3 _ _ hts) hx
      rw [List.getElem?_map] at ho
      cases eu : (couples c.length)[t]? with
      | none =>
        rw [eu] at ho
        cases ho
      | some u =>
        rw [eu] at ho
        obtain rfl : cpO u = o := Option.some.inj ho
        obtain ⟨m1, m2⟩ := couples_mem (List.mem_of_getElem? eu)
        have s4 : Same H H3 := s12.trans s3
        refine ⟨t', _, rfl, SqT.of hto, rfl, _, _, rfl, _, _, rfl, rfl, ?_⟩
        refine ⟨_, rfl, _, rfl, _, rfl, a, c, u.1, u.2, rfl, hC.same s4, sh.tri, by omega, by omega, by omega, _, rfl, _, rfl, _, rfl, b, d, u.1, u.2, rfl, hD.same s4, sh2.tri, by omega, by omega, by omega, rfl, _, rfl, ?_⟩
        rw [ne_bit]
        refine ite2 (fun h1 => ?_) (fun h1 => ?_)
        · refine ⟨_, rfl, _, rfl, _, rfl, a, c, u.1, u.2, rfl, hC.same s4, sh.tri, by omega, by omega, by omega, by omega, fun H4 s5 => ⟨_, rfl, ?_⟩⟩
          refine ite2 (fun h2 => ?_) (fun h2 => ?_)
          · refine ⟨_, rfl, _, rfl, _, rfl, b, d, u.1, u.2, rfl, hD.same (s4.trans s5), sh2.tri, by omega, by omega, by omega, by omega, fun H5 s6 => ⟨_, rfl, ?_⟩⟩
            have s7 : Same H H5 := (s4.trans s5).trans s6
            refine ite2 (fun h3 => ?_) (fun h3 => ?_)
            · refine ⟨_, rfl, _, rfl, (by show 2 ≤ sizeLine; decide), fun T' nT => q _ _ (same_new s7 nT) ?_⟩
              have e : lone c d = some u := find_at _ _ t u eu (by unfold loneP; rw [h1, h2, h3]; rfl) no
              rw [e]
              exact ⟨T', rfl, upd_same⟩
            · exact ⟨_, _, rfl, (s3.trans s5).trans s6, take_step eu no (by unfold loneP; rw [Bool.not_eq_true] at h3; rw [h3, Bool.and_false, Bool.and_false])⟩
          · exact ⟨_, _, rfl, s3.trans s5, take_step eu no (by unfold loneP; rw [Bool.not_eq_true] at h2; rw [h2, Bool.false_and, Bool.and_false])⟩
        · exact ⟨_, _, rfl, s3, take_step eu no (by unfold loneP; rw [Bool.not_eq_true] at h1; rw [h1, Bool.false_and])⟩
    · rintro σ H3 ⟨y, z, rfl, s3, no⟩
      rw [tl] at no
      refine q _ _ (s12.trans s3) ?_
      have e : lone c d = none := find_none _ _ no
      rw [e]
      rfl
end
end Tw
set_option Elab.async false
set_option linter.all false
set_option maxRecDepth 100000
set_option maxHeartbeats 4000000
/-! the law's own look for that couple, and the couples that differ -/
namespace Tw
open PySem PySem.Spec PyProof.Rows L2 TwG
theorem tie_read2 {K : PySem.W.Frag} {H : Hp} {a : Addr} {c : Co} {i j : Nat} (hC : Cm K H a c) (t : Tri c) (lt : i < j) (hj : j < c.length) :
    ∃ (xs : List V) (p : Addr) (r : List Int), SqL K H a xs ∧ atI xs (j : Int) = some (.ref p) ∧ SqL K H p (r.map V.int) ∧ atI (r.map V.int) (i : Int) = some (.int (tieC c i j)) := by
  obtain ⟨xs, p, r, h1, h2, h3, h4⟩ := tie_read hC t (Nat.ne_of_lt lt) (Nat.lt_trans lt hj) hj
  rw [Nat.max_eq_right (Nat.le_of_lt lt)] at h2
  rw [Nat.min_eq_left (Nat.le_of_lt lt)] at h4
  exact ⟨xs, p, r, h1, h2, h3, h4⟩
section
variable {P : Program} {w : World} {K : PySem.W.Frag} {mg : Str → Option Value} {base : Heap}
theorem okDue (T : Txt K mg) : Cl P w K mg base 3 "_law_due" (spDue K) := by
  have c2 : Cl P w K mg base 1 "_law_couples" spLCouples := okLCouples T
  have c4 : Cl P w K mg base 2 "_law_alike" (spAlike K) := okLAlike T
  refine T.dLDue.cl cLDue (fun vs H Q E h => ?_) (fun f cdv A outer s H vs Q E hr h => ?_)
  · obtain ⟨k, a, b, c, d, rfl, _⟩ := h
    rfl
  · obtain ⟨k, a, b, c, d, rfl, hC, sh, hD, sh2, hl, q⟩ := h
    obtain ⟨xs, hS, hxl⟩ := len_of hC
    refine ⟨_, pss_cons (ps_for PassesOwn.never rfl (pi_list (pe_c c2 hr (by rfl) (pa_cons (pe_callB call_len_seq (by rfl) T.blen PySem.boot_len (pa_cons (pv 0) pa_nil)) pa_nil)))
        (pg_tup rfl (pgs_cons (pg_name (i := 2) cLDue.nd rfl (Or.inl rfl)) (pgs_cons (pg_name (i := 3) cLDue.nd rfl (Or.inl rfl)) pgs_nil)))
        (pss_one (ps_if (PW.pt (pw_and (pt_cmpR op_ne (pe_ix ix_list (pe_ix ix_list (pv 0) (pv 3) (fun _ _ => rfl)) (pv 2) (fun _ _ => rfl)) (pe_ix ix_list (pe_ix ix_list (pv 1) (pv 3) (fun _ _ => rfl)) (pv 2) (fun _ _ => rfl)) (nomark _))
          (pw_and (pt_not (pt_val (pe_c c4 hr (by rfl) (pa_cons (pv 0) (pa_cons (pv 2) (pa_cons (pv 3) pa_nil))))))
            (pw_and1 (pt_not (pt_val (pe_c c4 hr (by rfl) (pa_cons (pv 1) (pa_cons (pv 2) (pa_cons (pv 3) pa_nil))))))))))
          (pss_one (ps_ret (pe_tup (pa_cons (pv 2) (pa_cons (pv 3) pa_nil))))) pss_nil)))
      (pss_one (ps_ret pe_non)), ?_⟩
    have n40 := sh.n2
    refine ⟨_, rfl, a, _, rfl, .inl hS, c.length, congrArg (fun z => [V.int z]) hxl, n40, fun H2 p s12 np lo => ?_⟩
    obtain ⟨ts, hts, _, hob⟩ := id lo
    have tl : (ts.map V.ref).length = (couples c.length).length := by rw [List.length_map, hob.1, List.length_map]
    refine ⟨p, rfl, ⟨_, SqL.of hts⟩, for_list (K := K) (a := p) (xs := ts.map V.ref) (fun t σ H' => ∃ y z, σ = [some (.ref a), some (.ref b), y, z] ∧ Same H2 H' ∧
      ∀ u ∈ (couples c.length).take t, loneP c d u = false) ⟨none, none, rfl, Same.refl H2, by simp⟩ (fun t σ H' _ ⟨_, _, _, s3, _⟩ => s3.seq (SqL.of hts)) ?_ ?_⟩
    · rintro t x σ H3 hx ⟨y, z, rfl, s3, no⟩
      obtain ⟨t', o, rfl, ho, hto⟩ := (lo.same s3).turn (s3 _ _ hts) hx
      rw [List.getElem?_map] at ho
      cases eu : (couples c.length)[t]? with
      | none =>
        rw [eu] at ho
        cases ho
      | some u =>
        rw [eu] at ho
        obtain rfl : cpO u = o := Option.some.inj ho
        obtain ⟨m1, m2⟩ := couples_mem (List.mem_of_getElem? eu)
        have s4 : Same H H3 := s12.trans s3
        obtain ⟨x1, p1, r1, f1, f2, f3, f4⟩ := tie_read2 (hC.same s4) sh.tri m1 m2
        obtain ⟨x2, p2, r2, g1, g2, g3, g4⟩ := tie_read2 (hD.same s4) sh2.tri m1 (hl ▸ m2)
        refine ⟨t', _, rfl, SqT.of hto, rfl, _, _, rfl, _, _, rfl, rfl, ?_⟩
        refine ⟨_, rfl, _, rfl, a, x1, _, _, rfl, rfl, f1, f2, _, rfl, p1, _, _, _, rfl, rfl, f3, f4, _, rfl, _, rfl, b, x2, _, _, rfl, rfl, g1, g2, _, rfl, p2, _, _, _, rfl, rfl, g3, g4, rfl, _, rfl, ?_⟩
        rw [ne_bit]
        refine ite2 (fun h1 => ?_) (fun h1 => ?_)
        · refine ⟨_, rfl, _, rfl, _, rfl, a, c, u.1, u.2, rfl, hC.same s4, sh.tri, by omega, by omega, by omega, by omega, fun H4 s5 => ⟨_, rfl, ?_⟩⟩
          refine ite2 (fun h2 => ?_) (fun h2 => ?_)
          · refine ⟨_, rfl, _, rfl, _, rfl, b, d, u.1, u.2, rfl, hD.same (s4.trans s5), sh2.tri, by omega, by omega, by omega, by omega, fun H5 s6 => ⟨_, rfl, ?_⟩⟩
            have s7 : Same H H5 := (s4.trans s5).trans s6
            refine ite2 (fun h3 => ?_) (fun h3 => ?_)
            · refine ⟨_, rfl, _, rfl, (by show 2 ≤ sizeLine; decide), fun T' nT => q _ _ (same_new s7 nT) ?_⟩
              have e : lone c d = some u := find_at _ _ t u eu (by unfold loneP; rw [h1, h2, h3]; rfl) no
              rw [e]
              exact ⟨T', rfl, upd_same⟩
            · exact ⟨_, _, rfl, (s3.trans s5).trans s6, take_step eu no (by unfold loneP; rw [Bool.not_eq_true] at h3; rw [h3, Bool.and_false, Bool.and_false])⟩
          · exact ⟨_, _, rfl, s3.trans s5, take_step eu no (by unfold loneP; rw [Bool.not_eq_true] at h2; rw [h2, Bool.false_and, Bool.and_false])⟩
        · exact ⟨_, _, rfl, s3, take_step eu no (by unfold loneP; rw [Bool.not_eq_true] at h1; rw [h1, Bool.false_and])⟩
    · rintro σ H3 ⟨y, z, rfl, s3, no⟩
      rw [tl] at no
      refine q _ _ (s12.trans s3) ?_
      have e : lone c d = none := find_none _ _ no
      rw [e]
      rfl
theorem okDiff (T : Txt K mg) : Cl P w K mg base 7 "differing" (spDiff K) := by
  have c1 : Cl P w K mg base 6 "check_pair" (spCheckPair K) := okCheckPair T
  have c2 : Cl P w K mg base 1 "couples_of" (spCouplesOf K) := okCouplesOf T
  have c3 : Cl P w K mg base 1 "tie_of" (spTie K) := okTieOf T
  refine T.dDiffering.cl cDiffering (fun vs H Q E h => ?_) (fun f cdv A outer s H vs Q E hr h => ?_)
  · obtain ⟨k, a, b, c, d, rfl, _⟩ := h
    rfl
  · obtain ⟨k, a, b, c, d, rfl, k1, k2, hC, sh, hD, sh2, hl, q⟩ := h
    refine ⟨_, pss_cons (ps_expr (pe_c c1 hr (by rfl) (pa_cons (pv 0) (pa_cons (pv 1) (pa_cons (pv 2) pa_nil)))))
      (pss_one (ps_ret (pe_lc (own := [("low", 3), ("high", 4)]) (g := gTup K 2 (gCons (gName 3) (gCons (gName 4) gNil))) rfl cDiffering.nd (pi_list (pe_c c2 hr (by rfl) (pa_cons (pv 1) pa_nil)))
        (blkOk_by (own := [("low", 3), ("high", 4)]) (N := ["kinds", "one", "other", "low", "high"]) (sc := defScope sDiffering) (by decide +kernel))
        (fun _ _ _ _ _ => pg_tup rfl (pgs_cons (pg_name (i := 3) cDiffering.nd rfl (Or.inl rfl)) (pgs_cons (pg_name (i := 4) cDiffering.nd rfl (Or.inl rfl)) pgs_nil)))
        (fun _ _ _ _ _ => pts_one (pt_cmpR op_ne (pe_c c3 hr (by rfl) (pa_cons (pv 1) (pa_cons (pv 3) (pa_cons (pv 4) pa_nil)))) (pe_c c3 hr (by rfl) (pa_cons (pv 2) (pa_cons (pv 3) (pa_cons (pv 4) pa_nil)))) (nomark _)))
        (fun _ _ _ _ _ => pe_tup (pa_cons (pv 3) (pa_cons (pv 4) pa_nil)))))), ?_⟩
    refine ⟨_, rfl, _, rfl, _, rfl, k, a, b, c, d, rfl, k1, k2, hC, sh, hD, sh2, hl, fun H1 s1 => ?_⟩
    have n40 := sh.n2
    refine ⟨_, rfl, a, c, rfl, hC.same s1, sh.n2, fun H2 p s2 np lo => ?_⟩
    have s12 : Same H H2 := s1.trans s2
    obtain ⟨ts, hts, _, hob⟩ := id lo
    have tl : (ts.map V.ref).length = (couples c.length).length := by rw [List.length_map, hob.1, List.length_map]
    have clen : (couples c.length).length ≤ c.length * c.length := couplesTo_len c.length c.length
    have cmul : c.length * c.length ≤ 40 * 40 := Nat.mul_le_mul n40 n40
    refine ⟨p, rfl, ⟨_, SqL.of hts⟩, fun D nD => lc_list (K := K) (a := p) (xs := ts.map V.ref) (fun t H' => Same H2 H' ∧ LO H' D ((((couples c.length).take t).filter (diffP c d)).map cpO))
      ⟨same_up nD, LO.nil H2 D⟩ (fun t H' _ h => h.1.seq (SqL.of hts)) ?_ ?_⟩
    · rintro t x H3 hx ⟨s3, lo2⟩
      obtain ⟨t', o, rfl, ho, hto⟩ := (lo.same s3).turn (s3 _ _ hts) hx
      rw [List.getElem?_map] at ho
      cases eu : (couples c.length)[t]? with
      | none =>
        rw [eu] at ho
        cases ho
      | some u =>
        rw [eu] at ho
        obtain rfl : cpO u = o := Option.some.inj ho
        obtain ⟨m1, m2⟩ := couples_mem (List.mem_of_getElem? eu)
        have s4 : Same H H3 := s12.trans s3
        refine ⟨t', _, rfl, SqT.of hto, rfl, _, _, rfl, _, _, rfl, rfl, rfl, ?_⟩
        refine ⟨_, rfl, _, rfl, _, rfl, a, c, u.1, u.2, rfl, hC.same s4, sh.tri, by omega, by omega, by omega, _, rfl, _, rfl, _, rfl, b, d, u.1, u.2, rfl, hD.same s4, sh2.tri, by omega, by omega, by omega, rfl, _, rfl, ?_⟩
        rw [ne_bit]
        refine ite2 (fun h1 => ?_) (fun h1 => ?_)
        · refine ⟨_, rfl, _, rfl, (by show 2 ≤ sizeLine; decide), fun T' nT => ?_⟩
          obtain ⟨ys, hys, _⟩ := lo2.lst
          have neT : T' ≠ D := fun e => by
            rw [e, hys] at nT
            cases nT
          obtain ⟨acc, a1, a2, a3⟩ := (lo2.same (same_up (o := cpO u) nT)).push (o := cpO u) (t := T') upd_same neT
          refine ⟨acc, a1, ?_, same_in (same_new s3 nT) nD, ?_⟩
          · rw [a2, List.length_map]
            have z := List.length_filter_le (diffP c d) ((couples c.length).take t)
            rw [List.length_take] at z
            rw [sizeLine_eq]
            omega
          · rw [take_filter _ _ _ _ eu, if_pos (show diffP c d u = true from h1), List.map_append]
            exact a3
        · refine ⟨s3, ?_⟩
          rw [take_filter _ _ _ _ eu, if_neg (show ¬ diffP c d u = true from h1), List.append_nil]
          exact lo2
    · rintro H3 ⟨s3, lo2⟩
      rw [tl, List.take_length] at lo2
      exact q H3 D (s12.trans s3) (s12.free nD) lo2
end
end Tw
set_option Elab.async false
set_option linter.all false
set_option maxRecDepth 100000
set_option maxHeartbeats 4000000
/-! words of threes -/
namespace Tw
open PySem PySem.Spec PyProof.Rows L2 TwG
def wordL (a b c : Int) : List Int := if a = b ∨ a = c then [a] else if b = c then [b] else [a, b, c]
abbrev Tr := Nat × Nat × Nat
def wordC (c : Co) (t : Tr) : List Int := wordL (tieC c t.1 t.2.1) (tieC c t.1 t.2.2) (tieC c t.2.1 t.2.2)
def threes2 (n i j : Nat) : List Tr := (List.range (n - (j + 1))).map fun d => (i, j, j + 1 + d)
def threes1 (n i t : Nat) : List Tr := (List.range t).flatMap fun d => threes2 n i (i + 1 + d)
def threesTo (n s : Nat) : List Tr := (List.range s).flatMap fun i => threes1 n i (n - (i + 1))
def threes (n : Nat) : List Tr := threesTo n n
abbrev trO (t : Tr) : HO := .tup [cN t.1, cN t.2.1, cN t.2.2]
theorem threes1_succ (n i t : Nat) : threes1 n i (t + 1) = threes1 n i t ++ threes2 n i (i + 1 + t) := by
  unfold threes1
  rw [List.range_succ, List.flatMap_append]
  simp
theorem threesTo_succ (n s : Nat) : threesTo n (s + 1) = threesTo n s ++ threes1 n s (n - (s + 1)) := by
  unfold threesTo
  rw [List.range_succ, List.flatMap_append]
  simp
theorem threes2_len (n i j : Nat) : (threes2 n i j).length ≤ n := by
  unfold threes2
  rw [List.length_map, List.length_range]
  omega
theorem threes1_len (n i : Nat) : ∀ t, (threes1 n i t).length ≤ t * n
  | 0 => by simp [threes1]
  | t + 1 => by
    rw [threes1_succ, List.length_append, Nat.succ_mul]
    have z := threes1_len n i t
    have y := threes2_len n i (i + 1 + t)
    omega
theorem threesTo_len (n : Nat) : ∀ s, (threesTo n s).length ≤ s * (n * n)
  | 0 => by simp [threesTo]
  | s + 1 => by
    rw [threesTo_succ, List.length_append, Nat.succ_mul]
    have z := threesTo_len n s
    have y := threes1_len n s (n - (s + 1))
    have x : (n - (s + 1)) * n ≤ n * n := Nat.mul_le_mul (by omega) (Nat.le_refl _)
    omega
theorem threes_mem {n : Nat} {t : Tr} (h : t ∈ threes n) : t.1 < t.2.1 ∧ t.2.1 < t.2.2 ∧ t.2.2 < n := by
  unfold threes threesTo threes1 threes2 at h
  rw [List.mem_flatMap] at h
  obtain ⟨i, hi, h⟩ := h
  rw [List.mem_flatMap] at h
  obtain ⟨d, hd, h⟩ := h
  rw [List.mem_map] at h
  obtain ⟨e, he, rfl⟩ := h
  rw [List.mem_range] at hi hd he
  exact ⟨by show i < i + 1 + d; omega, by show i + 1 + d < i + 1 + d + 1 + e; omega, by show i + 1 + d + 1 + e < n; omega⟩
def spWord (K : PySem.W.Frag) : Sp := fun vs H Q _ => ∃ (a : Addr) (c : Co) (t : Tr), vs = [.ref a, cN t.1, cN t.2.1, cN t.2.2] ∧ Cm K H a c ∧ Tri c ∧ t.1 < t.2.1 ∧ t.2.1 < t.2.2 ∧ t.2.2 < c.length ∧
  ∀ H' p, Same H H' → H p = none → H' p = some (.tup ((wordC c t).map V.int)) → Q (.ref p) H'
/-- a list of the first n people -/
def Ppl (K : PySem.W.Frag) (H : Hp) (p : Addr) (n : Nat) : Prop := SqL K H p ((List.range n).map cN)
def spThrees (K : PySem.W.Frag) : Sp := fun vs H Q _ => ∃ (p : Addr) (n : Nat), vs = [.ref p] ∧ Ppl K H p n ∧ n ≤ 40 ∧ ∀ H' r, Same H H' → H r = none → LO H' r ((threes n).map trO) → Q (.ref r) H'
theorem cut_from (xs : List V) (m : Nat) : cutV xs (some (m : Int)) none = xs.drop m := by
  unfold cutV
  rw [show HT.sIx xs.length 0 (some (m : Int)) = min m xs.length from HT.sIx_nat xs.length 0 m, HT.sIx_none]
  by_cases h : m ≤ xs.length
  · rw [Nat.min_eq_left h]
    exact List.take_of_length_le (by rw [List.length_drop]; exact Nat.le_refl _)
  · rw [Nat.min_eq_right (by omega), Nat.sub_self, List.take_zero, List.drop_eq_nil_of_le (by omega)]
theorem at_ppl {n i : Nat} {x : V} (h : ((List.range n).map cN)[i]? = some x) : i < n ∧ x = cN i := by
  rw [List.getElem?_map] at h
  by_cases hi : i < n
  · rw [List.getElem?_range hi] at h
    exact ⟨hi, (Option.some.inj h).symm⟩
  · rw [List.getElem?_eq_none (by rw [List.length_range]; omega)] at h
    cases h
theorem ppl_at {n i : Nat} (hi : i < n) : ((List.range n).map cN)[i]? = some (cN i) := by
  rw [List.getElem?_map, List.getElem?_range hi]
  rfl
section
variable {P : Program} {w : World} {K : PySem.W.Frag} {mg : Str → Option Value} {base : Heap}
theorem okWord (T : Txt K mg) : Cl P w K mg base 2 "word_at" (spWord K) := by
  have c1 : Cl P w K mg base 1 "tie_of" (spTie K) := okTieOf T
  refine T.dWordAt.cl cWordAt (fun vs H Q E h => ?_) (fun f cdv A outer s H vs Q E hr h => ?_)
  · obtain ⟨a, c, t, rfl, _⟩ := h
    rfl
  · obtain ⟨a, c, t, rfl, hC, tr, t1, t2, t3, q⟩ := h
    refine ⟨_, pss_cons (ps_par3 (i := 4) (j := 5) (l := 6) rfl cWordAt.nd rfl rfl rfl (by decide) (by decide) (by decide) rfl rfl rfl
        (pa_cons (pe_c c1 hr (by rfl) (pa_cons (pv 0) (pa_cons (pv 1) (pa_cons (pv 2) pa_nil)))) (pa_cons (pe_c c1 hr (by rfl) (pa_cons (pv 0) (pa_cons (pv 1) (pa_cons (pv 3) pa_nil))))
          (pa_cons (pe_c c1 hr (by rfl) (pa_cons (pv 0) (pa_cons (pv 2) (pa_cons (pv 3) pa_nil)))) pa_nil))) (by rfl))
      (pss_cons (ps_if (pt_cmpR op_in_seq (pv 4) (pe_tup (pa_cons (pv 5) (pa_cons (pv 6) pa_nil))) (by rfl)) (pss_one (ps_ret (pe_tup (pa_cons (pv 4) pa_nil)))) pss_nil)
      (pss_one (ps_ret (pe_ifExp (pt_cmpR op_eq (pv 5) (pv 6) (nomark _)) (pe_tup (pa_cons (pv 5) pa_nil)) (pe_tup (pa_cons (pv 4) (pa_cons (pv 5) (pa_cons (pv 6) pa_nil)))))))), ?_⟩
    refine ⟨_, rfl, _, rfl, _, rfl, a, c, t.1, t.2.1, rfl, hC, tr, by omega, by omega, by omega, _, rfl, _, rfl, _, rfl, a, c, t.1, t.2.2, rfl, hC, tr, by omega, by omega, by omega,
      _, rfl, _, rfl, _, rfl, a, c, t.2.1, t.2.2, rfl, hC, tr, by omega, by omega, by omega, _, _, _, rfl, ?_⟩
    refine ⟨_, rfl, _, rfl, _, rfl, (by show 2 ≤ sizeLine; decide), fun T' nT => ⟨T', _, rfl, .inr (SqT.of upd_same), rfl, rfl, _, rfl, ?_⟩⟩
    show if inV (.int (tieC c t.1 t.2.1)) [.int (tieC c t.1 t.2.2), .int (tieC c t.2.1 t.2.2)] = true then _ else _
    rw [inV2]
    refine ite2 (fun h => ?_) (fun h => ?_)
    · refine ⟨_, rfl, (by show 1 ≤ sizeLine; decide), fun R nR => q _ R (same_new (same_up nT) nR) ((same_up nT).free nR) ?_⟩
      rw [upd_same]
      unfold wordC wordL
      rw [if_pos (by
        rw [Bool.or_eq_true, decide_eq_true_eq, decide_eq_true_eq] at h
        rcases h with h | h
        · exact .inl h.symm
        · exact .inr h.symm)]
      rfl
    · have h' : ¬ (tieC c t.1 t.2.1 = tieC c t.1 t.2.2 ∨ tieC c t.1 t.2.1 = tieC c t.2.1 t.2.2) := fun z => h (by
        rw [Bool.or_eq_true, decide_eq_true_eq, decide_eq_true_eq]
        rcases z with z | z
        · exact .inl z.symm
        · exact .inr z.symm)
      refine ⟨_, rfl, _, rfl, rfl, _, rfl, ?_⟩
      refine ite2 (fun h2 => ?_) (fun h2 => ?_)
      · refine ⟨_, rfl, (by show 1 ≤ sizeLine; decide), fun R nR => q _ R (same_new (same_up nT) nR) ((same_up nT).free nR) ?_⟩
        rw [upd_same]
        unfold wordC wordL
        rw [if_neg h', if_pos (V.int.inj (of_decide_eq_true h2))]
        rfl
      · refine ⟨_, rfl, _, rfl, _, rfl, (by show 3 ≤ sizeLine; decide), fun R nR => q _ R (same_new (same_up nT) nR) ((same_up nT).free nR) ?_⟩
        rw [upd_same]
        unfold wordC wordL
        rw [if_neg h', if_neg fun z => h2 (decide_eq_true (congrArg V.int z))]
        rfl
theorem okThrees (T : Txt K mg) : Cl P w K mg base 1 "threes_of" (spThrees K) := by
  refine T.dThreesOf.cl cThreesOf (fun vs H Q E h => ?_) (fun f cdv A outer s H vs Q E hr h => ?_)
  · obtain ⟨p, n, rfl, _⟩ := h
    rfl
  · obtain ⟨p, n, rfl, hS, hn, q⟩ := h
    have hlen : (((List.range n).map cN).length : Int) = (n : Int) := by rw [List.length_map, List.length_range]
    refine ⟨_, pss_cons (ps_set (i := 1) cThreesOf.nd rfl (.inl rfl) (pe_lst pa_nil))
      (pss_cons (ps_for PassesOwn.never rfl (pi_enum (by rfl) T.benumerate (pa_cons (pv 0) pa_nil))
        (pg_tup rfl (pgs_cons (pg_name (i := 2) cThreesOf.nd rfl (Or.inl rfl)) (pgs_cons (pg_name (i := 3) cThreesOf.nd rfl (Or.inr rfl)) pgs_nil)))
        (pss_one (ps_for PassesOwn.never rfl (pi_range2 (by rfl) T.brange (pa_cons (pe_op op_add (pv 2) pe_int) (pa_cons (pe_callB call_len_seq (by rfl) T.blen PySem.boot_len (pa_cons (pv 0) pa_nil)) pa_nil)))
          (pg_name (i := 4) cThreesOf.nd rfl (Or.inr rfl))
          (pss_one (ps_aug (i := 1) cThreesOf.nd rfl (.inl rfl)
            (pe_lc (own := [("third", 5)]) (g := gName 5) (te := tTup (tCons (tVar 3) (tCons (tOp (rIxL K) (tVar 0) (tVar 4)) (tCons (tVar 5) tNil)))) rfl cThreesOf.nd
              (pi_list (pe_slice sl_list (pv 0) (po_some (pe_op op_add (pv 4) pe_int)) po_none))
              (blkOk_by (own := [("third", 5)]) (N := ["people", "found", "place", "first", "at", "third"]) (sc := defScope sThreesOf) (by decide +kernel)) (fun _ _ _ _ _ => pg_name (i := 5) cThreesOf.nd rfl (Or.inl rfl))
              (fun _ _ _ _ _ => pts_nil) (fun _ _ _ _ _ => pe_tup (pa_cons (pv 3) (pa_cons (pe_ix ix_list (pv 0) (pv 4) (fun _ _ => rfl)) (pa_cons (pv 5) pa_nil)))))
            iop_ext)))))
      (pss_one (ps_ret (pv 1)))), ?_⟩
    refine ⟨Nat.zero_le _, fun o no => ?_⟩
    have s1 : Same H (upd H o (.lst [])) := same_up no
    refine ⟨_, rfl, p, _, rfl, s1.seq hS, for_n (J := Ite K p) (n := n) (fun t σ H' => ∃ x2 x3 x4 x5, σ = [some (.ref p), some (.ref o), x2, x3, x4, x5] ∧ Same H H' ∧ LO H' o ((threesTo n t).map trO))
      ⟨none, none, none, none, rfl, s1, LO.nil H o⟩ (fun t σ H' ht ⟨_, _, _, _, _, sm, _⟩ => ⟨_, _, sm.seq hS, ppl_at ht⟩) (fun σ H' ⟨_, _, _, _, _, sm, _⟩ => ⟨_, sm.seq hS, by rw [List.length_map, List.length_range]; exact Nat.le_refl _⟩) ?_ ?_⟩
    · rintro t x σ H1 H2 ht ⟨x2, x3, x4, x5, rfl, sm, lo⟩ ⟨T', y, rfl, nT, rfl, fy⟩
      obtain ⟨_, rfl⟩ := at_ppl (fy _ (sm.seq hS))
      have sm2 : Same H (upd H1 T' (.tup [cN t, cN t])) := same_new sm nT
      have lo2 : LO (upd H1 T' (.tup [cN t, cN t])) o ((threesTo n t).map trO) := lo.same (same_up nT)
      refine ⟨T', _, rfl, SqT.of upd_same, rfl, _, _, rfl, _, _, rfl, rfl, ?_⟩
      refine ⟨_, rfl, _, _, rfl, rfl, _, rfl, p, _, rfl, .inl (sm2.seq hS), _, _, rfl, ⟨by omega, by omega, by omega, by omega⟩, for_range (lo := (t : Int) + 1) (n := _)
        (fun u σ H' => ∃ y4 y5, σ = [some (.ref p), some (.ref o), some (cN t), some (cN t), y4, y5] ∧ Same H H' ∧ LO H' o ((threesTo n t ++ threes1 n t u).map trO)) ⟨_, _, rfl, sm2, ?_⟩ ?_ ?_⟩
      · rw [show threes1 n t 0 = [] from rfl, List.append_nil]
        exact lo2
      · rintro u σ H3 hu ⟨y4, y5, rfl, sm3, lo3⟩
        have hun : t + 1 + u < n := by omega
        have e1 : (t : Int) + 1 + (u : Nat) = ((t + 1 + u : Nat) : Int) := by omega
        have z1 := threesTo_len n t
        have z2 := threes1_len n t u
        have z3 : t * (n * n) ≤ 40 * (40 * 40) := Nat.mul_le_mul (by omega) (Nat.mul_le_mul hn hn)
        have z4 : u * n ≤ 40 * 40 := Nat.mul_le_mul (by omega) hn
        refine ⟨.ref o, rfl, _, rfl, _, rfl, _, _, rfl, rfl, _, rfl, p, _, rfl, sm3.seq hS, fun C nC => ?_⟩
        rw [e1, show ((t + 1 + u : Nat) : Int) + 1 = ((t + 1 + u + 1 : Nat) : Int) by omega, cut_from]
        have sm4 : Same H (upd H3 C (.lst (((List.range n).map cN).drop (t + 1 + u + 1)))) := same_new sm3 nC
        refine ⟨C, rfl, ⟨_, SqL.of upd_same⟩, fun D nD => lc_list (K := K) (a := C) (xs := ((List.range n).map cN).drop (t + 1 + u + 1))
          (fun v H' => Same (upd H3 C (.lst (((List.range n).map cN).drop (t + 1 + u + 1)))) H' ∧ LO H' D (((List.range v).map fun d => ((t, t + 1 + u, t + 1 + u + 1 + d) : Tr)).map trO)) ⟨same_up nD, LO.nil _ D⟩
          (fun v H' _ h => h.1.seq (SqL.of upd_same)) ?_ ?_⟩
        · rintro v x H4 hx ⟨sm5, lo5⟩
          rw [List.getElem?_drop] at hx
          obtain ⟨hv, rfl⟩ := at_ppl hx
          refine ⟨rfl, _, rfl, _, rfl, _, rfl, p, _, _, _, rfl, rfl, (sm4.trans sm5).seq hS, atI_nat (ppl_at hun), _, rfl, (by show 3 ≤ sizeLine; decide), fun T2 nT2 => ?_⟩
          obtain ⟨ys, hys, _⟩ := lo5.lst
          have neT : T2 ≠ D := fun e => by
            rw [e, hys] at nT2
            cases nT2
          obtain ⟨acc, a1, a2, a3⟩ := (lo5.same (same_up (o := trO (t, t + 1 + u, t + 1 + u + 1 + v)) nT2)).push (o := trO (t, t + 1 + u, t + 1 + u + 1 + v)) (t := T2) upd_same neT
          refine ⟨acc, a1, ?_, same_in (same_new sm5 nT2) nD, ?_⟩
          · rw [a2, List.length_map, List.length_map, List.length_range, sizeLine_eq]
            omega
          · rw [List.range_succ, List.map_append, List.map_append]
            exact a3
        · rintro H4 ⟨sm5, lo5⟩
          rw [List.length_drop, List.length_map, List.length_range] at lo5
          have lo6 : LO H4 o ((threesTo n t ++ threes1 n t u).map trO) := lo3.same ((same_up nC).trans sm5)
          have sm6 : Same H H4 := sm4.trans sm5
          have off : ∀ ts : List Addr, H4 D = some (.lst (ts.map V.ref)) → o ∉ ts := by
            intro ts hts hm
            obtain ⟨ts2, c1, c2, c3⟩ := lo5
            rw [hts] at c1
            have e := refs_inj (HO.lst.inj (Option.some.inj c1))
            subst e
            obtain ⟨i, hi⟩ := List.getElem?_of_mem hm
            have hl := (List.getElem?_eq_some_iff.mp hi).1
            rw [c3.1] at hl
            have e1 := c3.2 i o _ hi (List.getElem?_eq_getElem hl)
            obtain ⟨zs, e2, _⟩ := lo6.lst
            rw [e2, List.getElem_map] at e1
            cases e1
          obtain ⟨xs, ys, b1, b2, b3, b4, b5⟩ := lo6.ext lo5 off
          refine ⟨o, D, xs, ys, rfl, rfl, b1, b2, ?_, ?_⟩
          · rw [b3, b4, List.length_map, List.length_map, List.length_map, List.length_range, List.length_append, sizeLine_eq]
            omega
          · refine ⟨_, _, rfl, same_in sm6 no, ?_⟩
            rw [threes1_succ, ← List.append_assoc, List.map_append]
            exact b5
      · rintro σ H3 ⟨y4, y5, rfl, sm3, lo3⟩
        refine ⟨_, _, _, _, rfl, sm3, ?_⟩
        rw [threesTo_succ]
        rw [show ((((List.range n).map cN).length : Int) - ((t : Int) + 1)).toNat = n - (t + 1) by omega] at lo3
        exact lo3
    · rintro σ H1 ⟨x2, x3, x4, x5, rfl, sm, lo⟩
      exact ⟨_, rfl, q H1 o sm no lo⟩
end
end Tw
set_option Elab.async false
set_option linter.all false
set_option maxRecDepth 100000
set_option maxHeartbeats 4000000
/-! fours, and which of them are firm -/
namespace Tw
open PySem PySem.Spec PyProof.Rows L2 TwG
abbrev Qd := Nat × Nat × Nat × Nat
def fours2 (n : Nat) (t : Tr) : List Qd := ((List.range n).filter fun l => decide (t.2.2 < l)).map fun l => (t.1, t.2.1, t.2.2, l)
def foursOf (n : Nat) (ts : List Tr) : List Qd := ts.flatMap (fours2 n)
def fours (n : Nat) : List Qd := foursOf n (threes n)
abbrev foI (q : Qd) : List Int := [(q.1 : Int), (q.2.1 : Int), (q.2.2.1 : Int), (q.2.2.2 : Int)]
abbrev foO (q : Qd) : HO := .lst ((foI q).map V.int)
theorem fours2_len (n : Nat) (t : Tr) : (fours2 n t).length ≤ n := by
  unfold fours2
  rw [List.length_map]
  have z := List.length_filter_le (fun l => decide (t.2.2 < l)) (List.range n)
  rw [List.length_range] at z
  exact z
theorem foursOf_len (n : Nat) : ∀ ts : List Tr, (foursOf n ts).length ≤ ts.length * n
  | [] => by simp [foursOf]
  | t :: ts => by
    show (fours2 n t ++ foursOf n ts).length ≤ _
    rw [List.length_append, List.length_cons, Nat.succ_mul]
    have z := foursOf_len n ts
    have y := fours2_len n t
    omega
theorem fours_mem {n : Nat} {q : Qd} (h : q ∈ fours n) : q.1 < q.2.1 ∧ q.2.1 < q.2.2.1 ∧ q.2.2.1 < q.2.2.2 ∧ q.2.2.2 < n := by
  unfold fours foursOf fours2 at h
  rw [List.mem_flatMap] at h
  obtain ⟨t, ht, h⟩ := h
  obtain ⟨m1, m2, m3⟩ := threes_mem ht
  rw [List.mem_map] at h
  obtain ⟨l, hl, rfl⟩ := h
  rw [List.mem_filter, List.mem_range] at hl
  exact ⟨m1, m2, of_decide_eq_true hl.2, hl.1⟩
theorem fours_len {n : Nat} (hn : n ≤ 40) : (fours n).length ≤ 2560000 := by
  have z := foursOf_len n (threes n)
  have y := threesTo_len n n
  have x : n * (n * n) ≤ 40 * (40 * 40) := Nat.mul_le_mul hn (Nat.mul_le_mul hn hn)
  have w : (threes n).length * n ≤ 64000 * 40 := Nat.mul_le_mul (by show (threesTo n n).length ≤ 64000; omega) hn
  show (foursOf n (threes n)).length ≤ _
  omega
def sixP (q : Qd) : List (Nat × Nat) := [(q.1, q.2.1), (q.1, q.2.2.1), (q.1, q.2.2.2), (q.2.1, q.2.2.1), (q.2.1, q.2.2.2), (q.2.2.1, q.2.2.2)]
def sixC (c : Co) (q : Qd) : List Int := (sixP q).map fun p => tieC c p.1 p.2
def spFours (K : PySem.W.Frag) : Sp := fun vs H Q _ => ∃ (p : Addr) (n : Nat), vs = [.ref p] ∧ Ppl K H p n ∧ n ≤ 40 ∧ ∀ H' r, Same H H' → H r = none → LO H' r ((fours n).map foO) → Q (.ref r) H'
def spSix (K : PySem.W.Frag) : Sp := fun vs H Q _ => ∃ (a p : Addr) (c : Co) (q : Qd), vs = [.ref a, .ref p] ∧ Cm K H a c ∧ Tri c ∧ SqL K H p ((foI q).map V.int) ∧ q.1 < q.2.1 ∧ q.2.1 < q.2.2.1 ∧ q.2.2.1 < q.2.2.2 ∧ q.2.2.2 < c.length ∧
  ∀ H' r, Same H H' → H r = none → H' r = some (.lst ((sixC c q).map V.int)) → Q (.ref r) H'
/-- the six pairs of ties that tell who stands alike -/
def firmAt : List Qd := [(1, 3, 2, 4), (0, 3, 2, 5), (0, 4, 1, 5), (0, 1, 4, 5), (0, 2, 3, 5), (1, 2, 3, 4)]
def firmP (l : List Int) (q : Qd) : Bool := decide (l.getD q.1 0 = l.getD q.2.1 0) && decide (l.getD q.2.2.1 0 = l.getD q.2.2.2 0)
def firmB (l : List Int) : Bool := (firmAt.filter (firmP l)).isEmpty
def spFirm (K : PySem.W.Frag) : Sp := fun vs H Q _ => ∃ (p : Addr) (l : List Int), vs = [.ref p] ∧ SqL K H p (l.map V.int) ∧ l.length = 6 ∧ ∀ H', Same H H' → Q (.bl (firmB l)) H'
abbrev fqO (q : Qd) : HO := .tup [cN q.1, cN q.2.1, cN q.2.2.1, cN q.2.2.2]
theorem firm_small : ∀ q ∈ firmAt, q.1 < 6 ∧ q.2.1 < 6 ∧ q.2.2.1 < 6 ∧ q.2.2.2 < 6 := by decide
theorem six_at {l : List Int} (hl : l.length = 6) {i : Nat} (hi : i < 6) : (l.map V.int)[i]? = some (.int (l.getD i 0)) := by
  rw [List.getElem?_map, List.getElem?_eq_getElem (hl ▸ hi), List.getD_eq_getElem?_getD, List.getElem?_eq_getElem (hl ▸ hi)]
  rfl
theorem eq_bit (x y : Int) : (decide (V.int x = V.int y)) = decide (x = y) := decide_eq_decide.mpr ⟨fun h => V.int.inj h, fun h => congrArg V.int h⟩
/-- an element of a list of tracked objects -/
theorem LO.off {H : Hp} {o D : Addr} {os us : List HO} (h : LO H o os) (h2 : LO H D us) (d : ∀ u ∈ us, ∀ ts : List Addr, u ≠ .lst (ts.map V.ref)) : ∀ ts : List Addr, H D = some (.lst (ts.map V.ref)) → o ∉ ts := by
  intro ts hts hm
  obtain ⟨ts2, c1, c2, c3⟩ := h2
  rw [hts] at c1
  have e := refs_inj (HO.lst.inj (Option.some.inj c1))
  subst e
  obtain ⟨i, hi⟩ := List.getElem?_of_mem hm
  have hl := (List.getElem?_eq_some_iff.mp hi).1
  rw [c3.1] at hl
  have e1 := c3.2 i o _ hi (List.getElem?_eq_getElem hl)
  obtain ⟨zs, e2, _⟩ := h
  rw [e2] at e1
  exact d _ (List.getElem_mem hl) zs (Option.some.inj e1).symm
section
variable {P : Program} {w : World} {K : PySem.W.Frag} {mg : Str → Option Value} {base : Heap}
theorem okFours (T : Txt K mg) : Cl P w K mg base 2 "fours_of" (spFours K) := by
  have c1 : Cl P w K mg base 1 "threes_of" (spThrees K) := okThrees T
  refine T.dFoursOf.cl cFoursOf (fun vs H Q E h => ?_) (fun f cdv A outer s H vs Q E hr h => ?_)
  · obtain ⟨p, n, rfl, _⟩ := h
    rfl
  · obtain ⟨p, n, rfl, hS, hn, q⟩ := h
    refine ⟨_, pss_cons (ps_set (i := 1) cFoursOf.nd rfl (.inl rfl) (pe_lst pa_nil))
      (pss_cons (ps_for PassesOwn.never rfl (pi_list (pe_c c1 hr (by rfl) (pa_cons (pv 0) pa_nil)))
        (pg_tup rfl (pgs_cons (pg_name (i := 2) cFoursOf.nd rfl (Or.inr rfl)) (pgs_cons (pg_name (i := 3) cFoursOf.nd rfl (Or.inr rfl)) (pgs_cons (pg_name (i := 4) cFoursOf.nd rfl (Or.inr rfl)) pgs_nil))))
        (pss_one (ps_aug (i := 1) cFoursOf.nd rfl (.inl rfl)
            (pe_lc (own := [("last", 5)]) (g := gName 5) rfl cFoursOf.nd (pi_list (pv 0))
              (blkOk_by (own := [("last", 5)]) (N := ["people", "found", "first", "second", "third", "last"]) (sc := defScope sFoursOf) (by decide +kernel)) (fun _ _ _ _ _ => pg_name (i := 5) cFoursOf.nd rfl (Or.inl rfl))
              (fun _ _ _ _ _ => pts_one (pt_cmpR op_gt (pv 5) (pv 4) (nomark _)))
              (fun _ _ _ _ _ => pe_lst (pa_cons (pv 2) (pa_cons (pv 3) (pa_cons (pv 4) (pa_cons (pv 5) pa_nil))))))
            iop_ext)))
      (pss_one (ps_ret (pv 1)))), ?_⟩
    refine ⟨Nat.zero_le _, fun o no => ?_⟩
    have s1 : Same H (upd H o (.lst [])) := same_up no
    refine ⟨_, rfl, p, n, rfl, s1.seq hS, hn, fun H2 r s2 nr lo => ?_⟩
    have s12 : Same H H2 := s1.trans s2
    obtain ⟨ts, hts, _, hob⟩ := id lo
    have tl : (ts.map V.ref).length = (threes n).length := by rw [List.length_map, hob.1, List.length_map]
    have z1 := threesTo_len n n
    have z3 : n * (n * n) ≤ 40 * (40 * 40) := Nat.mul_le_mul hn (Nat.mul_le_mul hn hn)
    refine ⟨r, rfl, ⟨_, SqL.of hts⟩, for_list (K := K) (a := r) (xs := ts.map V.ref) (fun t σ H' => ∃ x2 x3 x4 x5, σ = [some (.ref p), some (.ref o), x2, x3, x4, x5] ∧ Same H H' ∧ H' r = some (.lst (ts.map V.ref)) ∧ LO H' r ((threes n).map trO) ∧ LO H' o ((foursOf n ((threes n).take t)).map foO))
      ⟨none, none, none, none, rfl, s12, hts, lo, (LO.nil H o).same s2⟩ (fun t σ H' _ ⟨_, _, _, _, _, _, h, _⟩ => SqL.of h) ?_ ?_⟩
    · rintro t x σ H3 hx ⟨x2, x3, x4, x5, rfl, sm, hts3, lo3, lof⟩
      obtain ⟨t', o', rfl, ho, hto⟩ := lo3.turn hts3 hx
      rw [List.getElem?_map] at ho
      cases eu : (threes n)[t]? with
      | none =>
        rw [eu] at ho
        cases ho
      | some u =>
        rw [eu] at ho
        obtain rfl : trO u = o' := Option.some.inj ho
        have tlt : t < (threesTo n n).length := (List.getElem?_eq_some_iff.mp eu).1
        refine ⟨t', _, rfl, SqT.of hto, rfl, _, _, rfl, _, _, rfl, _, _, rfl, rfl, ?_⟩
        refine ⟨.ref o, rfl, _, rfl, p, rfl, ⟨_, sm.seq hS⟩, fun D nD => lc_list (K := K) (a := p) (xs := (List.range n).map cN)
          (fun v H' => Same H3 H' ∧ LO H' D ((((List.range v).filter fun l => decide (u.2.2 < l)).map fun l => ((u.1, u.2.1, u.2.2, l) : Qd)).map foO)) ⟨same_up nD, LO.nil _ D⟩
          (fun v H' _ h => (sm.trans h.1).seq hS) ?_ ?_⟩
        · rintro v x H4 hx ⟨sm5, lo5⟩
          obtain ⟨hv, rfl⟩ := at_ppl hx
          refine ⟨rfl, _, rfl, _, rfl, _, _, rfl, rfl, _, rfl, ite2 (fun h => ?_) (fun h => ?_)⟩
          · have hlt : u.2.2 < v := by
              have z := of_decide_eq_true h
              omega
            refine ⟨_, rfl, _, rfl, _, rfl, _, rfl, (by show 4 ≤ sizeLine; decide), fun T2 nT2 => ?_⟩
            obtain ⟨ys, hys, _⟩ := lo5.lst
            have neT : T2 ≠ D := fun e => by
              rw [e, hys] at nT2
              cases nT2
            obtain ⟨acc, a1, a2, a3⟩ := (lo5.same (same_up (o := foO (u.1, u.2.1, u.2.2, v)) nT2)).push (o := foO (u.1, u.2.1, u.2.2, v)) (t := T2) upd_same neT
            refine ⟨acc, a1, ?_, same_in (same_new sm5 nT2) nD, ?_⟩
            · rw [a2, List.length_map, List.length_map]
              have z := List.length_filter_le (fun l => decide (u.2.2 < l)) (List.range v)
              rw [List.length_range] at z
              rw [sizeLine_eq]
              omega
            · rw [filter_step, if_pos (decide_eq_true hlt), List.map_append, List.map_append]
              exact a3
          · have hlt : ¬ u.2.2 < v := fun y => h (decide_eq_true (by omega))
            refine ⟨sm5, ?_⟩
            rw [filter_step, if_neg (fun y => hlt (of_decide_eq_true y)), List.append_nil]
            exact lo5
        · rintro H4 ⟨sm5, lo5⟩
          rw [List.length_map, List.length_range] at lo5
          have lo6 := lof.same sm5
          have off := lo6.off lo5 (fun u' hu' zs e => by
            obtain ⟨y, _, rfl⟩ := List.mem_map.mp hu'
            have e2 := HO.lst.inj e
            cases zs with
            | nil => cases e2
            | cons z zs => cases e2)
          obtain ⟨xs, ys, b1, b2, b3, b4, b5⟩ := lo6.ext lo5 off
          have z4 := foursOf_len n ((threes n).take t)
          rw [List.length_take] at z4
          have z5 : min t (threes n).length * n ≤ 64000 * 40 := Nat.mul_le_mul (by omega) hn
          have z6 := fours2_len n u
          refine ⟨o, D, xs, ys, rfl, rfl, b1, b2, ?_, ?_⟩
          · rw [b3, b4, List.length_map, sizeLine_eq]
            show _ + ((fours2 n u).map foO).length ≤ _
            rw [List.length_map]
            omega
          · have nro : r ≠ o := fun e => by
              rw [e, upd_same] at nr
              cases nr
            have lo7 : LO H4 r ((threes n).map trO) := lo3.same sm5
            have off2 := lo6.off lo7 (fun u' hu' zs e => by
              obtain ⟨y, _, rfl⟩ := List.mem_map.mp hu'
              cases e)
            refine ⟨_, _, _, _, rfl, same_in (sm.trans sm5) no, ?_, lo7.put nro off2, ?_⟩
            · rw [upd_ne nro]
              exact sm5 _ _ hts3
            · rw [List.take_add_one, eu]
              unfold foursOf
              rw [List.flatMap_append, List.map_append]
              simp only [Option.toList_some, List.flatMap_cons, List.flatMap_nil, List.append_nil]
              exact b5
    · rintro σ H3 ⟨x2, x3, x4, x5, rfl, sm, hts3, lo3, lof⟩
      rw [tl, List.take_length] at lof
      exact ⟨_, rfl, q H3 o sm no lof⟩
theorem okSix (T : Txt K mg) : Cl P w K mg base 2 "four_ties" (spSix K) := by
  have c1 : Cl P w K mg base 1 "tie_of" (spTie K) := okTieOf T
  refine T.dFourTies.cl cFourTies (fun vs H Q E h => ?_) (fun f cdv A outer s H vs Q E hr h => ?_)
  · obtain ⟨a, p, c, q, rfl, _⟩ := h
    rfl
  · obtain ⟨a, p, c, q, rfl, hC, tr, hS, q1, q2, q3, q4, k⟩ := h
    refine ⟨_, pss_cons (ps_asg (pv 1) (pg_unl rfl (pgs_cons (pg_name (i := 2) cFourTies.nd rfl (Or.inl rfl)) (pgs_cons (pg_name (i := 3) cFourTies.nd rfl (Or.inl rfl)) (pgs_cons (pg_name (i := 4) cFourTies.nd rfl (Or.inl rfl)) (pgs_cons (pg_name (i := 5) cFourTies.nd rfl (Or.inl rfl)) pgs_nil))))))
      (pss_cons (ps_set (i := 6) cFourTies.nd rfl (.inl rfl) (pe_lst (pa_cons (pe_tup (pa_cons (pv 2) (pa_cons (pv 3) pa_nil))) (pa_cons (pe_tup (pa_cons (pv 2) (pa_cons (pv 4) pa_nil))) (pa_cons (pe_tup (pa_cons (pv 2) (pa_cons (pv 5) pa_nil)))
        (pa_cons (pe_tup (pa_cons (pv 3) (pa_cons (pv 4) pa_nil))) (pa_cons (pe_tup (pa_cons (pv 3) (pa_cons (pv 5) pa_nil))) (pa_cons (pe_tup (pa_cons (pv 4) (pa_cons (pv 5) pa_nil))) pa_nil))))))))
      (pss_one (ps_ret (pe_lc (own := [("low", 7), ("high", 8)]) (g := gTup K 2 (gCons (gName 7) (gCons (gName 8) gNil))) rfl cFourTies.nd (pi_list (pv 6))
        (blkOk_by (own := [("low", 7), ("high", 8)]) (N := ["company", "lot", "first", "second", "third", "last", "rows", "low", "high"]) (sc := defScope sFourTies) (by decide +kernel))
        (fun _ _ _ _ _ => pg_tup rfl (pgs_cons (pg_name (i := 7) cFourTies.nd rfl (Or.inl rfl)) (pgs_cons (pg_name (i := 8) cFourTies.nd rfl (Or.inl rfl)) pgs_nil)))
        (fun _ _ _ _ _ => pts_nil) (fun _ _ _ _ _ => pe_c c1 hr (by rfl) (pa_cons (pv 0) (pa_cons (pv 7) (pa_cons (pv 8) pa_nil)))))))), ?_⟩
    refine ⟨_, rfl, p, _, rfl, hS, rfl, _, _, rfl, _, _, rfl, _, _, rfl, _, _, rfl, rfl, ?_⟩
    refine ⟨_, rfl, _, rfl, (by show 2 ≤ sizeLine; decide), fun T1 n1 => ⟨_, rfl, _, rfl, (by show 2 ≤ sizeLine; decide), fun T2 n2 => ⟨_, rfl, _, rfl, (by show 2 ≤ sizeLine; decide), fun T3 n3 =>
      ⟨_, rfl, _, rfl, (by show 2 ≤ sizeLine; decide), fun T4 n4 => ⟨_, rfl, _, rfl, (by show 2 ≤ sizeLine; decide), fun T5 n5 => ⟨_, rfl, _, rfl, (by show 2 ≤ sizeLine; decide), fun T6 n6 => ⟨(by show 6 ≤ sizeLine; decide), fun R nR => ?_⟩⟩⟩⟩⟩⟩⟩
    have o1 := (Objs.nil (upd H T1 (cpO (q.1, q.2.1)))).push (t := T1) (o := cpO (q.1, q.2.1)) upd_same
    have o2 := (o1.same (same_up (o := cpO (q.1, q.2.2.1)) n2)).push (t := T2) (o := cpO (q.1, q.2.2.1)) upd_same
    have o3 := (o2.same (same_up (o := cpO (q.1, q.2.2.2)) n3)).push (t := T3) (o := cpO (q.1, q.2.2.2)) upd_same
    have o4 := (o3.same (same_up (o := cpO (q.2.1, q.2.2.1)) n4)).push (t := T4) (o := cpO (q.2.1, q.2.2.1)) upd_same
    have o5 := (o4.same (same_up (o := cpO (q.2.1, q.2.2.2)) n5)).push (t := T5) (o := cpO (q.2.1, q.2.2.2)) upd_same
    have o6 := (o5.same (same_up (o := cpO (q.2.2.1, q.2.2.2)) n6)).push (t := T6) (o := cpO (q.2.2.1, q.2.2.2)) upd_same
    have oR := o6.same (same_up (o := .lst [.ref T1, .ref T2, .ref T3, .ref T4, .ref T5, .ref T6]) nR)
    have sR := same_new (same_new (same_new (same_new (same_new (same_new (same_up n1) n2) n3) n4) n5) n6) (o := .lst [.ref T1, .ref T2, .ref T3, .ref T4, .ref T5, .ref T6]) nR
    refine ⟨_, rfl, R, rfl, ⟨_, SqL.of upd_same⟩, fun D nD => lc_list (K := K) (a := R) (xs := [.ref T1, .ref T2, .ref T3, .ref T4, .ref T5, .ref T6])
      (fun t H' => Same _ H' ∧ H' D = some (.lst ((((sixP q).take t).map fun p => tieC c p.1 p.2).map V.int))) ⟨same_up nD, upd_same⟩ (fun t H' _ h => h.1.seq (SqL.of upd_same)) ?_ ?_⟩
    · rintro t x H1 hx ⟨sm, hd⟩
      have hx2 : (([T1, T2, T3, T4, T5, T6] : List Addr).map V.ref)[t]? = some x := hx
      obtain ⟨t', ht', rfl⟩ := at_ref hx2
      have hl : t < (sixP q).length := (List.getElem?_eq_some_iff.mp ht').1
      have eu : (sixP q)[t]? = some (sixP q)[t] := List.getElem?_eq_getElem hl
      generalize hu : (sixP q)[t] = u at eu
      have hm : u.1 < u.2 ∧ u.2 < c.length := by
        have hm := List.mem_of_getElem? eu
        unfold sixP at hm
        simp only [List.mem_cons, List.not_mem_nil, or_false] at hm
        rcases hm with rfl | rfl | rfl | rfl | rfl | rfl <;> exact ⟨by omega, by omega⟩
      have ho : H1 t' = some (cpO u) := sm _ _ (oR.2 t t' (cpO u) ht' (by
        show ((sixP q).map cpO)[t]? = _
        rw [List.getElem?_map, eu]
        rfl))
      refine ⟨t', _, rfl, SqT.of ho, rfl, _, _, rfl, _, _, rfl, rfl, rfl, ?_⟩
      refine ⟨_, rfl, _, rfl, _, rfl, a, c, u.1, u.2, rfl, (hC.same sR).same sm, tr, by omega, by omega, by omega, _, hd, ?_, same_in sm nD, ?_⟩
      · rw [List.length_map, List.length_map, List.length_take]
        exact small1000 (Nat.le_trans (Nat.min_le_right _ _) (by show 6 ≤ 1000; decide))
      · rw [upd_same, List.take_add_one, eu, List.map_append, List.map_append]
        rfl
    · rintro H1 ⟨sm, hd⟩
      refine k H1 D (sR.trans sm) (sR.free nD) ?_
      exact hd
theorem okFirm (T : Txt K mg) : Cl P w K mg base 1 "is_firm" (spFirm K) := by
  refine T.dIsFirm.cl cIsFirm (fun vs H Q E h => ?_) (fun f cdv A outer s H vs Q E hr h => ?_)
  · obtain ⟨p, l, rfl, _⟩ := h
    rfl
  · obtain ⟨p, l, rfl, hS, hl, k⟩ := h
    refine ⟨_, pss_cons (ps_set (i := 1) cIsFirm.nd rfl (.inl rfl) (pe_lst (pa_cons (pe_tup (pa_cons pe_int (pa_cons pe_int (pa_cons pe_int (pa_cons pe_int pa_nil))))) (pa_cons (pe_tup (pa_cons pe_int (pa_cons pe_int (pa_cons pe_int (pa_cons pe_int pa_nil)))))
        (pa_cons (pe_tup (pa_cons pe_int (pa_cons pe_int (pa_cons pe_int (pa_cons pe_int pa_nil))))) (pa_cons (pe_tup (pa_cons pe_int (pa_cons pe_int (pa_cons pe_int (pa_cons pe_int pa_nil)))))
        (pa_cons (pe_tup (pa_cons pe_int (pa_cons pe_int (pa_cons pe_int (pa_cons pe_int pa_nil))))) (pa_cons (pe_tup (pa_cons pe_int (pa_cons pe_int (pa_cons pe_int (pa_cons pe_int pa_nil))))) pa_nil))))))))
      (pss_one (ps_ret (pe_cmpR (op_eqD hr.units) (pe_lc (own := [("low", 2), ("high", 3), ("one", 4), ("two", 5)]) (g := gTup K 4 (gCons (gName 2) (gCons (gName 3) (gCons (gName 4) (gCons (gName 5) gNil)))))
        (tt := tAnd (tTest (tOp rEq (tOp (rIxL K) (tVar 0) (tVar 2)) (tOp (rIxL K) (tVar 0) (tVar 3)))) (tTest (tOp rEq (tOp (rIxL K) (tVar 0) (tVar 4)) (tOp (rIxL K) (tVar 0) (tVar 5))))) rfl cIsFirm.nd (pi_list (pv 1))
        (blkOk_by (own := [("low", 2), ("high", 3), ("one", 4), ("two", 5)]) (N := ["ties", "pairs", "low", "high", "one", "two"]) (sc := defScope sIsFirm) (by decide +kernel))
        (fun _ _ _ _ _ => pg_tup rfl (pgs_cons (pg_name (i := 2) cIsFirm.nd rfl (Or.inl rfl)) (pgs_cons (pg_name (i := 3) cIsFirm.nd rfl (Or.inl rfl)) (pgs_cons (pg_name (i := 4) cIsFirm.nd rfl (Or.inl rfl)) (pgs_cons (pg_name (i := 5) cIsFirm.nd rfl (Or.inl rfl)) pgs_nil)))))
        (fun _ _ _ _ _ => pts_one (PW.pt (pw_and (pt_cmpR op_eq (pe_ix ix_list (pv 0) (pv 2) (fun _ _ => rfl)) (pe_ix ix_list (pv 0) (pv 3) (fun _ _ => rfl)) (nomark _))
          (pw_and1 (pt_cmpR op_eq (pe_ix ix_list (pv 0) (pv 4) (fun _ _ => rfl)) (pe_ix ix_list (pv 0) (pv 5) (fun _ _ => rfl)) (nomark _))))))
        (fun _ _ _ _ _ => pe_int)) (pe_lst pa_nil) (nomark _)))), ?_⟩
    refine ⟨(by show 4 ≤ sizeLine; decide), fun T1 n1 => ⟨(by show 4 ≤ sizeLine; decide), fun T2 n2 => ⟨(by show 4 ≤ sizeLine; decide), fun T3 n3 => ⟨(by show 4 ≤ sizeLine; decide), fun T4 n4 => ⟨(by show 4 ≤ sizeLine; decide), fun T5 n5 => ⟨(by show 4 ≤ sizeLine; decide), fun T6 n6 =>
      ⟨(by show 6 ≤ sizeLine; decide), fun R nR => ?_⟩⟩⟩⟩⟩⟩⟩
    have o1 := (Objs.nil (upd H T1 (fqO (1, 3, 2, 4)))).push (t := T1) (o := fqO (1, 3, 2, 4)) upd_same
    have o2 := (o1.same (same_up (o := fqO (0, 3, 2, 5)) n2)).push (t := T2) (o := fqO (0, 3, 2, 5)) upd_same
    have o3 := (o2.same (same_up (o := fqO (0, 4, 1, 5)) n3)).push (t := T3) (o := fqO (0, 4, 1, 5)) upd_same
    have o4 := (o3.same (same_up (o := fqO (0, 1, 4, 5)) n4)).push (t := T4) (o := fqO (0, 1, 4, 5)) upd_same
    have o5 := (o4.same (same_up (o := fqO (0, 2, 3, 5)) n5)).push (t := T5) (o := fqO (0, 2, 3, 5)) upd_same
    have o6 := (o5.same (same_up (o := fqO (1, 2, 3, 4)) n6)).push (t := T6) (o := fqO (1, 2, 3, 4)) upd_same
    have oR := o6.same (same_up (o := .lst [.ref T1, .ref T2, .ref T3, .ref T4, .ref T5, .ref T6]) nR)
    have sR := same_new (same_new (same_new (same_new (same_new (same_new (same_up (o := fqO (1, 3, 2, 4)) n1) (o := fqO (0, 3, 2, 5)) n2) (o := fqO (0, 4, 1, 5)) n3) (o := fqO (0, 1, 4, 5)) n4) (o := fqO (0, 2, 3, 5)) n5) (o := fqO (1, 2, 3, 4)) n6) (o := .lst [.ref T1, .ref T2, .ref T3, .ref T4, .ref T5, .ref T6]) nR
    refine ⟨_, rfl, R, rfl, ⟨_, SqL.of upd_same⟩, fun D nD => lc_list (K := K) (a := R) (xs := [.ref T1, .ref T2, .ref T3, .ref T4, .ref T5, .ref T6])
      (fun t H' => Same _ H' ∧ H' D = some (.lst ((((firmAt.take t).filter (firmP l)).map fun _ => (1 : Int)).map V.int))) ⟨same_up nD, upd_same⟩ (fun t H' _ h => h.1.seq (SqL.of upd_same)) ?_ ?_⟩
    · rintro t x H1 hx ⟨sm, hd⟩
      have hx2 : (([T1, T2, T3, T4, T5, T6] : List Addr).map V.ref)[t]? = some x := hx
      obtain ⟨t', ht', rfl⟩ := at_ref hx2
      have hl6 : t < firmAt.length := (List.getElem?_eq_some_iff.mp ht').1
      have eu : firmAt[t]? = some firmAt[t] := List.getElem?_eq_getElem hl6
      generalize hu : firmAt[t] = u at eu
      obtain ⟨u1, u2, u3, u4⟩ := firm_small u (List.mem_of_getElem? eu)
      have ho : H1 t' = some (fqO u) := sm _ _ (oR.2 t t' (fqO u) ht' (by
        show (firmAt.map fqO)[t]? = _
        rw [List.getElem?_map, eu]
        rfl))
      have hS1 : SqL K H1 p (l.map V.int) := (sR.trans sm).seq hS
      have six : firmAt.length = 6 := rfl
      refine ⟨t', _, rfl, SqT.of ho, rfl, _, _, rfl, _, _, rfl, _, _, rfl, _, _, rfl, rfl, rfl, ?_⟩
      refine ⟨_, rfl, _, rfl, p, _, _, _, rfl, rfl, hS1, atI_nat (six_at hl u1), _, rfl, _, rfl, p, _, _, _, rfl, rfl, hS1, atI_nat (six_at hl u2), rfl, _, rfl, ?_⟩
      rw [eq_bit]
      have no : firmP l u = false → Same _ H1 ∧ H1 D = some (.lst ((((firmAt.take (t + 1)).filter (firmP l)).map fun _ => (1 : Int)).map V.int)) := fun e => by
        refine ⟨sm, ?_⟩
        rw [take_filter _ _ _ _ eu, e, if_neg Bool.false_ne_true, List.append_nil]
        exact hd
      refine ite2 (fun h1 => ?_) (fun h1 => ?_)
      · refine ⟨_, rfl, _, rfl, p, _, _, _, rfl, rfl, hS1, atI_nat (six_at hl u3), _, rfl, _, rfl, p, _, _, _, rfl, rfl, hS1, atI_nat (six_at hl u4), rfl, _, rfl, ?_⟩
        rw [eq_bit]
        refine ite2 (fun h2 => ?_) (fun h2 => ?_)
        · refine ⟨_, hd, ?_, same_in sm nD, ?_⟩
          · rw [List.length_map, List.length_map]
            have z := List.length_filter_le (firmP l) (firmAt.take t)
            rw [List.length_take] at z
            exact small1000 (by omega)
          · rw [upd_same, take_filter _ _ _ _ eu, if_pos (show firmP l u = true by unfold firmP; rw [h1, h2]; rfl), List.map_append, List.map_append]
            rfl
        · exact no (by unfold firmP; rw [Bool.not_eq_true] at h2; rw [h2, Bool.and_false])
      · exact no (by unfold firmP; rw [Bool.not_eq_true] at h1; rw [h1, Bool.false_and])
    · rintro H1 ⟨sm, hd⟩
      refine eq_nil (m := 1) (ds := (((firmAt.filter (firmP l)).map fun _ => (1 : Int))).map PyData.int) (.lst (SqL.of hd) (dp_ints _)) (Lay.ints 0 _) fun H3 s3 => ?_
      have e : ((((firmAt.filter (firmP l)).map fun _ => (1 : Int))).map PyData.int).isEmpty = firmB l := by
        unfold firmB
        rw [List.isEmpty_map, List.isEmpty_map]
      rw [e]
      exact k H3 ((sR.trans sm).trans s3)
end
end Tw
set_option Elab.async false
set_option linter.all false
set_option maxRecDepth 100000
set_option maxHeartbeats 4000000
/-! the words and firm fours of a company; two companies with the same -/
namespace Tw
open PySem PySem.Spec PyProof.Rows L2 TwG
theorem sqT_same {K : PySem.W.Frag} {H H' : Hp} {a : Addr} {xs : List V} (s : Same H H') (h : SqT K H a xs) : SqT K H' a xs := by
  rcases h with (h | ⟨o, h⟩) | h
  · exact .inl (.inl (s _ _ h))
  · exact .inl (.inr ⟨o, s _ _ h⟩)
  · exact .inr h
/-! ### lists of data -/
def hide (D : Addr) (H : Hp) : Hp := fun b => if b = D then none else H b
theorem hide_ne {D b : Addr} {H : Hp} (n : b ≠ D) : hide D H b = H b := if_neg n
theorem hide_same (D : Addr) (H : Hp) : Same (hide D H) H := fun b o e => by
  by_cases h : b = D
  · have z : hide D H b = none := if_pos h
    rw [z] at e
    cases e
  · rw [hide_ne h] at e
    exact e
theorem same_hide {D : Addr} {H0 H : Hp} (s : Same H0 H) (n : H0 D = none) : Same H0 (hide D H) := fun b o e => by
  rw [hide_ne (ne_of_none e n)]
  exact s b o e
theorem hide_mono {D : Addr} {H H' : Hp} (s : Same H H') : Same (hide D H) (hide D H') := fun b o e => by
  by_cases h : b = D
  · have z : hide D H b = none := if_pos h
    rw [z] at e
    cases e
  · rw [hide_ne h] at e ⊢
    exact s b o e
theorem hide_upd (D : Addr) (H : Hp) (o : HO) : hide D (upd H D o) = hide D H := by
  funext b
  by_cases h : b = D
  · rw [show hide D (upd H D o) b = none from if_pos h, show hide D H b = none from if_pos h]
  · rw [hide_ne h, hide_ne h, upd_ne h]
theorem dpa_len {K : PySem.W.Frag} {H : Hp} : ∀ {vs : List V} {ds : List PyData}, DpAll K H vs ds → vs.length = ds.length
  | _, _, .nil => rfl
  | _, _, .cons _ h => by rw [List.length_cons, List.length_cons, dpa_len h]
theorem dpa_push {K : PySem.W.Frag} {H : Hp} {v : V} {d : PyData} (e : Dp K H v d) : ∀ {vs : List V} {ds : List PyData}, DpAll K H vs ds → DpAll K H (vs ++ [v]) (ds ++ [d])
  | _, _, .nil => .cons e .nil
  | _, _, .cons a h => .cons a (dpa_push e h)
theorem dpa_at {K : PySem.W.Frag} {H : Hp} : ∀ {vs : List V} {ds : List PyData} (i : Nat) (v : V), DpAll K H vs ds → vs[i]? = some v → ∃ d, ds[i]? = some d ∧ Dp K H v d
  | _, _, i, v, .nil, e => by simp at e
  | _, _, 0, v, .cons a h, e => by
    cases e
    exact ⟨_, rfl, a⟩
  | _, _, i + 1, v, .cons a h, e => dpa_at i v h (by simpa using e)
/-- a list at p of data that do not lean on p -/
def LD (K : PySem.W.Frag) (H : Hp) (p : Addr) (ds : List PyData) : Prop := ∃ vs, H p = some (.lst vs) ∧ DpAll K (hide p H) vs ds
theorem LD.nil (K : PySem.W.Frag) (H : Hp) (p : Addr) : LD K (upd H p (.lst [])) p [] := ⟨[], upd_same, .nil⟩
theorem LD.same {K : PySem.W.Frag} {H H' : Hp} {p : Addr} {ds : List PyData} (s : Same H H') (h : LD K H p ds) : LD K H' p ds := by
  obtain ⟨vs, a, b⟩ := h
  exact ⟨vs, s _ _ a, dpa_same (hide_mono s) _ _ b⟩
theorem LD.push {K : PySem.W.Frag} {H : Hp} {p : Addr} {ds : List PyData} {v : V} {d : PyData} (h : LD K H p ds) (e : Dp K (hide p H) v d) :
    ∃ acc, H p = some (.lst acc) ∧ acc.length = ds.length ∧ LD K (upd H p (.lst (acc ++ [v]))) p (ds ++ [d]) := by
  obtain ⟨vs, a, b⟩ := h
  refine ⟨vs, a, dpa_len b, vs ++ [v], upd_same, ?_⟩
  rw [hide_upd]
  exact dpa_push e b
theorem LD.dp {K : PySem.W.Frag} {H : Hp} {p : Addr} {ds : List PyData} (h : LD K H p ds) : Dp K H (.ref p) (.list ds) := by
  obtain ⟨vs, a, b⟩ := h
  exact .lst (SqL.of a) (dpa_same (hide_same p H) _ _ b)
theorem dpa_ints {K : PySem.W.Frag} {H : Hp} : ∀ {vs : List V} {l : List Int}, DpAll K H vs (l.map PyData.int) → vs = l.map V.int
  | _, [], .nil => rfl
  | _, x :: l, .cons a h => by
    cases a
    rw [dpa_ints h]
    rfl
theorem dp_ints_of {K : PySem.W.Frag} {H : Hp} {v : V} {l : List Int} (h : Dp K H v (intsD l)) : ∃ p, v = .ref p ∧ SqL K H p (l.map V.int) := by
  unfold intsD at h
  cases h with
  | lst h1 h2 =>
    rw [dpa_ints h2] at h1
    exact ⟨_, rfl, h1⟩
/-! ### what is compared -/
def tupD (l : List Int) : PyData := .tuple (l.map PyData.int)
def wordsD (c : Co) (n : Nat) : PyData := .list ((threes n).map fun t => tupD (wordC c t))
def itemD (c : Co) (q : Qd) : PyData := .tuple [intsD (foI q), intsD (sixC c q)]
def firmC (c : Co) (q : Qd) : Bool := firmB (sixC c q)
def firmD (c : Co) (n : Nat) : PyData := .list (((fours n).filter (firmC c)).map (itemD c))
def sameB (c d : Co) : Bool := PyData.eqv (wordsD c c.length) (wordsD d c.length) && PyData.eqv (firmD c c.length) (firmD d c.length)
theorem lay_words (c : Co) (n : Nat) : Lay 2 (wordsD c n) := .list fun d hd => by
  obtain ⟨t, _, rfl⟩ := List.mem_map.mp hd
  exact .tuple fun e he => by
    obtain ⟨i, _, rfl⟩ := List.mem_map.mp he
    exact .int 0 i
theorem lay_firm (c : Co) (n : Nat) : Lay 3 (firmD c n) := .list fun d hd => by
  obtain ⟨t, _, rfl⟩ := List.mem_map.mp hd
  refine .tuple fun e he => ?_
  rcases List.mem_cons.mp he with rfl | he
  · exact Lay.ints 0 _
  · rw [List.mem_singleton.mp he]
    exact Lay.ints 0 _
def spWordsAmong (K : PySem.W.Frag) : Sp := fun vs H Q _ => ∃ (a p : Addr) (c : Co), vs = [.ref a, .ref p] ∧ Cm K H a c ∧ Tri c ∧ Ppl K H p c.length ∧ c.length ≤ 40 ∧
  ∀ H' r, Same H H' → Dp K H' (.ref r) (wordsD c c.length) → Q (.ref r) H'
def spFirmAmong (K : PySem.W.Frag) : Sp := fun vs H Q _ => ∃ (a p : Addr) (c : Co), vs = [.ref a, .ref p] ∧ Cm K H a c ∧ Tri c ∧ Ppl K H p c.length ∧ c.length ≤ 40 ∧
  ∀ H' r, Same H H' → Dp K H' (.ref r) (firmD c c.length) → Q (.ref r) H'
def spJoinedIn (K : PySem.W.Frag) : Sp := fun vs H Q _ => ∃ (a b p : Addr) (c d : Co), vs = [.ref a, .ref b, .ref p] ∧ Cm K H a c ∧ Tri c ∧ Cm K H b d ∧ Tri d ∧ c.length = d.length ∧ Ppl K H p c.length ∧ c.length ≤ 40 ∧
  ∀ H', Same H H' → Q (.bl (sameB c d)) H'
def spSame (K : PySem.W.Frag) : Sp := fun vs H Q _ => ∃ (k : Int) (a b : Addr) (c d : Co), vs = [.int k, .ref a, .ref b] ∧ 2 ≤ k ∧ k ≤ 9 ∧ Cm K H a c ∧ Sh k c ∧ Cm K H b d ∧ Sh k d ∧ c.length = d.length ∧
  ∀ H', Same H H' → Q (.bl (sameB c d)) H'
section
variable {P : Program} {w : World} {K : PySem.W.Frag} {mg : Str → Option Value} {base : Heap}
theorem okWordsAmong (T : Txt K mg) : Cl P w K mg base 3 "words_among" (spWordsAmong K) := by
  have c1 : Cl P w K mg base 1 "threes_of" (spThrees K) := okThrees T
  have c2 : Cl P w K mg base 2 "word_at" (spWord K) := okWord T
  refine T.dWordsAmong.cl cWordsAmong (fun vs H Q E h => ?_) (fun f cdv A outer s H vs Q E hr h => ?_)
  · obtain ⟨a, p, c, rfl, _⟩ := h
    rfl
  · obtain ⟨a, p, c, rfl, hC, tr, hS, hn, k⟩ := h
    refine ⟨_, pss_one (ps_ret (pe_lc (own := [("first", 2), ("second", 3), ("third", 4)]) (g := gTup K 3 (gCons (gName 2) (gCons (gName 3) (gCons (gName 4) gNil)))) rfl cWordsAmong.nd (pi_list (pe_c c1 hr (by rfl) (pa_cons (pv 1) pa_nil)))
        (blkOk_by (own := [("first", 2), ("second", 3), ("third", 4)]) (N := ["company", "people", "first", "second", "third"]) (sc := defScope sWordsAmong) (by decide +kernel))
        (fun _ _ _ _ _ => pg_tup rfl (pgs_cons (pg_name (i := 2) cWordsAmong.nd rfl (Or.inl rfl)) (pgs_cons (pg_name (i := 3) cWordsAmong.nd rfl (Or.inl rfl)) (pgs_cons (pg_name (i := 4) cWordsAmong.nd rfl (Or.inl rfl)) pgs_nil))))
        (fun _ _ _ _ _ => pts_nil) (fun _ _ _ _ _ => pe_c c2 hr (by rfl) (pa_cons (pv 0) (pa_cons (pv 2) (pa_cons (pv 3) (pa_cons (pv 4) pa_nil))))))), ?_⟩
    refine ⟨_, rfl, p, c.length, rfl, hS, hn, fun H2 r s2 nr lo => ?_⟩
    obtain ⟨ts, hts, _, hob⟩ := id lo
    have tl : (ts.map V.ref).length = (threes c.length).length := by rw [List.length_map, hob.1, List.length_map]
    have z1 := threesTo_len c.length c.length
    have z3 : c.length * (c.length * c.length) ≤ 40 * (40 * 40) := Nat.mul_le_mul hn (Nat.mul_le_mul hn hn)
    refine ⟨r, rfl, ⟨_, SqL.of hts⟩, fun D nD => lc_list (K := K) (a := r) (xs := ts.map V.ref) (fun t H' => Same H2 H' ∧ LD K H' D (((threes c.length).take t).map fun t => tupD (wordC c t)))
      ⟨same_up nD, LD.nil K H2 D⟩ (fun t H' _ h => h.1.seq (SqL.of hts)) ?_ ?_⟩
    · rintro t x H3 hx ⟨s3, ld⟩
      obtain ⟨t', o, rfl, ho, hto⟩ := (lo.same s3).turn (s3 _ _ hts) hx
      rw [List.getElem?_map] at ho
      cases eu : (threes c.length)[t]? with
      | none =>
        rw [eu] at ho
        cases ho
      | some u =>
        rw [eu] at ho
        obtain rfl : trO u = o := Option.some.inj ho
        obtain ⟨m1, m2, m3⟩ := threes_mem (List.mem_of_getElem? eu)
        have s4 : Same H H3 := s2.trans s3
        refine ⟨t', _, rfl, SqT.of hto, rfl, _, _, rfl, _, _, rfl, _, _, rfl, rfl, rfl, ?_⟩
        refine ⟨_, rfl, _, rfl, _, rfl, _, rfl, a, c, u, rfl, hC.same s4, tr, m1, m2, m3, fun H4 T2 s5 nT hT => ?_⟩
        have neT : T2 ≠ D := fun e => by
          obtain ⟨vs, e1, _⟩ := ld
          rw [e, e1] at nT
          cases nT
        have dp : Dp K (hide D H4) (.ref T2) (tupD (wordC c u)) := .tup (SqT.of ((hide_ne neT).trans hT)) (dp_ints _)
        obtain ⟨acc, a1, a2, a3⟩ := (ld.same s5).push dp
        refine ⟨acc, a1, ?_, same_in (s3.trans s5) nD, ?_⟩
        · rw [a2, List.length_map, List.length_take, sizeLine_eq]
          show min t (threesTo c.length c.length).length < _
          omega
        · rw [List.take_add_one, eu, List.map_append]
          exact a3
    · rintro H3 ⟨s3, ld⟩
      rw [tl, List.take_length] at ld
      exact k H3 D (s2.trans s3) ld.dp
theorem okFirmAmong (T : Txt K mg) : Cl P w K mg base 3 "firm_among" (spFirmAmong K) := by
  have c1 : Cl P w K mg base 2 "fours_of" (spFours K) := okFours T
  have c2 : Cl P w K mg base 2 "four_ties" (spSix K) := okSix T
  have c3 : Cl P w K mg base 1 "is_firm" (spFirm K) := okFirm T
  refine T.dFirmAmong.cl cFirmAmong (fun vs H Q E h => ?_) (fun f cdv A outer s H vs Q E hr h => ?_)
  · obtain ⟨a, p, c, rfl, _⟩ := h
    rfl
  · obtain ⟨a, p, c, rfl, hC, tr, hS, hn, k⟩ := h
    refine ⟨_, pss_cons (ps_setLc (i := 2) (own := [("lot", 3)]) (g := gName 3) rfl cFirmAmong.nd rfl rfl (sw_true rfl rfl rfl (by decide +kernel)) (pi_list (pe_c c1 hr (by rfl) (pa_cons (pv 1) pa_nil)))
        (blkOk_by (own := [("lot", 3)]) (N := ["company", "people", "found", "lot", "item"]) (sc := defScope sFirmAmong) (by decide +kernel)) (fun _ _ _ _ _ => pg_name (i := 3) cFirmAmong.nd rfl (Or.inl rfl))
        (fun _ _ _ _ _ => pts_nil) (fun _ _ _ _ _ => pe_tup (pa_cons (pv 3) (pa_cons (pe_c c2 hr (by rfl) (pa_cons (pv 0) (pa_cons (pv 3) pa_nil))) pa_nil))))
      (pss_one (ps_ret (pe_lc (own := [("item", 4)]) (g := gName 4) (tt := tB (tCall (spFirm K) [] E0 (tCons (tOp (rIxT K) (tVar 4) (tC (.int 1))) tNil))) rfl cFirmAmong.nd (pi_list (pv 2))
        (blkOk_by (own := [("item", 4)]) (N := ["company", "people", "found", "lot", "item"]) (sc := defScope sFirmAmong) (by decide +kernel)) (fun _ _ _ _ _ => pg_name (i := 4) cFirmAmong.nd rfl (Or.inl rfl))
        (fun _ _ _ _ _ => pts_one (pt_val (pe_c c3 hr (by rfl) (pa_cons (pe_ix ix_tup (pv 4) pe_int (fun _ _ => rfl)) pa_nil)))) (fun _ _ _ _ _ => pv 4)))), ?_⟩
    refine ⟨_, rfl, p, c.length, rfl, hS, hn, fun H2 r s2 nr lo => ?_⟩
    obtain ⟨ts, hts, _, hob⟩ := id lo
    have tl : (ts.map V.ref).length = (fours c.length).length := by rw [List.length_map, hob.1, List.length_map]
    have big := fours_len hn
    refine ⟨r, rfl, ⟨_, SqL.of hts⟩, fun D nD => lc_list (K := K) (a := r) (xs := ts.map V.ref) (fun t H' => Same H2 H' ∧ LD K H' D (((fours c.length).take t).map (itemD c)))
      ⟨same_up nD, LD.nil K H2 D⟩ (fun t H' _ h => h.1.seq (SqL.of hts)) ?_ ?_⟩
    · rintro t x H3 hx ⟨s3, ld⟩
      obtain ⟨t', o, rfl, ho, hto⟩ := (lo.same s3).turn (s3 _ _ hts) hx
      have hto2 : H2 t' = some o := by
        obtain ⟨t2, o2, e1, e2, e3⟩ := lo.turn hts hx
        cases e1
        rw [e2] at ho
        cases ho
        exact e3
      rw [List.getElem?_map] at ho
      cases eu : (fours c.length)[t]? with
      | none =>
        rw [eu] at ho
        cases ho
      | some u =>
        rw [eu] at ho
        obtain rfl : foO u = o := Option.some.inj ho
        obtain ⟨m1, m2, m3, m4⟩ := fours_mem (List.mem_of_getElem? eu)
        have s4 : Same H H3 := s2.trans s3
        refine ⟨rfl, _, rfl, _, rfl, _, rfl, a, t', c, u, rfl, hC.same s4, tr, SqL.of hto, m1, m2, m3, m4, fun H4 R s5 nR hR => ⟨(by show 2 ≤ sizeLine; decide), fun T2 nT => ?_⟩⟩
        have s6 : Same H3 (upd H4 T2 (.tup [.ref t', .ref R])) := same_new s5 nT
        obtain ⟨vs, e1, _⟩ := id ld
        have neR : R ≠ D := fun e => by
          rw [e, e1] at nR
          cases nR
        have neT : T2 ≠ D := fun e => by
          rw [e, s5 _ _ e1] at nT
          cases nT
        have neRT : R ≠ T2 := ne_of_none hR nT
        have d1 : SqL K (hide D (upd H4 T2 (.tup [.ref t', .ref R]))) t' ((foI u).map V.int) := (same_hide (s3.trans s6) nD).seq (SqL.of hto2)
        have d2 : SqL K (hide D (upd H4 T2 (.tup [.ref t', .ref R]))) R ((sixC c u).map V.int) := SqL.of (by rw [hide_ne neR, upd_ne neRT]; exact hR)
        have dp : Dp K (hide D (upd H4 T2 (.tup [.ref t', .ref R]))) (.ref T2) (itemD c u) := .tup (SqT.of ((hide_ne neT).trans upd_same)) (.cons (dp_row d1) (.cons (dp_row d2) .nil))
        obtain ⟨acc, a1, a2, a3⟩ := (ld.same s6).push dp
        refine ⟨acc, a1, ?_, same_in (s3.trans s6) nD, ?_⟩
        · rw [a2, List.length_map, List.length_take, sizeLine_eq]
          omega
        · rw [List.take_add_one, eu, List.map_append]
          exact a3
    · rintro H3 ⟨s3, ld⟩
      rw [tl, List.take_length] at ld
      obtain ⟨vs, e1, e2⟩ := id ld
      have e3 := dpa_same (hide_same D H3) _ _ e2
      have vl : vs.length = (fours c.length).length := by rw [dpa_len e2, List.length_map]
      refine ⟨_, rfl, D, rfl, ⟨_, SqL.of e1⟩, fun D2 nD2 => lc_list (K := K) (a := D) (xs := vs) (fun t H' => Same H3 H' ∧ LD K H' D2 ((((fours c.length).take t).filter (firmC c)).map (itemD c)))
        ⟨same_up nD2, LD.nil K H3 D2⟩ (fun t H' _ h => h.1.seq (SqL.of e1)) ?_ ?_⟩
      · rintro t x H4 hx ⟨s4, ld2⟩
        obtain ⟨d, hd, dp⟩ := dpa_at t x e3 hx
        rw [List.getElem?_map] at hd
        cases eu : (fours c.length)[t]? with
        | none =>
          rw [eu] at hd
          cases hd
        | some u =>
          rw [eu] at hd
          obtain rfl : itemD c u = d := Option.some.inj hd
          have dp0 := dp
          unfold itemD at dp
          cases dp with
          | tup h1 h2 =>
            cases h2 with
            | cons h3 h4 =>
              cases h4 with
              | cons h5 h6 =>
                cases h6
                obtain ⟨R, rfl, hR⟩ := dp_ints_of h5
                have h1' := sqT_same s4 h1
                refine ⟨rfl, _, rfl, _, _, 1, _, rfl, rfl, h1', rfl, R, _, rfl, s4.seq hR, rfl, fun H5 s5 => ⟨_, rfl, ?_⟩⟩
                refine ite2 (fun h => ?_) (fun h => ?_)
                · have dp2 : Dp K (hide D2 H5) _ (itemD c u) := dp_same (same_hide (s4.trans s5) nD2) _ _ dp0
                  obtain ⟨acc, a1, a2, a3⟩ := (ld2.same s5).push dp2
                  refine ⟨_, rfl, acc, a1, ?_, same_in (s4.trans s5) nD2, ?_⟩
                  · rw [a2, List.length_map]
                    have z := List.length_filter_le (firmC c) ((fours c.length).take t)
                    rw [List.length_take] at z
                    rw [sizeLine_eq]
                    omega
                  · rw [take_filter _ _ _ _ eu, if_pos (show firmC c u = true from h), List.map_append]
                    exact a3
                · refine ⟨s4.trans s5, ?_⟩
                  rw [take_filter _ _ _ _ eu, if_neg (show ¬ firmC c u = true from h), List.append_nil]
                  exact ld2.same s5
      · rintro H4 ⟨s4, ld2⟩
        rw [vl, List.take_length] at ld2
        exact k H4 D2 ((s2.trans s3).trans s4) ld2.dp
theorem okJoinedIn (T : Txt K mg) : Cl P w K mg base 4 "joined_in" (spJoinedIn K) := by
  have c1 : Cl P w K mg base 3 "words_among" (spWordsAmong K) := okWordsAmong T
  have c2 : Cl P w K mg base 3 "firm_among" (spFirmAmong K) := okFirmAmong T
  refine T.dJoinedIn.cl cJoinedIn (fun vs H Q E h => ?_) (fun f cdv A outer s H vs Q E hr h => ?_)
  · obtain ⟨a, b, p, c, d, rfl, _⟩ := h
    rfl
  · obtain ⟨a, b, p, c, d, rfl, hC, t1, hD, t2, hl, hS, hn, k⟩ := h
    refine ⟨_, pss_cons (ps_if (pt_cmpR (op_neD hr.units) (pe_c c1 hr (by rfl) (pa_cons (pv 0) (pa_cons (pv 2) pa_nil))) (pe_c c1 hr (by rfl) (pa_cons (pv 1) (pa_cons (pv 2) pa_nil))) (nomark _)) (pss_one (ps_ret pe_bl)) pss_nil)
      (pss_one (ps_ret (pe_cmpR (op_eqD hr.units) (pe_c c2 hr (by rfl) (pa_cons (pv 0) (pa_cons (pv 2) pa_nil))) (pe_c c2 hr (by rfl) (pa_cons (pv 1) (pa_cons (pv 2) pa_nil))) (nomark _)))), ?_⟩
    refine ⟨_, rfl, _, rfl, a, p, c, rfl, hC, t1, hS, hn, fun H1 r1 s1 d1 => ?_⟩
    refine ⟨_, rfl, _, rfl, b, p, d, rfl, hD.same s1, t2, hl ▸ s1.seq hS, hl ▸ hn, fun H2 r2 s2 d2 => ?_⟩
    refine ⟨_, _, dp_same s2 _ _ d1, d2, (lay_words c _).shaped, (lay_words d _).shaped, _, rfl, ?_⟩
    have s12 := s1.trans s2
    rw [← hl]
    cases e : PyData.eqv (wordsD c c.length) (wordsD d c.length) with
    | false =>
      refine iteT (qB (k H2 s12) ?_)
      unfold sameB
      rw [e, Bool.false_and]
    | true =>
      refine iteF ?_
      refine ⟨_, rfl, _, rfl, a, p, c, rfl, hC.same s12, t1, s12.seq hS, hn, fun H3 r3 s3 d3 => ?_⟩
      refine ⟨_, rfl, _, rfl, b, p, d, rfl, hD.same (s12.trans s3), t2, hl ▸ (s12.trans s3).seq hS, hl ▸ hn, fun H4 r4 s4 d4 => ?_⟩
      refine ⟨_, _, dp_same s4 _ _ d3, d4, (lay_firm c _).shaped, (lay_firm d _).shaped, qB (k H4 ((s12.trans s3).trans s4)) ?_⟩
      unfold sameB
      rw [e, Bool.true_and, ← hl]
theorem okSame (T : Txt K mg) : Cl P w K mg base 7 "same_words" (spSame K) := by
  have c1 : Cl P w K mg base 6 "check_pair" (spCheckPair K) := okCheckPair T
  have c2 : Cl P w K mg base 4 "joined_in" (spJoinedIn K) := okJoinedIn T
  refine T.dSameWords.cl cSameWords (fun vs H Q E h => ?_) (fun f cdv A outer s H vs Q E hr h => ?_)
  · obtain ⟨k, a, b, c, d, rfl, _⟩ := h
    rfl
  · obtain ⟨k, a, b, c, d, rfl, k1, k2, hC, sh, hD, sh2, hl, q⟩ := h
    refine ⟨_, pss_cons (ps_expr (pe_c c1 hr (by rfl) (pa_cons (pv 0) (pa_cons (pv 1) (pa_cons (pv 2) pa_nil)))))
      (pss_one (ps_ret (pe_c c2 hr (by rfl) (pa_cons (pv 1) (pa_cons (pv 2) (pa_cons (pe_listRg rfl (by rfl) T.blist (prg_1 (by rfl) T.brange (pe_callB call_len_seq (by rfl) T.blen PySem.boot_len (pa_cons (pv 1) pa_nil)))) pa_nil)))))), ?_⟩
    refine ⟨_, rfl, _, rfl, _, rfl, k, a, b, c, d, rfl, k1, k2, hC, sh, hD, sh2, hl, fun H1 s1 => ?_⟩
    obtain ⟨xs, hS, hxl⟩ := len_of (hC.same s1)
    have n40 := sh.n2
    refine ⟨_, rfl, _, rfl, _, rfl, a, _, rfl, .inl hS, _, rfl, .of_le (by omega) (by omega) (by omega) (by omega), fun p np => ?_⟩
    have s2 : Same H (upd H1 p (.lst (rgV 0 ((xs.length : Nat) : Int)))) := s1.trans (same_up np)
    refine ⟨a, b, p, c, d, rfl, hC.same s2, sh.tri, hD.same s2, sh2.tri, hl, ?_, n40, fun H2 s3 => q H2 (s2.trans s3)⟩
    refine SqL.of ?_
    rw [upd_same, hxl]
    unfold rgV
    rw [show ((c.length : Int) - 0).toNat = c.length by omega]
    have e : (fun i : Nat => V.int (0 + (i : Int))) = cN := by
      funext i
      rw [Int.zero_add]
    rw [e]
end
end Tw
set_option Elab.async false
set_option linter.all false
set_option maxRecDepth 100000
set_option maxHeartbeats 4000000
/-! the law's generator of numbers; companies that may be changed -/
namespace Tw
open PySem PySem.Spec PyProof.Rows L2 TwG
/-! ### the generator -/
def Gen (H : Hp) (g : Addr) (m : Int) : Prop := ∃ x y z : Int, H g = some (.lst [.int x, .int y, .int z]) ∧ 0 ≤ x ∧ 0 ≤ y ∧ y < 2147483647 ∧ 0 ≤ z ∧ z ≤ m
theorem Gen.more {H : Hp} {g : Addr} {m n : Int} (h : Gen H g m) (l : m ≤ n) : Gen H g n := by
  obtain ⟨x, y, z, a, b, c, d, e, f⟩ := h
  exact ⟨x, y, z, a, b, c, d, e, Int.le_trans f l⟩
theorem Gen.ne {H : Hp} {g p : Addr} {m : Int} (h : Gen H g m) (n : H p = none) : g ≠ p := by
  obtain ⟨x, y, z, a, _⟩ := h
  exact ne_of_none a n
theorem Gen.put {H : Hp} {g p : Addr} {m : Int} {o : HO} (h : Gen H g m) (n : g ≠ p) : Gen (upd H p o) g m := by
  obtain ⟨x, y, z, a, b⟩ := h
  exact ⟨x, y, z, by rw [upd_ne n]; exact a, b⟩
theorem Gen.new {H : Hp} {g p : Addr} {m : Int} {o : HO} (h : Gen H g m) (n : H p = none) : Gen (upd H p o) g m := h.put (h.ne n)
theorem Gen.same {H H' : Hp} {g : Addr} {m : Int} (s : Same H H') (h : Gen H g m) : Gen H' g m := by
  obtain ⟨x, y, z, a, b⟩ := h
  exact ⟨x, y, z, s _ _ a, b⟩
theorem Gen.some {H : Hp} {g : Addr} {m : Int} (h : Gen H g m) : H g ≠ none := by
  obtain ⟨x, y, z, a, _⟩ := h
  rw [a]
  exact fun e => nomatch e
def spHash : Sp := fun vs H Q _ => ∃ s i : Int, vs = [.int s, .int i] ∧ 0 ≤ i ∧ i ≤ 1000000000000 ∧ ∀ r : Int, Q (.int r) H
def spRandom : Sp := fun vs H Q _ => ∃ (g : Addr) (b : Nat) (m : Int), vs = [.ref g, cN b] ∧ 1 ≤ b ∧ b ≤ 1000 ∧ Gen H g m ∧ m ≤ 1000000000 ∧ ∀ (H' : Hp) (r : Nat), SameX g H H' → Gen H' g (m + 1) → r < b → Q (cN r) H'
def spCell (K : PySem.W.Frag) : Sp := fun vs H Q _ => ∃ (a : Addr) (ns : List Int) (i : Nat), vs = [.ref a, cN i] ∧ SqL K H a (ns.map V.int) ∧ ns.length ≤ 63 ∧ ∀ (H' : Hp) (v : Int), Same H H' → Q (.int v) H'
def spGenerator (K : PySem.W.Frag) : Sp := fun vs H Q _ => ∃ (a : Addr) (ns : List Int) (i : Nat), vs = [.ref a, cN i] ∧ SqL K H a (ns.map V.int) ∧ ns.length ≤ 63 ∧ i ≤ 3 ∧ ∀ (H' : Hp) (g : Addr), Same H H' → H g = none → Gen H' g 3000 → Q (.ref g) H'
theorem cut_ints (ns : List Int) (lo hi : Option Int) : ∃ ms : List Int, cutV (ns.map V.int) lo hi = ms.map V.int := by
  unfold cutV
  rw [← List.map_drop, ← List.map_take]
  exact ⟨_, rfl⟩
section
variable {P : Program} {w : World} {K : PySem.W.Frag} {mg : Str → Option Value} {base : Heap}
theorem okHash (T : Txt K mg) : Cl P w K mg base 1 "_law_hash" spHash := by
  refine T.dLHash.cl cLHash (fun vs H Q E h => ?_) (fun f cdv A outer s H vs Q E hr h => ?_)
  · obtain ⟨a, i, rfl, _⟩ := h
    rfl
  · obtain ⟨a, i, rfl, h0, h1, q⟩ := h
    refine ⟨_, pss_cons (ps_set (i := 2) cLHash.nd rfl (.inl rfl) (pe_op op_mod (pe_callTy call_int1 (by rfl) T.bint boot_int (pa_cons (pe_op op_add (pe_op op_add (pe_op op_add (pe_op op_mul (pv 0) pe_int) (pe_op op_mul (pe_op op_mul pe_int (pv 1)) (pv 1))) (pe_op op_mul pe_int (pv 1))) pe_int) pa_nil)) pe_int))
      (pss_cons (ps_set (i := 2) cLHash.nd rfl (.inl rfl) (pe_op op_mod (pe_callTy call_int1 (by rfl) T.bint boot_int (pa_cons (pe_op op_add (pe_op op_add (pe_op op_mul (pv 2) (pv 2)) (pe_op op_mul pe_int (pv 1))) pe_int) pa_nil)) pe_int))
      (pss_one (ps_ret (pe_op op_mod (pe_callTy call_int1 (by rfl) T.bint boot_int (pa_cons (pe_op op_mul (pv 2) pe_int) pa_nil)) pe_int)))), ?_⟩
    refine ⟨_, rfl, _, _, rfl, rfl, .inr ⟨by decide, by decide⟩, _, rfl, _, _, rfl, rfl, .inl ⟨by decide, by decide⟩, _, rfl, _, _, rfl, rfl, .inr ⟨by omega, by omega⟩, _, _, rfl, rfl,
      _, rfl, _, _, rfl, rfl, .inl ⟨by decide, by decide⟩, _, _, rfl, rfl, _, _, rfl, rfl, .inl ⟨_, rfl, _, _, rfl, rfl, (by show (0 : Int) < 2147483629; decide), ?_⟩⟩
    refine ⟨_, rfl, _, rfl, _, _, rfl, rfl, .inl ⟨by omega, by omega⟩, _, rfl, _, _, rfl, rfl, .inl ⟨by decide, by decide⟩, _, _, rfl, rfl, _, _, rfl, rfl, .inl ⟨_, rfl, _, _, rfl, rfl, (by show (0 : Int) < 2147483587; decide), ?_⟩⟩
    exact ⟨_, rfl, _, _, rfl, rfl, .inr ⟨by decide, by decide⟩, .inl ⟨_, rfl, _, _, rfl, rfl, (by show (0 : Int) < 2147483647; decide), q _⟩⟩
theorem bits_small {b : Nat} (h : b ≤ 1000) : ((Builtin.Int.intBits (b : Int) : Nat) : Int) / 30 = 0 := by
  have z := PyProof.Rows.intBits_le (a := (b : Int)) (k := 10) (by
    rw [Int.natAbs_natCast]
    omega)
  omega
theorem okRandom (T : Txt K mg) : Cl P w K mg base 2 "_law_random" spRandom := by
  have c1 : Cl P w K mg base 1 "_law_hash" spHash := okHash T
  refine T.dLRandom.cl cLRandom (fun vs H Q E h => ?_) (fun f cdv A outer s H vs Q E hr h => ?_)
  · obtain ⟨g, b, m, rfl, _⟩ := h
    rfl
  · obtain ⟨g, b, m, rfl, b1, b2, ⟨x, y, z, hg, x0, y0, y1, z0, z1⟩, hm, q⟩ := h
    have b0 : (0 : Int) < (b : Int) := by omega
    have fin : ∀ (v : Int) (H' : Hp), SameX g H H' → Gen H' g (m + 1) → Q (.int (v % (b : Int))) H' := fun v H' s1 s2 => by
      have r0 := Int.emod_nonneg v (show (b : Int) ≠ 0 by omega)
      have r1 := Int.emod_lt_of_pos v b0
      obtain ⟨r, hr⟩ := Int.eq_ofNat_of_zero_le r0
      rw [hr] at r1 ⊢
      exact q H' r s1 s2 (by omega)
    refine ⟨_, pss_cons (ps_if (pt_cmpR op_gt (pe_ix ix_list (pv 0) pe_int (fun _ _ => rfl)) pe_int (nomark _))
        (pss_cons (ps_set (i := 2) cLRandom.nd rfl (.inl rfl) (pe_op op_mod (pe_callTy call_int1 (by rfl) T.bint boot_int (pa_cons (pe_ix ix_list (pv 0) pe_int (fun _ _ => rfl)) pa_nil)) (pv 1)))
        (pss_cons (ps_asg (pe_op op_fdiv (pe_ix ix_list (pv 0) pe_int (fun _ _ => rfl)) (pv 1)) (pg_sub (pv 0) pe_int set_list))
        (pss_one (ps_ret (pv 2))))) pss_nil)
      (pss_cons (ps_set (i := 2) cLRandom.nd rfl (.inl rfl) pe_int)
      (pss_cons (ps_for PassesOwn.never rfl (pi_range1 (by rfl) T.brange (pa_cons (pe_op op_add pe_int (pe_op op_fdiv (pe_bits (pv 1)) pe_int)) pa_nil)) (pg_name (i := 3) cLRandom.nd rfl (Or.inl rfl))
        (pss_cons (ps_asg (pe_op op_add (pe_ix ix_list (pv 0) pe_int (fun _ _ => rfl)) pe_int) (pg_sub (pv 0) pe_int set_list))
        (pss_one (ps_set (i := 2) cLRandom.nd rfl (.inl rfl) (pe_op op_add (pe_op op_mul (pv 2) pe_int) (pe_c c1 hr (by rfl) (pa_cons (pe_ix ix_list (pv 0) pe_int (fun _ _ => rfl)) (pa_cons (pe_ix ix_list (pv 0) pe_int (fun _ _ => rfl)) pa_nil))))))))
      (pss_one (ps_ret (pe_op op_mod (pe_callTy call_int1 (by rfl) T.bint boot_int (pa_cons (pv 2) pa_nil)) (pv 1)))))), ?_⟩
    refine ⟨_, rfl, g, _, 0, .int x, rfl, rfl, SqL.of hg, rfl, _, _, rfl, rfl, _, rfl, ite2 (fun h => ?_) (fun h => ?_)⟩
    · refine ⟨_, rfl, g, _, 0, .int x, rfl, rfl, SqL.of hg, rfl, .inl ⟨_, rfl, _, rfl, _, _, rfl, rfl, b0, ?_⟩⟩
      refine ⟨_, rfl, g, _, 0, .int x, rfl, rfl, SqL.of hg, rfl, _, rfl, _, _, rfl, rfl, ⟨b0, by omega⟩, ?_⟩
      refine ⟨_, rfl, g, _, 0, 0, rfl, rfl, hg, rfl, _, rfl, fin x _ (SameX.refl g H).at ?_⟩
      exact ⟨x / (b : Int), y, z, upd_same, Int.ediv_nonneg x0 (Int.le_of_lt b0), y0, y1, z0, by omega⟩
    · refine ⟨_, rfl, _, rfl, _, _, rfl, rfl, ⟨by decide, by decide⟩, _, _, rfl, rfl, _, rfl, ?_, ?_, ?_⟩ <;> rw [bits_small b2]
      · decide
      · decide
      · refine for_range (lo := 0) (n := 1) (fun t σ H' => ∃ (d : Int) (y3 : Option V), σ = [some (.ref g), some (cN b), some (.int d), y3] ∧ SameX g H H' ∧ H' g = some (.lst [.int x, .int y, .int (z + (t : Nat))]))
          ⟨0, none, rfl, SameX.refl g H, by rw [hg]; simp⟩ ?_ ?_
        · rintro t σ H1 ht ⟨d, y3, rfl, sx, h1⟩
          refine ⟨_, rfl, g, _, 2, _, rfl, rfl, SqL.of h1, rfl, _, _, rfl, rfl, _, rfl, g, _, 2, 2, rfl, rfl, h1, rfl, ?_⟩
          refine ⟨_, rfl, _, _, rfl, rfl, .inr ⟨by decide, by decide⟩, _, rfl, g, _, 1, _, rfl, rfl, SqL.of upd_same, rfl, _, rfl, g, _, 2, _, rfl, rfl, SqL.of upd_same, rfl, _, _, rfl, by omega, by omega, fun r => ?_⟩
          refine ⟨_, _, rfl, rfl, _, _, rfl, sx.at, ?_⟩
          rw [upd_same, show z + ((t + 1 : Nat) : Int) = z + (t : Int) + 1 by omega]
          rfl
        · rintro σ H1 ⟨d, y3, rfl, sx, h1⟩
          refine ⟨_, rfl, .inl ⟨_, rfl, _, rfl, _, _, rfl, rfl, b0, fin d H1 sx ⟨x, y, _, h1, x0, y0, y1, by omega, by omega⟩⟩⟩
theorem okCell (T : Txt K mg) : Cl P w K mg base 1 "_law_cell" (spCell K) := by
  refine T.dLCell.cl cLCell (fun vs H Q E h => ?_) (fun f cdv A outer s H vs Q E hr h => ?_)
  · obtain ⟨a, ns, i, rfl, _⟩ := h
    rfl
  · obtain ⟨a, ns, i, rfl, hS, hn, q⟩ := h
    refine ⟨_, pss_cons (ps_if (pt_cmpR op_lt (pv 1) (pe_callB call_len_seq (by rfl) T.blen PySem.boot_len (pa_cons (pv 0) pa_nil)) (nomark _)) (pss_one (ps_ret (pe_ix ix_list (pv 0) (pv 1) (fun _ _ => rfl)))) pss_nil)
      (pss_one (ps_ret (pe_op op_mod (pe_callB (cr_sum rfl) (by rfl) T.bsum boot_sum (pa_cons (pe_slice sl_list (pv 0) po_none (po_some pe_int)) pa_nil)) pe_int))), ?_⟩
    refine ⟨_, rfl, _, rfl, a, _, rfl, .inl hS, _, _, rfl, rfl, _, rfl, ite2 (fun h => ?_) (fun h => ?_)⟩
    · have hi : i < ns.length := by
        have z := of_decide_eq_true h
        rw [List.length_map] at z
        omega
      refine ⟨_, rfl, _, rfl, a, _, _, .int ns[i], rfl, rfl, hS, atI_nat ?_, q H _ (Same.refl H)⟩
      rw [List.getElem?_map, List.getElem?_eq_getElem hi]
      rfl
    · obtain ⟨ms, e⟩ := cut_ints ns none (some 1)
      refine ⟨_, rfl, _, rfl, a, _, rfl, hS, fun p np => ⟨p, ms, rfl, SqL.of (by rw [upd_same, e]), _, _, rfl, rfl, (by show (0 : Int) < 1000003; decide), q _ _ (same_up np)⟩⟩
theorem okGenerator (T : Txt K mg) : Cl P w K mg base 2 "_law_generator" (spGenerator K) := by
  have c1 : Cl P w K mg base 1 "_law_cell" (spCell K) := okCell T
  refine T.dLGenerator.cl cLGenerator (fun vs H Q E h => ?_) (fun f cdv A outer s H vs Q E hr h => ?_)
  · obtain ⟨a, ns, i, rfl, _⟩ := h
    rfl
  · obtain ⟨a, ns, i, rfl, hS, hn, hi, q⟩ := h
    refine ⟨_, pss_cons (ps_set (i := 2) cLGenerator.nd rfl (.inl rfl) (pe_c c1 hr (by rfl) (pa_cons (pv 0) (pa_cons (pv 1) pa_nil))))
      (pss_one (ps_ret (pe_lst (pa_cons (pe_op op_mod (pe_callTy call_int1 (by rfl) T.bint boot_int (pa_cons (pe_callB (call_max2 rfl) (by rfl) T.bmax boot_max (pa_cons (pe_op op_sub (pv 2) (pe_op op_pow pe_int pe_int)) (pa_cons pe_int pa_nil))) pa_nil)) (pe_op op_powG (pe_op op_pow pe_int pe_int) pe_int))
        (pa_cons (pe_op op_mod (pe_callTy call_int1 (by rfl) T.bint boot_int (pa_cons (pv 2) pa_nil)) pe_int) (pa_cons (pe_op op_mul pe_int (pv 1)) pa_nil)))))), ?_⟩
    refine ⟨_, rfl, _, rfl, a, ns, i, rfl, hS, hn, fun H1 v s1 => ?_⟩
    have hpow : (0 : Int) < ((10 : Int) ^ (60 : Int).toNat) ^ (10 : Int).toNat := Int.pow_pos (Int.pow_pos (by decide))
    refine ⟨_, rfl, _, _, rfl, rfl, ⟨by decide, by decide, by decide⟩, _, _, rfl, rfl, _, _, rfl, .inl ⟨_, rfl, _, _, rfl, rfl, ⟨by decide, by decide, by decide⟩, _, _, rfl, rfl, ⟨by decide, by decide +kernel⟩, _, _, rfl, rfl, hpow, ?_⟩⟩
    refine ⟨_, rfl, .inl ⟨_, rfl, _, _, rfl, rfl, (by show (0 : Int) < 2147483647; decide), _, rfl, _, _, rfl, rfl, .inl ⟨by decide, by decide⟩, (by show 3 ≤ sizeLine; decide), fun p np => q _ p (same_new s1 np) (s1.free np) ?_⟩⟩
    exact ⟨_, _, _, upd_same, Int.emod_nonneg _ (Int.ne_of_gt hpow), Int.emod_nonneg _ (by decide), Int.emod_lt_of_pos _ (by decide), by omega, by omega⟩
end
end Tw
set_option Elab.async false
set_option linter.all false
set_option maxRecDepth 100000
set_option maxHeartbeats 4000000
/-! companies that may be changed: near ones, led ones, bent ones -/
namespace Tw
open PySem PySem.Spec PyProof.Rows L2 TwG
/-! ### a company whose objects are its own -/
def Own (S : Addr → Prop) (H : Hp) (a : Addr) (c : Co) : Prop :=
  ∃ ts : List Addr, ¬ S a ∧ (∀ t ∈ ts, ¬ S t) ∧ a ∉ ts ∧ ts.Nodup ∧ H a = some (.lst (ts.map V.ref)) ∧ Objs H ts (c.map rowO)
theorem Own.cm {K : PySem.W.Frag} {S : Addr → Prop} {H : Hp} {a : Addr} {c : Co} (h : Own S H a c) : Cm K H a c := by
  obtain ⟨ts, h1, h2, _, _, h3, h4⟩ := h
  exact Com.cm ⟨ts, h1, h2, h3, h4⟩
theorem Own.keep {S : Addr → Prop} {H H' : Hp} {a : Addr} {c : Co} (s : ∀ b o, ¬ S b → H b = some o → H' b = some o) (h : Own S H a c) : Own S H' a c := by
  obtain ⟨ts, h1, h2, h3, h4, h5, h6⟩ := h
  exact ⟨ts, h1, h2, h3, h4, s _ _ h1 h5, h6.keep fun t ht o e => s t o (h2 t ht) e⟩
theorem Own.same {S : Addr → Prop} {H H' : Hp} {a : Addr} {c : Co} (s : Same H H') (h : Own S H a c) : Own S H' a c := h.keep fun b o _ e => s b o e
theorem Own.mono {S T : Addr → Prop} {H : Hp} {a : Addr} {c : Co} (h : Own S H a c) (i : ∀ b, T b → S b) : Own T H a c := by
  obtain ⟨ts, h1, h2, h3⟩ := h
  exact ⟨ts, fun z => h1 (i _ z), fun p hp z => h2 p hp (i _ z), h3⟩
theorem Own.nil {S : Addr → Prop} {H : Hp} {p : Addr} (n : ¬ S p) : Own S (upd H p (.lst [])) p [] := ⟨[], n, by simp, by simp, List.nodup_nil, upd_same, Objs.nil _⟩
theorem Own.out {S : Addr → Prop} {H : Hp} {a : Addr} {c : Co} (h : Own S H a c) : ¬ S a := by
  obtain ⟨ts, h1, _⟩ := h
  exact h1
theorem Own.lst {S : Addr → Prop} {H : Hp} {a : Addr} {c : Co} (h : Own S H a c) : ∃ xs, H a = some (.lst xs) ∧ xs.length = c.length := by
  obtain ⟨ts, _, _, _, _, h5, h6⟩ := h
  exact ⟨_, h5, by rw [List.length_map, h6.1, List.length_map]⟩
/-- a new row at the end -/
theorem Own.push {S : Addr → Prop} {H1 H : Hp} {a t : Addr} {c : Co} {r : List Int} (h : Own S H1 a c) (n : H1 t = none) (s : ∀ b o, ¬ S b → H1 b = some o → H b = some o) (e : H t = some (rowO r)) (nS : ¬ S t) :
    ∃ acc, H a = some (.lst acc) ∧ acc.length = c.length ∧ Own S (upd H a (.lst (acc ++ [.ref t]))) a (c ++ [r]) := by
  obtain ⟨ts, h1, h2, h3, h4, h5, h6⟩ := h
  have nt : t ∉ ts := h6.away n
  have na : t ≠ a := fun z => by
    rw [z, h5] at n
    cases n
  have o1 : Objs H ts (c.map rowO) := h6.keep fun u hu o eo => s u o (h2 u hu) eo
  refine ⟨ts.map V.ref, s _ _ h1 h5, by rw [List.length_map, h6.1, List.length_map], ts ++ [t], h1, ?_, ?_, ?_, by rw [upd_same, List.map_append]; rfl, ?_⟩
  · intro u hu
    rcases List.mem_append.mp hu with z | z
    · exact h2 u z
    · rw [List.mem_singleton.mp z]
      exact nS
  · rw [List.mem_append, not_or, List.mem_singleton]
    exact ⟨h3, fun z => na z.symm⟩
  · rw [List.nodup_append]
    refine ⟨h4, by simp, fun x hx y hy => ?_⟩
    rw [List.mem_singleton.mp hy]
    exact fun z => nt (z ▸ hx)
  · rw [List.map_append]
    refine (o1.push e).keep fun u hu v hv => ?_
    rw [upd_ne ?_]
    · exact hv
    · rcases List.mem_append.mp hu with z | z
      · exact fun y => h3 (y ▸ z)
      · rw [List.mem_singleton.mp z]
        exact na
/-! ### a tie changed -/
def putC (c : Co) (i j : Nat) (v : Int) : Co := c.set j ((c.getD j []).set i v)
theorem putC_len (c : Co) (i j : Nat) (v : Int) : (putC c i j v).length = c.length := List.length_set
theorem putC_step {c : Co} {i j : Nat} {v : Int} (lt : i < j) (hj : j < c.length) : Step c.length (tieC c) (tieC (putC c i j v)) i j := by
  refine ⟨tieC_sym _, fun a b ne n1 n2 => ?_⟩
  unfold tieC putC
  by_cases h : max a b = j
  · rw [h]
    have e : (c.set j ((c.getD j []).set i v)).getD j [] = (c.getD j []).set i v := by
      rw [List.getD_eq_getElem?_getD, List.getElem?_set_self hj]
      rfl
    rw [e]
    have hm : i ≠ min a b := by omega
    rw [List.getD_eq_getElem?_getD, List.getElem?_set_ne hm, ← List.getD_eq_getElem?_getD]
  · have e : (c.set j ((c.getD j []).set i v)).getD (max a b) [] = c.getD (max a b) [] := by
      rw [List.getD_eq_getElem?_getD, List.getElem?_set_ne (fun z => h z.symm), ← List.getD_eq_getElem?_getD]
    rw [e]
theorem putC_at {c : Co} {i j : Nat} {v : Int} (tr : Tri c) (lt : i < j) (hj : j < c.length) : tieC (putC c i j v) i j = v := by
  unfold tieC putC
  rw [Nat.max_eq_right (Nat.le_of_lt lt), Nat.min_eq_left (Nat.le_of_lt lt)]
  have e : (c.set j ((c.getD j []).set i v)).getD j [] = (c.getD j []).set i v := by
    rw [List.getD_eq_getElem?_getD, List.getElem?_set_self hj]
    rfl
  rw [e]
  have hl : (c.getD j []).length = j := by
    have e1 : c[j]? = some c[j] := List.getElem?_eq_getElem hj
    rw [List.getD_eq_getElem?_getD, e1]
    exact tr j _ e1
  rw [List.getD_eq_getElem?_getD, List.getElem?_set_self (by omega)]
  rfl
theorem putC_row {c : Co} {i j : Nat} {v : Int} (hj : j < c.length) {u : Nat} {r : List Int} (h : (putC c i j v)[u]? = some r) : (u = j ∧ ∃ r0, c[j]? = some r0 ∧ r = r0.set i v) ∨ (u ≠ j ∧ c[u]? = some r) := by
  unfold putC at h
  by_cases e : u = j
  · subst e
    rw [List.getElem?_set_self hj] at h
    refine .inl ⟨rfl, c[u], List.getElem?_eq_getElem hj, ?_⟩
    rw [← Option.some.inj h, List.getD_eq_getElem?_getD, List.getElem?_eq_getElem hj]
    rfl
  · rw [List.getElem?_set_ne (fun z => e z.symm)] at h
    exact .inr ⟨e, h⟩
theorem putC_sh {k : Int} {c : Co} {i j : Nat} {v : Int} (sh : Sh k c) (hj : j < c.length) (v0 : 0 ≤ v) (v1 : v < k) : Sh k (putC c i j v) := by
  refine ⟨by rw [putC_len]; exact sh.n1, by rw [putC_len]; exact sh.n2, fun u r h => ?_, fun u r h x hx => ?_⟩
  · rcases putC_row hj h with ⟨rfl, r0, h1, rfl⟩ | ⟨_, h1⟩
    · rw [List.length_set]
      exact sh.row _ _ h1
    · exact sh.row _ _ h1
  · rcases putC_row hj h with ⟨rfl, r0, h1, rfl⟩ | ⟨_, h1⟩
    · rcases List.mem_or_eq_of_mem_set hx with z | rfl
      · exact sh.val _ _ h1 x z
      · exact ⟨v0, v1⟩
    · exact sh.val _ _ h1 x hx
theorem ixN_nat {n i : Nat} (h : i < n) : ixN n (i : Int) = some i := by
  unfold ixN
  rw [if_pos (by omega), if_pos (by omega)]
  rfl
/-- the place of a tie, and what storing there leaves -/
theorem Own.cell {S : Addr → Prop} {H : Hp} {a : Addr} {c : Co} (h : Own S H a c) (tr : Tri c) {i j : Nat} (lt : i < j) (hj : j < c.length) :
    ∃ (xs : List V) (p : Addr) (r : List Int), H a = some (.lst xs) ∧ atI xs (j : Int) = some (.ref p) ∧ H p = some (.lst (r.map V.int)) ∧ ixN (r.map V.int).length (i : Int) = some i ∧ ¬ S p ∧ p ≠ a ∧
      ∀ v : Int, Own S (upd H p (.lst ((r.map V.int).set i (.int v)))) a (putC c i j v) := by
  obtain ⟨ts, h1, h2, h3, h4, h5, h6⟩ := h
  have hl : ts.length = c.length := by rw [h6.1, List.length_map]
  have hjt : j < ts.length := by omega
  have e1 : ts[j]? = some ts[j] := List.getElem?_eq_getElem hjt
  have e2 : c[j]? = some c[j] := List.getElem?_eq_getElem hj
  have e3 : H ts[j] = some (rowO c[j]) := h6.2 j _ _ e1 (by
    rw [List.getElem?_map, e2]
    rfl)
  have hm : ts[j] ∈ ts := List.getElem_mem hjt
  have na : ts[j] ≠ a := fun z => h3 (z ▸ hm)
  refine ⟨ts.map V.ref, ts[j], c[j], h5, atI_nat ?_, e3, ?_, h2 _ hm, na, fun v => ⟨ts, h1, h2, h3, h4, ?_, ?_⟩⟩
  · rw [List.getElem?_map, e1]
    rfl
  · rw [List.length_map, tr j _ e2]
    exact ixN_nat lt
  · rw [upd_ne na.symm]
    exact h5
  · refine ⟨by rw [hl, List.length_map, putC_len], fun u t o a1 a2 => ?_⟩
    rw [List.getElem?_map] at a2
    cases er : (putC c i j v)[u]? with
    | none =>
      rw [er] at a2
      cases a2
    | some r =>
      rw [er] at a2
      obtain rfl : rowO r = o := Option.some.inj a2
      rcases putC_row hj er with ⟨rfl, r0, f1, rfl⟩ | ⟨ne, f1⟩
      · rw [e2] at f1
        cases f1
        rw [e1] at a1
        cases a1
        rw [upd_same]
        show _ = some (HO.lst ((_ : List Int).map V.int))
        rw [List.map_set]
      · have nt : t ≠ ts[j] := fun z => by
          have hu : u < ts.length := (List.getElem?_eq_some_iff.mp a1).1
          rw [List.getElem?_eq_getElem hu] at a1
          have z2 : ts[u] = ts[j] := (Option.some.inj a1).trans z
          exact ne ((List.getElem_inj h4).mp z2)
        rw [upd_ne nt]
        refine h6.2 u t _ a1 ?_
        rw [List.getElem?_map, f1]
        rfl
/-! ### a company copied -/
def rListOf (K : PySem.W.Frag) : List V → Hp → VK → Prop := fun xs H Q => ∃ p ys, xs = [.ref p] ∧ (SqL K H p ys ∨ SqT K H p ys) ∧ ∀ l, H l = none → Q (.ref l) (upd H l (.lst ys))
theorem copy_read {K : PySem.W.Frag} {σ : L2.St} {H : Hp} {Q : VK} {ia ir : Nat} {a : Addr} {c : Co} (hσ : σ[ia]? = some (some (.ref a))) (hne : ir < σ.length) (hC : Cm K H a c) (n40 : c.length ≤ 40)
    (k : ∀ H' M, Same H H' → H M = none → Own (fun b => H b ≠ none) H' M c → Q (.ref M) H') :
    tLc (iList K (tVar ia)) (gName ir) tYes (tCB (rListOf K) (tCons (tVar ir) tNil)) [ir] σ H Q := by
  obtain ⟨ps, p1, p2, p3⟩ := hC
  refine ⟨.ref a, hσ, a, rfl, ⟨_, p1⟩, fun D nD => lc_list (K := K) (a := a) (xs := ps.map V.ref) (fun t H' => Same H H' ∧ Own (fun b => H b ≠ none) H' D (c.take t)) ⟨same_up nD, Own.nil fun z => z nD⟩ (fun t H' _ h => h.1.seq p1) ?_ ?_⟩
  · rintro t x H1 hx ⟨sm, own⟩
    obtain ⟨p, hp, rfl⟩ := at_ref hx
    have ht : t < c.length := by
      rw [← p2]
      exact (List.getElem?_eq_some_iff.mp hp).1
    have hr : c[t]? = some c[t] := List.getElem?_eq_getElem ht
    have h1 := sm.seq (p3 t p _ hp hr)
    show wipe ((wipe σ [ir]).set ir (some (.ref p))) [ir] = wipe σ [ir] ∧ _
    refine ⟨?_, .ref p, ?_, p, _, rfl, .inl h1, fun l nl => ?_⟩
    · show ((σ.set ir none).set ir _).set ir none = σ.set ir none
      rw [List.set_set, List.set_set]
    · show ((σ.set ir none).set ir _)[ir]? = _
      exact List.getElem?_set_self (by rw [List.length_set]; exact hne)
    · have sl : Same H (upd H1 l (.lst (c[t].map V.int))) := same_new sm nl
      obtain ⟨acc, a1, a2, a3⟩ := own.push (H := upd H1 l (.lst (c[t].map V.int))) (r := c[t]) nl (fun b o _ e => same_up nl b o e) upd_same (fun z => z (sm.free nl))
      refine ⟨acc, a1, ?_, same_in sl nD, ?_⟩
      · rw [a2, List.length_take]
        exact small1000 (by omega)
      · rw [List.take_add_one, hr]
        exact a3
  · rintro H1 ⟨sm, own⟩
    rw [List.length_map, p2, List.take_length] at own
    exact k H1 D sm nD own
theorem seq_set {te : TE} {i : Nat} {rest : TS} {D : Ends} {σ : L2.St} {H : Hp} (h : te σ H fun x H1 => rest D (σ.set i (some x)) H1) : tSeq (tAsg te (gName i)) rest D σ H := h
def Nr (k : Int) (c d : Co) : Prop := Sh k d ∧ d.length = c.length ∧ ∀ t, J c.length t (tieC c) → J c.length t (tieC d)
def spNear (K : PySem.W.Frag) : Sp := fun vs H Q _ => ∃ (k : Nat) (a : Addr) (c : Co), vs = [cN k, .ref a] ∧ 2 ≤ k ∧ k ≤ 4 ∧ Cm K H a c ∧ Sh (k : Int) c ∧ c.length ≤ 14 ∧
  ∀ (H' : Hp) (F : Addr) (bs : List Addr), Same H H' → H F = none → H' F = some (.lst (bs.map V.ref)) → bs.length ≤ 1000 → (∀ b ∈ bs, ∃ d, Own (fun q => H q ≠ none) H' b d ∧ Nr (k : Int) c d) → Q (.ref F) H'
def spLed (K : PySem.W.Frag) : Sp := fun vs H Q _ => ∃ (g a : Addr) (k n : Nat) (c : Co) (m : Int), vs = [.ref g, cN k, .ref a, cN n] ∧ n ≤ 6 ∧ 2 ≤ k ∧ k ≤ 4 ∧ Gen H g m ∧ m ≤ 100000000 ∧ Own (fun q => q = g) H a c ∧ Sh (k : Int) c ∧ c.length ≤ 14 ∧
  ∀ (H' : Hp) (b : Addr) (d : Co), SameX g H H' → Gen H' g (m + 6) → Own (fun q => q = g) H' b d → Sh (k : Int) d → d.length = c.length → J c.length (tieC c) (tieC d) → Q (.ref b) H'
def spBent (K : PySem.W.Frag) : Sp := fun vs H Q _ => ∃ (g a : Addr) (k : Nat) (c : Co) (m : Int), vs = [.ref g, cN k, .ref a] ∧ 2 ≤ k ∧ k ≤ 4 ∧ Gen H g m ∧ m ≤ 100000000 ∧ Cm K H a c ∧ Sh (k : Int) c ∧ c.length ≤ 14 ∧
  ∀ (H' : Hp) (b : Addr) (d : Co), SameX g H H' → Gen H' g (m + 10) → Own (fun q => H q ≠ none) H' b d → Sh (k : Int) d → d.length = c.length → Q (.ref b) H'
section
variable {P : Program} {w : World} {K : PySem.W.Frag} {mg : Str → Option Value} {base : Heap}
theorem okNear (T : Txt K mg) : Cl P w K mg base 3 "_law_near" (spNear K) := by
  have c1 : Cl P w K mg base 1 "_law_couples" spLCouples := okLCouples T
  have c2 : Cl P w K mg base 2 "_law_alike" (spAlike K) := okLAlike T
  refine T.dLNear.cl cLNear (fun vs H Q E h => ?_) (fun f cdv A outer s H vs Q E hr h => ?_)
  · obtain ⟨k, a, c, rfl, _⟩ := h
    rfl
  · obtain ⟨k, a, c, rfl, k2, k4, hC, sh, n14, q⟩ := h
    refine ⟨_, pss_cons (ps_set (i := 2) cLNear.nd rfl (.inl rfl) (pe_lst pa_nil))
      (pss_cons (ps_for PassesOwn.never rfl (pi_list (pe_c c1 hr (by rfl) (pa_cons (pe_callB call_len_seq (by rfl) T.blen PySem.boot_len (pa_cons (pv 1) pa_nil)) pa_nil)))
        (pg_tup rfl (pgs_cons (pg_name (i := 3) cLNear.nd rfl (Or.inl rfl)) (pgs_cons (pg_name (i := 4) cLNear.nd rfl (Or.inl rfl)) pgs_nil)))
        (pss_one (ps_if (pt_val (pe_c c2 hr (by rfl) (pa_cons (pv 1) (pa_cons (pv 3) (pa_cons (pv 4) pa_nil)))))
          (pss_one (ps_for PassesOwn.never rfl (pi_range1 (by rfl) T.brange (pa_cons (pv 0) pa_nil)) (pg_name (i := 5) cLNear.nd rfl (Or.inl rfl))
            (pss_one (ps_if (pt_cmpR op_ne (pv 5) (pe_ix ix_list (pe_ix ix_list (pv 1) (pv 4) (fun _ _ => rfl)) (pv 3) (fun _ _ => rfl)) (nomark _))
              (pss_cons (ps_setLc (i := 6) (own := [("_law_row", 7)]) (g := gName 7) (te := tCB (rListOf K) (tCons (tVar 7) tNil)) rfl cLNear.nd rfl rfl (sw_true rfl rfl rfl (by decide +kernel)) (pi_list (pv 1))
                (blkOk_by (own := [("_law_row", 7)]) (N := ["_law_kinds", "_law_rows", "_law_found", "_law_one", "_law_other", "_law_kind", "_law_made", "_law_row"]) (sc := defScope sLNear) (by decide +kernel)) (fun _ _ _ _ _ => pg_name (i := 7) cLNear.nd rfl (Or.inl rfl))
                (fun _ _ _ _ _ => pts_nil) (fun _ _ _ _ _ => pe_callTy call_list_of (by rfl) T.blist boot_list (pa_cons (pv 7) pa_nil)))
              (pss_cons (ps_asg (pv 5) (pg_sub (pe_ix ix_list (pv 6) (pv 4) (fun _ _ => rfl)) (pv 3) set_list))
              (pss_one (ps_expr (pe_bm PySem.F.plainAttrs_list PySem.F.slot_list_append PySem.F.type_list_append mt_append (pv 2) (pa_cons (pv 6) pa_nil))))))
              pss_nil)))) pss_nil)))
      (pss_one (ps_ret (pv 2)))), ?_⟩
    obtain ⟨xs, hS, hxl⟩ := len_of hC
    have sh1 := sh.n1
    refine ⟨Nat.zero_le _, fun F nF => ?_⟩
    have s0 : Same H (upd H F (.lst [])) := same_up nF
    refine ⟨_, rfl, a, _, rfl, .inl (s0.seq hS), c.length, congrArg (fun z => [V.int z]) hxl, by omega, fun H2 p s2 np lo => ?_⟩
    have s12 : Same H H2 := s0.trans s2
    obtain ⟨ts, hts, _, hob⟩ := id lo
    have tl : (ts.map V.ref).length = (couples c.length).length := by rw [List.length_map, hob.1, List.length_map]
    have clen : (couples c.length).length ≤ c.length * c.length := couplesTo_len c.length c.length
    have cmul : c.length * c.length ≤ 14 * 14 := Nat.mul_le_mul n14 n14
    -- what the list of found ones holds
    have goodS : ∀ {H3 H4 : Hp} {bs : List Addr}, (∀ b o, ¬ (H b ≠ none ∨ b = F) → H3 b = some o → H4 b = some o) → (∀ b ∈ bs, ∃ d, Own (fun q => H q ≠ none ∨ q = F) H3 b d ∧ Nr (k : Int) c d) → ∀ b ∈ bs, ∃ d, Own (fun q => H q ≠ none ∨ q = F) H4 b d ∧ Nr (k : Int) c d :=
      fun {H3 H4 bs} sk g b hb => by
        obtain ⟨d, h1, h2⟩ := g b hb
        exact ⟨d, h1.keep sk, h2⟩
    have npF : p ≠ F := fun e => by
      rw [e, upd_same] at np
      cases np
    have offC : ∀ (H3 : Hp), Same H2 H3 → ∀ b o, b ≠ F → H2 b = some o → H3 b = some o := fun H3 s b o _ e => s b o e
    refine ⟨p, rfl, ⟨_, SqL.of hts⟩, for_list (K := K) (a := p) (xs := ts.map V.ref) (fun t σ H' => ∃ (x3 x4 x5 x6 x7 : Option V) (bs : List Addr), σ = [some (cN k), some (.ref a), some (.ref F), x3, x4, x5, x6, x7] ∧ SameX F H2 H' ∧ Same H H' ∧
        H' F = some (.lst (bs.map V.ref)) ∧ bs.length ≤ k * t ∧ ∀ b ∈ bs, ∃ d, Own (fun q => H q ≠ none ∨ q = F) H' b d ∧ Nr (k : Int) c d)
      ⟨none, none, none, none, none, [], rfl, SameX.refl F H2, s12, s2 _ _ upd_same, by simp, by simp⟩ (fun t σ H' _ ⟨_, _, _, _, _, _, _, sx, _⟩ => SqL.of (sx _ _ npF hts)) ?_ ?_⟩
    · rintro t x σ H3 hx ⟨x3, x4, x5, x6, x7, bs, rfl, sx, sm, hF, bl, good⟩
      obtain ⟨t', ht', rfl⟩ := at_ref hx
      have htl : t < (couples c.length).length := by
        rw [← tl, List.length_map]
        exact (List.getElem?_eq_some_iff.mp ht').1
      have eu : (couples c.length)[t]? = some (couples c.length)[t] := List.getElem?_eq_getElem htl
      generalize (couples c.length)[t] = u at eu
      obtain ⟨m1, m2⟩ := couples_mem (List.mem_of_getElem? eu)
      have hto : H2 t' = some (cpO u) := hob.2 t t' _ ht' (by
        rw [List.getElem?_map, eu]
        rfl)
      have ne1 : t' ≠ F := fun e => by
        rw [e, s2 _ _ upd_same] at hto
        cases hto
      refine ⟨t', _, rfl, SqT.of (sx _ _ ne1 hto), rfl, _, _, rfl, _, _, rfl, rfl, ?_⟩
      refine ⟨_, rfl, _, rfl, _, rfl, a, c, u.1, u.2, rfl, hC.same sm, sh.tri, by omega, by omega, by omega, by omega, fun H4 s4 => ⟨_, rfl, ?_⟩⟩
      have bnd : k * t ≤ 4 * 196 := Nat.mul_le_mul k4 (by omega)
      refine ite2 (fun h => ?_) (fun h => ?_)
      · have al := (alikeB_iff c u.1 u.2).mp h
        refine ⟨_, rfl, (k : Int), rfl, by omega, by omega, for_range (lo := 0) (n := (k : Int).toNat) (fun v σ H' => ∃ (x5 x6 x7 : Option V) (bs : List Addr), σ = [some (cN k), some (.ref a), some (.ref F), some (cN u.1), some (cN u.2), x5, x6, x7] ∧ SameX F H2 H' ∧ Same H H' ∧
          H' F = some (.lst (bs.map V.ref)) ∧ bs.length ≤ k * t + v ∧ ∀ b ∈ bs, ∃ d, Own (fun q => H q ≠ none ∨ q = F) H' b d ∧ Nr (k : Int) c d)
          ⟨_, _, _, bs, rfl, sx.trans (SameX.of s4), sm.trans s4, s4 _ _ hF, by omega, goodS (fun b o _ e => s4 b o e) good⟩ ?_ ?_⟩
        · rintro v σ H5 hv ⟨x5, x6, x7, bs2, rfl, sx5, sm5, hF5, bl5, good5⟩
          have e0 : (0 : Int) + (v : Nat) = (v : Int) := Int.zero_add _
          rw [e0]
          obtain ⟨y1, p1, r1, f1, f2, f3, f4⟩ := tie_read2 (hC.same sm5) sh.tri m1 m2
          refine ⟨_, rfl, _, rfl, _, rfl, a, y1, _, _, rfl, rfl, f1, f2, _, rfl, p1, _, _, _, rfl, rfl, f3, f4, rfl, _, rfl, ite2 (fun h2 => ?_) (fun h2 => ?_)⟩
          · refine seq_set (copy_read rfl (by show 7 < 8; decide) (hC.same sm5) (by omega) (fun H6 M s6 nM own => ?_))
            obtain ⟨xs6, p6, r6, g1, g2, g3, g4, g5, g6, g7⟩ := own.cell sh.tri m1 m2
            have np6 : H5 p6 = none := Classical.not_not.mp g5
            have neF : p6 ≠ F := fun e => by
              rw [e, hF5] at np6
              cases np6
            refine ⟨_, rfl, _, rfl, _, rfl, M, _, _, _, rfl, rfl, SqL.of g1, g2, _, rfl, p6, _, _, _, rfl, rfl, g3, g4, ?_⟩
            have s7 : Same H5 (upd H6 p6 (.lst ((r6.map V.int).set u.1 (.int (v : Int))))) := same_in s6 np6
            have own7 := g7 (v : Int)
            have hF7 := s7 _ _ hF5
            have bsl : bs2.length < 1000 := by omega
            refine ⟨_, rfl, .inl ⟨rfl, _, SqL.of hF7⟩, _, rfl, F, _, _, rfl, rfl, hF7, ?_, ?_⟩
            · rw [List.length_map]
              exact small1000 (by omega)
            · have nMF : M ≠ F := fun e => by
                rw [e, hF5] at nM
                cases nM
              have nF0 : ∀ b, ¬ (H5 b ≠ none) → b ≠ F := fun b z e => z (by
                rw [e, hF5]
                exact fun y => nomatch y)
              refine ⟨_, _, _, bs2 ++ [M], rfl, ?_, ?_, ?_, ?_, ?_⟩
              · exact (sx5.trans (SameX.of s7)).at
              · exact same_in (sm5.trans s7) nF
              · rw [upd_same, List.map_append]
                rfl
              · rw [List.length_append, List.length_singleton]
                omega
              · intro b hb
                rcases List.mem_append.mp hb with z | z
                · refine goodS (fun b o ns e => ?_) (goodS (fun b o _ e => s7 b o e) good5) b z
                  rw [upd_ne fun y => ns (.inr y)]
                  exact e
                · rw [List.mem_singleton.mp z]
                  refine ⟨putC c u.1 u.2 (v : Int), (own7.keep fun b o ns e => ?_).mono ?_, ?_⟩
                  · rw [upd_ne (nF0 b ns)]
                    exact e
                  · rintro b (z1 | rfl)
                    · cases e : H b with
                      | none => exact absurd e z1
                      | some o =>
                        rw [sm5 b o e]
                        exact fun y => nomatch y
                    · rw [hF5]
                      exact fun y => nomatch y
                  · exact ⟨putC_sh sh m2 (by omega) (by omega), putC_len _ _ _ _, fun t h => h.step (tieC_sym c) (putC_step m1 m2) al⟩
          · exact ⟨_, _, _, bs2, rfl, sx5, sm5, hF5, by omega, good5⟩
        · rintro σ H5 ⟨x5, x6, x7, bs2, rfl, sx5, sm5, hF5, bl5, good5⟩
          exact ⟨_, _, _, _, _, bs2, rfl, sx5, sm5, hF5, by rw [Nat.mul_succ]; omega, good5⟩
      · exact ⟨_, _, _, _, _, bs, rfl, sx.trans (SameX.of s4), sm.trans s4, s4 _ _ hF, by rw [Nat.mul_succ]; omega, goodS (fun b o _ e => s4 b o e) good⟩
    · rintro σ H3 ⟨x3, x4, x5, x6, x7, bs, rfl, sx, sm, hF, bl, good⟩
      have bnd : k * (ts.map V.ref).length ≤ 4 * 196 := Nat.mul_le_mul k4 (by omega)
      refine ⟨_, rfl, q H3 F bs sm nF hF (by omega) fun b hb => ?_⟩
      obtain ⟨d, h1, h2⟩ := good b hb
      exact ⟨d, h1.mono fun q z => .inl z, h2⟩
end
end Tw
set_option Elab.async false
set_option linter.all false
set_option maxRecDepth 100000
set_option maxHeartbeats 4000000
/-! companies led by deeds, and bent ones -/
namespace Tw
open PySem PySem.Spec PyProof.Rows L2 TwG
theorem lay_co (c : Co) : Lay 2 (coD c) := .list fun d hd => by
  obtain ⟨r, _, rfl⟩ := List.mem_map.mp hd
  exact Lay.ints 0 r
theorem own_data {K : PySem.W.Frag} {S : Addr → Prop} {H : Hp} {P : Co → Prop} : ∀ {bs : List Addr}, (∀ b ∈ bs, ∃ d, Own S H b d ∧ P d) → ∃ ds : List Co, DpAll K H (bs.map V.ref) (ds.map coD) ∧ ds.length = bs.length
  | [], _ => ⟨[], .nil, rfl⟩
  | b :: bs, h => by
    obtain ⟨d, h1, _⟩ := h b List.mem_cons_self
    obtain ⟨ds, h2, h3⟩ := own_data (bs := bs) fun x hx => h x (List.mem_cons_of_mem _ hx)
    exact ⟨d :: ds, .cons h1.cm.dp h2, by rw [List.length_cons, List.length_cons, h3]⟩
section
variable {P : Program} {w : World} {K : PySem.W.Frag} {mg : Str → Option Value} {base : Heap}
theorem okLed (T : Txt K mg) : Cl P w K mg base 4 "_law_led" (spLed K) := by
  have c1 : Cl P w K mg base 3 "_law_near" (spNear K) := okNear T
  have c2 : Cl P w K mg base 2 "_law_random" spRandom := okRandom T
  refine T.dLLed.cl cLLed (fun vs H Q E h => ?_) (fun f cdv A outer s H vs Q E hr h => ?_)
  · obtain ⟨g, a, k, n, c, m, rfl, _⟩ := h
    rfl
  · obtain ⟨g, a, k, n, c, m, rfl, n6, k2, k4, hg, hm, own, sh, n14, q⟩ := h
    refine ⟨_, pss_cons (ps_for PassesOwn.never rfl (pi_range1 (by rfl) T.brange (pa_cons (pv 3) pa_nil)) (pg_name (i := 4) cLLed.nd rfl (Or.inl rfl))
        (pss_cons (ps_set (i := 5) cLLed.nd rfl (.inl rfl) (pe_c c1 hr (by rfl) (pa_cons (pv 1) (pa_cons (pv 2) pa_nil))))
        (pss_one (ps_if (pt_cmpR (op_neD hr.units) (pv 5) (pe_lst pa_nil) (nomark _))
          (pss_one (ps_set (i := 2) cLLed.nd rfl (.inl rfl) (pe_ix ix_list (pv 5) (pe_c c2 hr (by rfl) (pa_cons (pv 0) (pa_cons (pe_callB call_len_seq (by rfl) T.blen PySem.boot_len (pa_cons (pv 5) pa_nil)) pa_nil))) (fun _ _ => rfl)))) pss_nil))))
      (pss_one (ps_ret (pv 2))), ?_⟩
    refine ⟨_, rfl, _, rfl, by omega, by omega, for_range (lo := 0) (n := (n : Int).toNat) (fun t σ H' => ∃ (b : Addr) (d : Co) (y4 y5 : Option V), σ = [some (.ref g), some (cN k), some (.ref b), some (cN n), y4, y5] ∧ SameX g H H' ∧ Gen H' g (m + (t : Nat)) ∧
        Own (fun q => q = g) H' b d ∧ Sh (k : Int) d ∧ d.length = c.length ∧ J c.length (tieC c) (tieC d)) ⟨a, c, none, none, rfl, SameX.refl g H, hg.more (by omega), own, sh, rfl, J.refl _ _⟩ ?_ ?_⟩
    · rintro t σ H1 ht ⟨b, d, y4, y5, rfl, sx, hg1, own1, sh1, dl, jj⟩
      refine ⟨_, rfl, _, rfl, k, b, d, rfl, k2, k4, own1.cm, sh1, by omega, fun H2 F bs s2 nF hF bl good => ?_⟩
      obtain ⟨ds, dp, dsl⟩ := own_data (K := K) good
      refine ⟨_, rfl, Nat.zero_le _, fun p np => ?_⟩
      refine ⟨.list (ds.map coD), .list [], .lst (SqL.of (same_up np _ _ hF)) (dpa_same (same_up np) _ _ dp), .lst (SqL.of upd_same) .nil, (Lay.list (m := 2) fun e he => by
        obtain ⟨x, _, rfl⟩ := List.mem_map.mp he
        exact lay_co x).shaped, (Lay.nil 0).shaped, _, rfl, ?_⟩
      rw [eqv_nil]
      have s3 : Same H1 (upd H2 p (.lst [])) := same_new s2 np
      have hg3 := hg1.same s3
      refine ite2 (fun h => ?_) (fun h => ?_)
      · have pos : 1 ≤ bs.length := by
          cases bs with
          | nil =>
            cases ds with
            | nil => cases h
            | cons x y => simp at dsl
          | cons x y => simp
        have hF3 := same_up (o := .lst []) np _ _ hF
        refine ⟨_, rfl, _, rfl, _, rfl, F, _, rfl, .inl (SqL.of hF3), g, bs.length, m + (t : Nat), ?_, pos, bl, hg3, by omega, fun H4 r sx4 hg4 hr4 => ?_⟩
        · rw [List.length_map]
          rfl
        · have nFg : F ≠ g := fun e => by
            rw [e] at nF
            exact hg1.some nF
          have hb : bs[r]? = some bs[r] := List.getElem?_eq_getElem hr4
          obtain ⟨d2, own2, sh2, dl2, jj2⟩ := good bs[r] (List.getElem_mem hr4)
          refine ⟨F, _, _, .ref bs[r], rfl, rfl, SqL.of (sx4 _ _ nFg hF3), atI_nat (by rw [List.getElem?_map, hb]; rfl), ?_⟩
          refine ⟨bs[r], d2, _, _, rfl, sx.trans ((SameX.of s3).trans sx4), hg4.more (by omega), ?_, sh2, dl2.trans dl, ?_⟩
          · refine ((own2.same (same_up np)).mono fun b z => ?_).keep fun b o n e => sx4 b o n e
            rw [z]
            exact hg1.some
          · rw [← dl]
            exact jj2 _ (dl ▸ jj)
      · exact ⟨b, d, _, _, rfl, sx.trans (SameX.of s3), hg3.more (by omega), own1.same s3, sh1, dl, jj⟩
    · rintro σ H1 ⟨b, d, y4, y5, rfl, sx, hg1, own1, sh1, dl, jj⟩
      exact ⟨_, rfl, q H1 b d sx (hg1.more (by omega)) own1 sh1 dl jj⟩
theorem okBent (T : Txt K mg) : Cl P w K mg base 3 "_law_bent" (spBent K) := by
  have c2 : Cl P w K mg base 2 "_law_random" spRandom := okRandom T
  refine T.dLBent.cl cLBent (fun vs H Q E h => ?_) (fun f cdv A outer s H vs Q E hr h => ?_)
  · obtain ⟨g, a, k, c, m, rfl, _⟩ := h
    rfl
  · obtain ⟨g, a, k, c, m, rfl, k2, k4, hg, hm, hC, sh, n14, q⟩ := h
    have sh1 := sh.n1
    refine ⟨_, pss_cons (ps_setLc (i := 3) (own := [("_law_row", 6)]) (g := gName 6) (te := tCB (rListOf K) (tCons (tVar 6) tNil)) rfl cLBent.nd rfl rfl (sw_true rfl rfl rfl (by decide +kernel)) (pi_list (pv 2))
        (blkOk_by (own := [("_law_row", 6)]) (N := ["_law_generator_here", "_law_kinds", "_law_rows", "_law_made", "_law_turn", "_law_other", "_law_row"]) (sc := defScope sLBent) (by decide +kernel)) (fun _ _ _ _ _ => pg_name (i := 6) cLBent.nd rfl (Or.inl rfl))
        (fun _ _ _ _ _ => pts_nil) (fun _ _ _ _ _ => pe_callTy call_list_of (by rfl) T.blist boot_list (pa_cons (pv 6) pa_nil)))
      (pss_cons (ps_for PassesOwn.never rfl (pi_range1 (by rfl) T.brange (pa_cons (pe_op op_add pe_int (pe_c c2 hr (by rfl) (pa_cons (pv 0) (pa_cons pe_int pa_nil)))) pa_nil)) (pg_name (i := 4) cLBent.nd rfl (Or.inl rfl))
        (pss_one (ps_if (pt_cmpR op_gt (pe_callB call_len_seq (by rfl) T.blen PySem.boot_len (pa_cons (pv 3) pa_nil)) pe_int (nomark _))
          (pss_cons (ps_set (i := 5) cLBent.nd rfl (.inl rfl) (pe_op op_add pe_int (pe_c c2 hr (by rfl) (pa_cons (pv 0) (pa_cons (pe_op op_sub (pe_callB call_len_seq (by rfl) T.blen PySem.boot_len (pa_cons (pv 3) pa_nil)) pe_int) pa_nil)))))
          (pss_one (ps_asg (pe_c c2 hr (by rfl) (pa_cons (pv 0) (pa_cons (pv 1) pa_nil))) (pg_sub (pe_ix ix_list (pv 3) (pv 5) (fun _ _ => rfl)) (pe_c c2 hr (by rfl) (pa_cons (pv 0) (pa_cons (pv 5) pa_nil))) set_list)))) pss_nil)))
      (pss_one (ps_ret (pv 3)))), ?_⟩
    refine seq_set (copy_read rfl (by show 6 < 7; decide) hC (by omega) (fun H1 M s1 nM own => ?_))
    refine ⟨_, rfl, g, 2, m, rfl, by omega, by omega, hg.same s1, by omega, fun H2 r sx2 hg2 hr2 => ?_⟩
    have own2 : Own (fun b => H b ≠ none) H2 M c := own.keep fun b o n e => sx2 b o (fun z => n (by rw [z]; exact hg.some)) e
    refine ⟨_, _, rfl, rfl, _, rfl, by omega, by omega, for_range (lo := 0) (n := (1 + (r : Int)).toNat) (fun t σ H' => ∃ (d : Co) (y4 y5 y6 : Option V), σ = [some (.ref g), some (cN k), some (.ref a), some (.ref M), y4, y5, y6] ∧ SameX g H H' ∧ Gen H' g (m + 1 + 3 * (t : Nat)) ∧
        Own (fun b => H b ≠ none) H' M d ∧ Sh (k : Int) d ∧ d.length = c.length) ⟨c, none, none, none, rfl, (SameX.of s1).trans sx2, hg2.more (by omega), own2, sh, rfl⟩ ?_ ?_⟩
    · rintro t σ H3 ht ⟨d, y4, y5, y6, rfl, sx3, hg3, own3, sh3, dl⟩
      obtain ⟨xs, e1, e2⟩ := own3.lst
      refine ⟨_, rfl, M, _, rfl, .inl (SqL.of e1), _, _, rfl, rfl, _, rfl, ite2 (fun h => ?_) (fun h => ?_)⟩
      · have hn : 1 < d.length := by
          have z := of_decide_eq_true h
          omega
        refine ⟨_, rfl, _, rfl, M, _, rfl, .inl (SqL.of e1), _, _, rfl, rfl, g, d.length - 1, _, ?_, by omega, by omega, hg3, by omega, fun H4 r4 sx4 hg4 hr4 => ?_⟩
        · show [V.ref g, V.int (((xs.length : Nat) : Int) - 1)] = [V.ref g, V.int ((d.length - 1 : Nat) : Int)]
          rw [e2, show ((d.length : Int) - 1) = ((d.length - 1 : Nat) : Int) by omega]
        · refine ⟨_, _, rfl, rfl, _, rfl, _, rfl, g, k, _, rfl, by omega, by omega, hg4, by omega, fun H5 r5 sx5 hg5 hr5 => ?_⟩
          have nSg : ¬¬ (H g ≠ none) := fun z => z hg.some
          have kp : ∀ {Ha Hb : Hp}, SameX g Ha Hb → ∀ b o, ¬ (H b ≠ none) → Ha b = some o → Hb b = some o := fun {Ha Hb} sx b o n e => sx b o (fun z => n (by rw [z]; exact hg.some)) e
          have own5 : Own (fun b => H b ≠ none) H5 M d := (own3.keep (kp sx4)).keep (kp sx5)
          obtain ⟨xs5, e5, _⟩ := own5.lst
          obtain ⟨xs6, p6, r6, g1, g2, _⟩ := own5.cell sh3.tri (i := 0) (j := 1 + r4) (by omega) (by omega)
          have ei : (1 : Int) + (r4 : Int) = ((1 + r4 : Nat) : Int) := by omega
          refine ⟨_, rfl, _, rfl, M, _, _, _, rfl, congrArg V.int ei, SqL.of g1, g2, ?_⟩
          refine ⟨_, rfl, _, rfl, g, 1 + r4, _, ?_, by omega, by omega, hg5, by omega, fun H6 r7 sx6 hg6 hr6 => ?_⟩
          · show [V.ref g, V.int ((1 : Int) + (r4 : Int))] = [V.ref g, V.int ((1 + r4 : Nat) : Int)]
            rw [ei]
          · have own6 := own5.keep (kp sx6)
            obtain ⟨xs7, p7, r8, f1, f2, f3, f4, f5, f6, f7⟩ := own6.cell sh3.tri (i := r7) (j := 1 + r4) hr6 (by omega)
            have ep : p6 = p7 := by
              obtain ⟨z1, z2⟩ : H6 M = some (.lst xs6) ∧ True := ⟨kp sx6 _ _ own5.out g1, trivial⟩
              rw [z1] at f1
              have z3 := HO.lst.inj (Option.some.inj f1)
              rw [z3, f2] at g2
              exact (V.ref.inj (Option.some.inj g2)).symm
            subst ep
            have ng : g ≠ p6 := fun z => f5 (by rw [← z]; exact hg.some)
            refine ⟨p6, _, _, _, rfl, rfl, f3, f4, ?_⟩
            refine ⟨putC d r7 (1 + r4) (r5 : Int), _, _, _, rfl, ?_, ?_, f7 (r5 : Int), putC_sh sh3 (by omega) (by omega) (by omega), (putC_len _ _ _ _).trans dl⟩
            · exact (((sx3.trans sx4).trans sx5).trans sx6).in (Classical.not_not.mp f5)
            · exact (hg6.put ng).more (by omega)
      · exact ⟨d, _, _, _, rfl, sx3, hg3.more (by omega), own3, sh3, dl⟩
    · rintro σ H3 ⟨d, y4, y5, y6, rfl, sx3, hg3, own3, sh3, dl⟩
      exact ⟨_, rfl, q H3 M d sx3 (hg3.more (by omega)) own3 sh3 dl⟩
end
end Tw
set_option Elab.async false
set_option linter.all false
set_option maxRecDepth 100000
set_option maxHeartbeats 4000000
/-! companies grown -/
namespace Tw
open PySem PySem.Spec PyProof.Rows L2 TwG
def GoodV (k : Int) (c : Co) : Prop := ∀ (i : Nat) (r : List Int), c[i]? = some r → ∀ x ∈ r, 0 ≤ x ∧ x < k
theorem tie_val {k : Int} {c : Co} (tr : Tri c) (gv : GoodV k c) {i j : Nat} (ne : i ≠ j) (hi : i < c.length) (hj : j < c.length) : 0 ≤ tieC c i j ∧ tieC c i j < k := by
  obtain ⟨r, e1, e2⟩ := tie_at tr ne hi hj
  exact gv _ r e1 _ (List.mem_of_getElem? e2)
theorem tri_push {c : Co} {r : List Int} (tr : Tri c) (h : r.length = c.length) : Tri (c ++ [r]) := fun i q e => by
  by_cases hi : i < c.length
  · rw [List.getElem?_append_left hi] at e
    exact tr i q e
  · have hl := (List.getElem?_eq_some_iff.mp e).1
    rw [List.length_append, List.length_singleton] at hl
    have z : i = c.length := by omega
    subst z
    rw [List.getElem?_append_right (Nat.le_refl _), Nat.sub_self] at e
    cases e
    exact h
theorem good_push {k : Int} {c : Co} {r : List Int} (gv : GoodV k c) (h : ∀ x ∈ r, 0 ≤ x ∧ x < k) : GoodV k (c ++ [r]) := fun i q e => by
  by_cases hi : i < c.length
  · rw [List.getElem?_append_left hi] at e
    exact gv i q e
  · have hl := (List.getElem?_eq_some_iff.mp e).1
    rw [List.length_append, List.length_singleton] at hl
    have z : i = c.length := by omega
    subst z
    rw [List.getElem?_append_right (Nat.le_refl _), Nat.sub_self] at e
    cases e
    exact h
/-- a company renamed -/
def permRow (c : Co) (o : List Nat) (a : Nat) : List Int := (List.range a).map fun t => tieC c (o.getD a 0) (o.getD t 0)
def permC (c : Co) (o : List Nat) : Co := (List.range o.length).map (permRow c o)
theorem permC_sh {k : Int} {c : Co} {o : List Nat} (tr : Tri c) (gv : GoodV k c) (n1 : 1 ≤ o.length) (n2 : o.length ≤ 40) (nd : o.Nodup) (lt : ∀ x ∈ o, x < c.length) : Sh k (permC c o) := by
  have len : (permC c o).length = o.length := by unfold permC; rw [List.length_map, List.length_range]
  have row : ∀ (i : Nat) (r : List Int), (permC c o)[i]? = some r → i < o.length ∧ r = permRow c o i := by
    intro i r e
    have hi : i < o.length := by
      rw [← len]
      exact (List.getElem?_eq_some_iff.mp e).1
    unfold permC at e
    rw [List.getElem?_map, List.getElem?_range hi] at e
    exact ⟨hi, (Option.some.inj e).symm⟩
  refine ⟨by rw [len]; exact n1, by rw [len]; exact n2, fun i r e => ?_, fun i r e x hx => ?_⟩
  · obtain ⟨_, rfl⟩ := row i r e
    unfold permRow
    rw [List.length_map, List.length_range]
  · obtain ⟨hi, rfl⟩ := row i r e
    unfold permRow at hx
    obtain ⟨t, ht, rfl⟩ := List.mem_map.mp hx
    rw [List.mem_range] at ht
    have e1 : o.getD i 0 = o[i] := by rw [List.getD_eq_getElem?_getD, List.getElem?_eq_getElem hi]; rfl
    have e2 : o.getD t 0 = o[t] := by rw [List.getD_eq_getElem?_getD, List.getElem?_eq_getElem (by omega)]; rfl
    rw [e1, e2]
    refine tie_val tr gv (fun z => ?_) (lt _ (List.getElem_mem _)) (lt _ (List.getElem_mem _))
    have := (List.getElem_inj nd).mp z
    omega
theorem erase_perm {α : Type} : ∀ (l : List α) (r : Nat) (x : α), l[r]? = some x → (x :: l.eraseIdx r).Perm l
  | [], _, _, h => by simp at h
  | y :: l, 0, x, h => by
    cases h
    exact List.Perm.refl _
  | y :: l, r + 1, x, h => by
    have z := erase_perm l r x (by simpa using h)
    rw [List.eraseIdx_cons_succ]
    exact (List.Perm.swap y x _).trans (z.cons y)
theorem erase_map {α β : Type} (f : α → β) : ∀ (l : List α) (r : Nat), (l.map f).eraseIdx r = (l.eraseIdx r).map f
  | [], _ => by simp
  | y :: l, 0 => rfl
  | y :: l, r + 1 => by
    rw [List.map_cons, List.eraseIdx_cons_succ, List.eraseIdx_cons_succ, List.map_cons, erase_map f l r]
/-- a row that is being made, while the generator turns -/
def RowI (g : Addr) (H1 : Hp) (m k : Int) (D : Addr) (u : Nat) (H' : Hp) : Prop := SameX g H1 H' ∧ Gen H' g (m + (u : Nat)) ∧ ∃ l : List Int, H' D = some (rowO l) ∧ l.length = u ∧ ∀ x ∈ l, 0 ≤ x ∧ x < k
theorem RowI.start {g : Addr} {H1 : Hp} {m k : Int} {D : Addr} (hg : Gen H1 g m) (n : H1 D = none) : RowI g H1 m k D 0 (upd H1 D (.lst [])) :=
  ⟨SameX.of (same_up n), (hg.new n).more (by omega), [], upd_same, rfl, fun x hx => absurd hx List.not_mem_nil⟩
theorem RowI.step {g : Addr} {H1 : Hp} {m k : Int} {D : Addr} {u : Nat} {H2 H3 : Hp} {x : Int} (h : RowI g H1 m k D u H2) (hg : H1 g ≠ none) (n : H1 D = none) (su : u ≤ 900) (sx : SameX g H2 H3) (hg3 : Gen H3 g (m + (u : Nat) + 1)) (x0 : 0 ≤ x) (x1 : x < k) :
    ∃ acc, H3 D = some (.lst acc) ∧ acc.length < sizeLine ∧ RowI g H1 m k D (u + 1) (upd H3 D (.lst (acc ++ [.int x]))) := by
  obtain ⟨s1, g2, l, e1, e2, e3⟩ := h
  have ne : D ≠ g := fun z => hg (z ▸ n)
  refine ⟨l.map V.int, sx _ _ ne e1, ?_, ?_, ?_, l ++ [x], ?_, by rw [List.length_append, List.length_singleton, e2], ?_⟩
  · rw [List.length_map, e2]
    exact small1000 (by omega)
  · exact (s1.trans sx).in n
  · exact (hg3.put ne.symm).more (by omega)
  · rw [upd_same]
    show _ = some (HO.lst ((_ : List Int).map V.int))
    rw [List.map_append]
    rfl
  · intro y hy
    rcases List.mem_append.mp hy with z | z
    · exact e3 y z
    · rw [List.mem_singleton.mp z]
      exact ⟨x0, x1⟩
def spGrown (K : PySem.W.Frag) : Sp := fun vs H Q _ => ∃ (g : Addr) (k n : Nat) (m : Int), vs = [.ref g, cN k, cN n] ∧ 2 ≤ k ∧ k ≤ 4 ∧ 1 ≤ n ∧ n ≤ 14 ∧ Gen H g m ∧ m ≤ 100000000 ∧
  ∀ (H' : Hp) (a : Addr) (c : Co), SameX g H H' → Gen H' g (m + 500) → Own (fun b => H b ≠ none) H' a c → Sh (k : Int) c → c.length = n → Q (.ref a) H'
abbrev scAt : Scope := { kind := .function, names := [(".0", .local), ("_law_at", .cell), ("range", .globalImplicit), ("_law_order", .free), ("_law_rows", .free)], isGenerator := false, isCoroutine := false }
abbrev nGrown : List Str := ["_law_generator_here", "_law_kinds", "_law_size", "_law_rows", "_law_way", "_law_person", "_law_mate", "_law_row", "_law_order", "_law_left", "_law_turn", "_law_other", "_law_at", "_law_to"]
section
variable {P : Program} {w : World} {K : PySem.W.Frag} {mg : Str → Option Value} {base : Heap}
theorem okGrown (T : Txt K mg) : Cl P w K mg base 3 "_law_grown" (spGrown K) := by
  have c1 : Cl P w K mg base 1 "_law_tie" (spTie K) := okLTie T
  have c2 : Cl P w K mg base 2 "_law_random" spRandom := okRandom T
  refine T.dLGrown.cl cLGrown (fun vs H Q E h => ?_) (fun f cdv A outer s H vs Q E hr h => ?_)
  · obtain ⟨g, k, n, m, rfl, _⟩ := h
    rfl
  · obtain ⟨g, k, n, m, rfl, k2, k4, n1, n14, hg, hm, q⟩ := h
    refine ⟨_, pss_cons (ps_asg (pe_tup (pa_cons (pe_lst (pa_cons (pe_lst pa_nil) pa_nil)) (pa_cons (pe_c c2 hr (by rfl) (pa_cons (pv 0) (pa_cons pe_int pa_nil))) pa_nil)))
        (pg_tup rfl (pgs_cons (pg_name (i := 3) cLGrown.nd rfl (Or.inr rfl)) (pgs_cons (pg_name (i := 4) cLGrown.nd rfl (Or.inl rfl)) pgs_nil))))
      (pss_cons (ps_for PassesOwn.never rfl (pi_range2 (by rfl) T.brange (pa_cons pe_int (pa_cons (pv 2) pa_nil))) (pg_name (i := 5) cLGrown.nd rfl (Or.inl rfl))
        (pss_cons (ps_set (i := 6) cLGrown.nd rfl (.inr rfl) (pe_c c2 hr (by rfl) (pa_cons (pv 0) (pa_cons (pv 5) pa_nil))))
        (pss_one (ps_if (PW.pt (pw_or (pt_cmpR op_eq (pv 4) pe_int (nomark _)) (pw_or1 (pt_cmpR op_eq (pe_c c2 hr (by rfl) (pa_cons (pv 0) (pa_cons pe_int pa_nil))) pe_int (nomark _)))))
          (pss_one (ps_expr (pe_bm PySem.F.plainAttrs_list PySem.F.slot_list_append PySem.F.type_list_append mt_append (pv 3) (pa_cons
            (pe_lc (own := [("_law_other", 11)]) (g := gName 11) rfl cLGrown.nd (pi_range1 (by rfl) T.brange (pa_cons (pv 5) pa_nil)) (blkOk_by (own := [("_law_other", 11)]) (N := nGrown) (sc := defScope sLGrown) (by decide +kernel))
              (fun _ _ _ _ _ => pg_name (i := 11) cLGrown.nd rfl (Or.inl rfl)) (fun _ _ _ _ _ => pts_nil) (fun _ _ _ _ _ => pe_c c2 hr (by rfl) (pa_cons (pv 0) (pa_cons (pv 1) pa_nil)))) pa_nil))))
          (pss_cons (ps_setLc (i := 7) (own := [("_law_other", 11)]) (g := gName 11) rfl cLGrown.nd rfl rfl (sw_true rfl rfl rfl (by decide +kernel)) (pi_range1 (by rfl) T.brange (pa_cons (pv 5) pa_nil)) (blkOk_by (own := [("_law_other", 11)]) (N := nGrown) (sc := defScope sLGrown) (by decide +kernel))
              (fun _ _ _ _ _ => pg_name (i := 11) cLGrown.nd rfl (Or.inl rfl)) (fun _ _ _ _ _ => pts_nil) (fun _ _ _ _ _ => pe_ifExp (pt_cmpR op_ne (pv 11) (pv 6) (nomark _)) (pe_c c1 hr (by rfl) (pa_cons (pv 3) (pa_cons (pv 6) (pa_cons (pv 11) pa_nil)))) (pe_c c2 hr (by rfl) (pa_cons (pv 0) (pa_cons (pv 1) pa_nil)))))
          (pss_one (ps_expr (pe_bm PySem.F.plainAttrs_list PySem.F.slot_list_append PySem.F.type_list_append mt_append (pv 3) (pa_cons (pv 7) pa_nil)))))))))
      (pss_cons (ps_asg (pe_tup (pa_cons (pe_lst pa_nil) (pa_cons (pe_listRg rfl (by rfl) T.blist (prg_1 (by rfl) T.brange (pv 2))) pa_nil)))
        (pg_tup rfl (pgs_cons (pg_name (i := 8) cLGrown.nd rfl (Or.inr rfl)) (pgs_cons (pg_name (i := 9) cLGrown.nd rfl (Or.inl rfl)) pgs_nil))))
      (pss_cons (ps_for PassesOwn.never rfl (pi_range1 (by rfl) T.brange (pa_cons (pv 2) pa_nil)) (pg_name (i := 10) cLGrown.nd rfl (Or.inl rfl))
        (pss_one (ps_expr (pe_bm PySem.F.plainAttrs_list PySem.F.slot_list_append PySem.F.type_list_append mt_append (pv 8) (pa_cons
          (pe_bm PySem.F.plainAttrs_list PySem.F.slot_list_pop PySem.F.type_list_pop mt_popAt (pv 9) (pa_cons (pe_c c2 hr (by rfl) (pa_cons (pv 0) (pa_cons (pe_callB call_len_seq (by rfl) T.blen PySem.boot_len (pa_cons (pv 9) pa_nil)) pa_nil))) pa_nil)) pa_nil)))))
      (pss_one (ps_ret (pe_lc (own := [("_law_at", 12)]) (g := gName 12) (te := tLc (iRng1 (tCons (tVar 12) tNil)) (gName 13) tYes (tCall (spTie K) [] E0 (tCons (tVar 3) (tCons (tOp (rIxL K) (tVar 8) (tVar 12)) (tCons (tOp (rIxL K) (tVar 8) (tVar 13)) tNil)))) [13]) rfl cLGrown.nd
        (pi_range1 (by rfl) T.brange (pa_cons (pv 2) pa_nil)) (blkOk_by (own := [("_law_at", 12)]) (N := nGrown) (sc := defScope sLGrown) (by decide +kernel)) (fun _ _ _ _ _ => pg_name (i := 12) cLGrown.nd rfl (Or.inr rfl)) (fun _ _ _ _ _ => pts_nil)
        (fun _ _ _ _ _ => pe_lc (own := [("_law_to", 13)]) (g := gName 13) (te := tCall (spTie K) [] E0 (tCons (tVar 3) (tCons (tOp (rIxL K) (tVar 8) (tVar 12)) (tCons (tOp (rIxL K) (tVar 8) (tVar 13)) tNil)))) rfl cLGrown.nd
          (pi_range1 (by rfl) T.brange (pa_cons (pv 12) pa_nil)) (blkOk_by (own := [("_law_to", 13)]) (N := nGrown) (sc := relS scAt (defScope sLGrown)) (by decide +kernel)) (fun _ _ _ _ _ => pg_name (i := 13) cLGrown.nd rfl (Or.inl rfl)) (fun _ _ _ _ _ => pts_nil)
          (fun _ _ _ _ _ => pe_c c1 hr (by rfl) (pa_cons (pv 3) (pa_cons (pe_ix ix_list (pv 8) (pv 12) (fun _ _ => rfl)) (pa_cons (pe_ix ix_list (pv 8) (pv 13) (fun _ _ => rfl)) pa_nil))))))))))), ?_⟩
    refine ⟨Nat.zero_le _, fun r0 nr0 => ⟨(by show 1 ≤ sizeLine; decide), fun R nR => ?_⟩⟩
    have nR0 : H R = none := (same_up (o := .lst []) nr0).free nR
    have neR : r0 ≠ R := fun e => by
      rw [← e, upd_same] at nR
      cases nR
    have sA : Same H (upd (upd H r0 (.lst [])) R (.lst [.ref r0])) := same_new (same_up nr0) nR
    have ownA : Own (fun b => H b ≠ none) (upd (upd H r0 (.lst [])) R (.lst [.ref r0])) R [[]] := by
      refine ⟨[r0], fun z => z nR0, fun t ht z => z ?_, by simpa using neR.symm, by simp, by rw [upd_same]; rfl, (Objs.nil _).push ?_⟩
      · rw [List.mem_singleton.mp ht]
        exact nr0
      · rw [upd_ne neR, upd_same]
        rfl
    have kp : ∀ {Ha Hb : Hp}, SameX g Ha Hb → ∀ b o, ¬ (H b ≠ none) → Ha b = some o → Hb b = some o := fun {Ha Hb} sx b o n e => sx b o (fun z => n (by rw [z]; exact hg.some)) e
    refine ⟨_, rfl, g, 4, m, rfl, by omega, by omega, hg.same sA, by omega, fun H1 way sx1 hg1 hw => ⟨(by show 2 ≤ sizeLine; decide), fun T0 nT0 => ⟨T0, _, rfl, SqT.of upd_same, rfl, _, _, rfl, _, _, rfl, rfl, ?_⟩⟩⟩
    refine ⟨_, rfl, _, _, rfl, ⟨by decide, by decide, by omega, by omega⟩, for_range (lo := 1) (n := _) (fun t σ H' => ∃ (c : Co) (x5 x6 x7 : Option V), σ = [some (.ref g), some (cN k), some (cN n), some (.ref R), some (cN way), x5, x6, x7, none, none, none, none, none, none] ∧
        SameX g H H' ∧ Gen H' g (m + 1 + 20 * (t : Nat)) ∧ Own (fun b => H b ≠ none) H' R c ∧ c.length = t + 1 ∧ Tri c ∧ GoodV (k : Int) c)
      ⟨[[]], none, none, none, rfl, ((SameX.of sA).trans sx1).new nT0, (hg1.new nT0).more (by omega), (ownA.keep (kp sx1)).same (same_up nT0), rfl, fun i r e => ?_, fun i r e x hx => ?_⟩ ?_ ?_⟩
    · cases i with
      | zero =>
        cases e
        rfl
      | succ i => cases e
    · cases i with
      | zero =>
        cases e
        cases hx
      | succ i => cases e
    · rintro t σ H2 ht ⟨c, x5, x6, x7, rfl, sx2, hg2, own2, cl, tr, gv⟩
      have e1 : (1 : Int) + (t : Nat) = ((t + 1 : Nat) : Int) := by omega
      have tn : t + 1 < n := by omega
      rw [e1]
      refine ⟨_, rfl, _, rfl, g, t + 1, _, rfl, by omega, by omega, hg2, by omega, fun H3 mate sx3 hg3 hmate => ?_⟩
      have own3 := own2.keep (kp sx3)
      have fin : ∀ {H4 H5 : Hp} {D : Addr}, SameX g H3 H4 → H4 g ≠ none → H4 D = none → RowI g H4 (m + 1 + 20 * (t : Nat) + 2) k D (t + 1) H5 → ∃ l, H5 D = some (rowO l) ∧
          ∃ acc, H5 R = some (.lst acc) ∧ acc.length < sizeLine ∧ SameX g H (upd H5 R (.lst (acc ++ [.ref D]))) ∧ Gen (upd H5 R (.lst (acc ++ [.ref D]))) g (m + 1 + 20 * ((t + 1 : Nat) : Int)) ∧
            Own (fun b => H b ≠ none) (upd H5 R (.lst (acc ++ [.ref D]))) R (c ++ [l]) ∧ (c ++ [l]).length = t + 1 + 1 ∧ Tri (c ++ [l]) ∧ GoodV (k : Int) (c ++ [l]) := by
        intro H4 H5 D sx4 gs4 nD row
        obtain ⟨s1, g2, l, e1, e2, e3⟩ := row
        have own4 := own3.keep (kp sx4)
        have sx24 : SameX g H H4 := (sx2.trans sx3).trans sx4
        have nDg : D ≠ g := fun z => gs4 (z ▸ nD)
        have nD0 : H D = none := sx24.free nDg nD
        obtain ⟨acc, a1, a2, a3⟩ := own4.push (H := H5) (r := l) nD (kp s1) e1 (fun z => z nD0)
        have ngR : g ≠ R := fun z => by
          rw [← z] at nR0
          exact hg.some nR0
        refine ⟨l, e1, acc, a1, ?_, ?_, (g2.put ngR).more (by omega), a3, ?_, tri_push tr (by rw [e2, cl]), good_push gv e3⟩
        · rw [a2]
          exact small1000 (by omega)
        · exact (sx24.trans s1).in nR0
        · rw [List.length_append, List.length_singleton, cl]
      have rowC : ∀ {H4 : Hp} {D : Addr} {u : Nat} {H5 : Hp}, Gen H4 g (m + 1 + 20 * (t : Nat) + 2) → H4 D = none → u ≤ 900 → RowI g H4 (m + 1 + 20 * (t : Nat) + 2) k D u H5 →
          spRandom [.ref g, cN k] H5 (fun y H6 => ∃ acc, H6 D = some (.lst acc) ∧ acc.length < sizeLine ∧ RowI g H4 (m + 1 + 20 * (t : Nat) + 2) k D (u + 1) (upd H6 D (.lst (acc ++ [y])))) E0 := by
        intro H4 D u H5 hg4 nD hu row
        by_cases hu2 : u ≤ 900
        · refine ⟨g, k, m + 1 + 20 * (t : Nat) + 2 + (u : Nat), rfl, by omega, by omega, row.2.1, by omega, fun H6 r sx6 hg6 hr6 => ?_⟩
          exact row.step hg4.some nD hu sx6 hg6 (by omega) (by omega)
        · omega
      have first : ∀ {H4 : Hp}, SameX g H3 H4 → Gen H4 g (m + 1 + 20 * (t : Nat) + 2) → ∃ xs, H4 R = some (.lst xs) := fun {H4} sx4 hg4 => (own3.keep (kp sx4)).lst.imp fun _ h => h.1
      have one : ∀ {H4 : Hp} {y6 : Option V}, y6 = some (cN mate) → SameX g H3 H4 → Gen H4 g (m + 1 + 20 * (t : Nat) + 2) →
          tDrop (tBM K "list" rAppend (tVar 3) (tCons (tLc (iRng1 (tCons (tVar 5) tNil)) (gName 11) tYes (tCall spRandom [] E0 (tCons (tVar 0) (tCons (tVar 1) tNil))) [11]) tNil))
            { nx := fun σ H' => ∃ (c : Co) (x5 x6 x7 : Option V), σ = [some (.ref g), some (cN k), some (cN n), some (.ref R), some (cN way), x5, x6, x7, none, none, none, none, none, none] ∧
                SameX g H H' ∧ Gen H' g (m + 1 + 20 * ((t + 1 : Nat) : Int)) ∧ Own (fun b => H b ≠ none) H' R c ∧ c.length = t + 1 + 1 ∧ Tri c ∧ GoodV (k : Int) c, rt := Q }
            [some (.ref g), some (cN k), some (cN n), some (.ref R), some (cN way), some (cN (t + 1)), y6, x7, none, none, none, none, none, none] H4 := by
        intro H4 y6 ey sx4 hg4
        obtain ⟨xs, hx⟩ := first sx4 hg4
        refine ⟨_, rfl, .inl ⟨rfl, _, SqL.of hx⟩, _, rfl, _, rfl, by omega, by omega, fun D nD => lc_range (lo := 0) (n := _) (RowI g H4 (m + 1 + 20 * (t : Nat) + 2) k D) (RowI.start hg4 nD) ?_ ?_⟩
        · rintro u H5 hu row
          exact ⟨rfl, _, rfl, _, rfl, rowC hg4 nD (by omega) row⟩
        · rintro H5 row
          rw [show (((t + 1 : Nat) : Int)).toNat = t + 1 by omega] at row
          obtain ⟨l, e1, acc, a1, a2, a3, a4, a5, a6, a7, a8⟩ := fin sx4 hg4.some nD row
          exact ⟨R, acc, _, rfl, rfl, a1, a2, _, _, _, _, rfl, a3, a4, a5, a6, a7, a8⟩
      refine ⟨_, rfl, rfl, _, rfl, ite2 (fun h => ?_) (fun h => ?_)⟩
      · exact iteT (one rfl (SameX.refl g H3) (hg3.more (by omega)))
      · refine ⟨_, rfl, g, 6, _, rfl, by omega, by omega, hg3, by omega, fun H4 r4 sx4 hg4 hr4 => ⟨rfl, _, rfl, ite2 (fun h => ?_) (fun h => ?_)⟩⟩
        · exact one rfl sx4 (hg4.more (by omega))
        · have hg4' := hg4.more (n := m + 1 + 20 * (t : Nat) + 2) (by omega)
          refine ⟨_, rfl, _, rfl, by omega, by omega, fun D nD => lc_range (lo := 0) (n := _) (RowI g H4 (m + 1 + 20 * (t : Nat) + 2) k D) (RowI.start hg4' nD) ?_ ?_⟩
          · rintro u H5 hu row
            have e0 : (0 : Int) + (u : Nat) = (u : Int) := Int.zero_add _
            rw [e0]
            have own5 := (own3.keep (kp sx4)).keep (kp row.1)
            refine ⟨rfl, _, rfl, _, rfl, rfl, _, rfl, ite2 (fun h => ?_) (fun h => ?_)⟩
            · have ne : mate ≠ u := fun z => by
                rw [z, decide_eq_true rfl] at h
                cases h
              have hv := tie_val tr gv ne (by omega) (by omega)
              exact ⟨_, rfl, _, rfl, _, rfl, R, c, mate, u, rfl, own5.cm, tr, ne, by omega, by omega, row.step hg4.some nD (by omega) (SameX.refl g H5) (row.2.1.more (by omega)) hv.1 hv.2⟩
            · exact ⟨_, rfl, _, rfl, rowC hg4' nD (by omega) row⟩
          · rintro H5 row
            rw [show (((t + 1 : Nat) : Int)).toNat = t + 1 by omega] at row
            obtain ⟨l, e1, acc, a1, a2, a3, a4, a5, a6, a7, a8⟩ := fin sx4 hg4.some nD row
            exact ⟨_, rfl, .inl ⟨rfl, _, SqL.of a1⟩, _, rfl, R, acc, _, rfl, rfl, a1, a2, _, _, _, _, rfl, a3, a4, a5, a6, a7, a8⟩
    · rintro σ H3 ⟨c, x5, x6, x7, rfl, sx3, hg3, own3, cl, tr, gv⟩
      have cn : c.length = n := by omega
      refine ⟨Nat.zero_le _, fun O nO => ⟨_, rfl, _, rfl, .of_le (by omega) (by omega) (by omega) (by omega), fun L nL => ⟨(by show 2 ≤ sizeLine; decide), fun T1 nT1 => ⟨T1, _, rfl, SqT.of upd_same, rfl, _, _, rfl, _, _, rfl, rfl, ?_⟩⟩⟩⟩
      have erg : rgV 0 (n : Int) = (List.range n).map cN := by
        unfold rgV
        rw [show ((n : Int) - 0).toNat = n by omega]
        have e : (fun i : Nat => V.int (0 + (i : Int))) = cN := by
          funext i
          rw [Int.zero_add]
        rw [e]
      rw [erg] at nT1 ⊢
      have nLO : L ≠ O := fun z => by
        rw [z, upd_same] at nL
        cases nL
      have nL3 : H3 L = none := (same_up (o := .lst []) nO).free nL
      have s4 : Same H3 (upd (upd (upd H3 O (.lst [])) L (.lst ((List.range n).map cN))) T1 (.tup [.ref O, .ref L])) := same_new (same_new (same_up nO) nL) nT1
      have gO : g ≠ O := hg3.ne nO
      have gL : g ≠ L := hg3.ne nL3
      have hO0 : (upd (upd H3 O (.lst [])) L (.lst ((List.range n).map cN))) O = some (.lst ([].map cN)) := by
        rw [upd_ne nLO.symm, upd_same]
        rfl
      refine ⟨_, rfl, _, rfl, by omega, by omega, for_range (lo := 0) (n := _) (fun t σ H' => ∃ (o l : List Nat) (x10 : Option V), σ = [some (.ref g), some (cN k), some (cN n), some (.ref R), some (cN way), x5, x6, x7, some (.ref O), some (.ref L), x10, none, none, none] ∧
          SameX g H3 H' ∧ Gen H' g (m + 300 + (t : Nat)) ∧ H' O = some (.lst (o.map cN)) ∧ H' L = some (.lst (l.map cN)) ∧ o.length = t ∧ (o ++ l).Perm (List.range n))
        ⟨[], List.range n, none, rfl, SameX.of s4, (hg3.same s4).more (by omega), ?_, ?_, rfl, List.Perm.refl _⟩ ?_ ?_⟩
      · rw [upd_ne (ne_of_none hO0 nT1)]
        exact hO0
      · have hL0 : (upd (upd H3 O (.lst [])) L (.lst ((List.range n).map cN))) L = some (.lst ((List.range n).map cN)) := upd_same
        rw [upd_ne (ne_of_none hL0 nT1)]
        exact hL0
      · rintro t σ H4 ht ⟨o, l, x10, rfl, sx4, hg4, hO, hL, ol, pm⟩
        have ll : o.length + l.length = n := by
          have z := pm.length_eq
          rw [List.length_append, List.length_range] at z
          exact z
        refine ⟨_, rfl, .inl ⟨rfl, _, SqL.of hO⟩, _, rfl, .inl ⟨rfl, _, SqL.of hL⟩, _, rfl, _, rfl, L, _, rfl, .inl (SqL.of hL), g, l.length, _, ?_, by omega, by omega, hg4, by omega, fun H5 r sx5 hg5 hr5 => ?_⟩
        · rw [List.length_map]
          rfl
        · have hO5 := sx5 _ _ gO.symm hO
          have hL5 := sx5 _ _ gL.symm hL
          have hx : l[r]? = some l[r] := List.getElem?_eq_getElem hr5
          generalize l[r] = y at hx
          have hO6 : (upd H5 L (.lst ((l.map cN).eraseIdx r))) O = some (.lst (o.map cN)) := by
            rw [upd_ne nLO.symm]
            exact hO5
          refine ⟨L, _, _, r, cN y, rfl, rfl, hL5, by omega, by omega, (ixN_seq (ixN_nat (by rw [List.length_map]; exact hr5))).1, ?_, O, _, _, rfl, rfl, hO6, ?_, ?_⟩
          · rw [List.getElem?_map, hx]
            rfl
          · rw [List.length_map]
            exact small1000 (by omega)
          · refine ⟨o ++ [y], l.eraseIdx r, _, rfl, ?_, ?_, ?_, ?_, ?_, ?_⟩
            · exact ((sx4.trans sx5).in nL3).in nO
            · exact ((hg5.put gL).put gO).more (by omega)
            · rw [upd_same, List.map_append]
              rfl
            · rw [upd_ne nLO, upd_same, erase_map]
            · rw [List.length_append, List.length_singleton, ol]
            · rw [List.append_assoc]
              exact ((erase_perm l r y hx).append_left o).trans pm
      · rintro σ H4 ⟨o, l, x10, rfl, sx4, hg4, hO, hL, ol, pm⟩
        have ll : o.length + l.length = n := by
          have z := pm.length_eq
          rw [List.length_append, List.length_range] at z
          exact z
        have on : o.length = n := by omega
        have l0 : l = [] := List.eq_nil_of_length_eq_zero (by omega)
        rw [l0, List.append_nil] at pm
        have ndo : o.Nodup := pm.nodup_iff.mpr List.nodup_range
        have lto : ∀ x ∈ o, x < c.length := fun x hx => by
          rw [cn]
          exact List.mem_range.mp (pm.mem_iff.mp hx)
        have own4 := own3.keep (kp sx4)
        have atO : ∀ {i : Nat}, i < n → atI (o.map cN) (i : Int) = some (cN (o.getD i 0)) := fun {i} hi => atI_nat (by
          rw [List.getElem?_map, List.getElem?_eq_getElem (by omega), List.getD_eq_getElem?_getD, List.getElem?_eq_getElem (by omega)]
          rfl)
        have memO : ∀ {i : Nat}, i < n → o.getD i 0 ∈ o := fun {i} hi => by
          rw [List.getD_eq_getElem?_getD, List.getElem?_eq_getElem (by omega)]
          exact List.getElem_mem _
        have neO : ∀ {i j : Nat}, i < n → j < n → i ≠ j → o.getD i 0 ≠ o.getD j 0 := fun {i j} hi hj ne z => by
          rw [List.getD_eq_getElem?_getD, List.getElem?_eq_getElem (by omega), List.getD_eq_getElem?_getD, List.getElem?_eq_getElem (by omega)] at z
          exact ne ((List.getElem_inj ndo).mp z)
        have sx04 : SameX g H H4 := sx3.trans sx4
        refine ⟨_, rfl, _, rfl, by omega, by omega, fun D nD => ?_⟩
        have nDg : D ≠ g := fun z => hg4.some (z ▸ nD)
        have nD0 : H D = none := sx04.free nDg nD
        refine lc_range (lo := 0) (n := _) (fun t H' => Same H4 H' ∧ Own (fun b => H b ≠ none) H' D ((List.range t).map (permRow c o))) ⟨same_up nD, Own.nil fun z => z nD0⟩ ?_ ?_
        · rintro t H5 ht ⟨s5, own5⟩
          have e0 : (0 : Int) + (t : Nat) = (t : Int) := Int.zero_add _
          rw [e0]
          have htn : t < n := by omega
          refine ⟨rfl, _, rfl, _, rfl, by omega, by omega, fun D2 nD2 => lc_range (lo := 0) (n := _) (fun u H' => Same H5 H' ∧ H' D2 = some (rowO ((List.range u).map fun x => tieC c (o.getD t 0) (o.getD x 0)))) ⟨same_up nD2, upd_same⟩ ?_ ?_⟩
          · rintro u H6 hu ⟨s6, h6⟩
            have e1 : (0 : Int) + (u : Nat) = (u : Int) := Int.zero_add _
            rw [e1]
            have s46 := s5.trans s6
            have hO6 := s46 _ _ hO
            have hut : u < t := by omega
            refine ⟨rfl, _, rfl, _, rfl, _, rfl, O, _, _, _, rfl, rfl, SqL.of hO6, atO htn, _, rfl, _, rfl, O, _, _, _, rfl, rfl, SqL.of hO6, atO (by omega), R, c, _, _, rfl, (own4.same s46).cm, tr, neO htn (by omega) (by omega), lto _ (memO htn), lto _ (memO (by omega)), _, h6, ?_, same_in s6 nD2, ?_⟩
            · rw [List.length_map, List.length_map, List.length_range]
              exact small1000 (by omega)
            · rw [upd_same, List.range_succ, List.map_append]
              show _ = some (HO.lst ((_ : List Int).map V.int))
              rw [List.map_append]
              rfl
          · rintro H6 ⟨s6, h6⟩
            rw [show ((t : Int)).toNat = t by omega] at h6
            have nD20 : H D2 = none := (SameX.trans sx04 (SameX.of s5)).free (fun z => (hg4.same s5).some (z ▸ nD2)) nD2
            obtain ⟨acc, a1, a2, a3⟩ := own5.push (H := H6) (r := permRow c o t) nD2 (fun b o _ e => s6 b o e) h6 (fun z => z nD20)
            refine ⟨acc, a1, ?_, same_in (s5.trans s6) nD, ?_⟩
            · rw [a2, List.length_map, List.length_range]
              exact small1000 (by omega)
            · rw [List.range_succ, List.map_append]
              exact a3
        · rintro H5 ⟨s5, own5⟩
          rw [show ((n : Int)).toNat = o.length by omega] at own5
          refine q H5 D (permC c o) (sx04.trans (SameX.of s5)) ((hg4.same s5).more (by omega)) own5 (permC_sh tr gv (by omega) (by omega) ndo lto) ?_
          unfold permC
          rw [List.length_map, List.length_range, on]
end
end Tw
set_option Elab.async false
set_option linter.all false
set_option maxRecDepth 100000
set_option maxHeartbeats 4000000
/-! the plain laws: joined companies; what repr shows is short -/
namespace Tw
open PySem PySem.Spec PyProof.Rows L2 TwG
/-! ### joined companies -/
abbrev JC (c d : Co) : Prop := J c.length (tieC c) (tieC d)
theorem notAlike {c : Co} {i j : Nat} (h : alikeB c i j = false) : ¬ AlikeF c.length (tieC c) i j := fun z => by
  rw [(alikeB_iff c i j).mpr z] at h
  cases h
theorem J.lone {c d : Co} (h : JC c d) (hl : c.length = d.length) : lone c d = none := by
  unfold Tw.lone
  rw [List.find?_eq_none]
  intro p hp hb
  obtain ⟨m1, m2⟩ := couples_mem hp
  unfold loneP at hb
  rw [Bool.and_eq_true, Bool.and_eq_true, Bool.not_eq_true', Bool.not_eq_true'] at hb
  obtain ⟨h1, h2, h3⟩ := hb
  have a2 := notAlike h3
  rw [← hl] at a2
  exact J.alike (tieC_sym c) (tieC_sym d) h (Nat.lt_trans m1 m2) m2 (Nat.ne_of_lt m1) (of_decide_eq_true h1) (notAlike h2) a2
theorem lone_comm {c d : Co} (hl : c.length = d.length) : lone d c = lone c d := by
  unfold lone
  rw [hl]
  have e : loneP d c = loneP c d := by
    funext p
    unfold loneP
    rw [Bool.and_comm (!alikeB d p.1 p.2)]
    congr 1
    exact decide_eq_decide.mpr ⟨fun h z => h z.symm, fun h z => h z.symm⟩
  rw [e]
theorem word_eq {a b c a' b' c' : Int} (w : W3 a b c a' b' c') : wordL a b c = wordL a' b' c' := by
  have maj : ∀ {a b c x : Int}, Maj3 a b c x → wordL a b c = [x] := fun {a b c x} m => by
    unfold wordL
    rcases m with ⟨rfl, rfl⟩ | ⟨rfl, rfl⟩ | ⟨rfl, rfl⟩
    · rw [if_pos (.inl rfl)]
    · rw [if_pos (.inr rfl)]
    · split
      · rename_i h
        rcases h with h | h <;> rw [h]
      · rw [if_pos rfl]
  rcases w with ⟨rfl, rfl, rfl⟩ | ⟨x, m, m'⟩
  · rfl
  · rw [maj m, maj m']
theorem firm_iff (a b c d e f : Int) : firmB [a, b, c, d, e, f] = true ↔ Firm6 a b c d e f := by
  unfold firmB firmAt Firm6
  rw [List.isEmpty_iff, List.filter_eq_nil_iff]
  simp only [List.mem_cons, List.not_mem_nil, or_false, forall_eq_or_imp, forall_eq, firmP, Bool.and_eq_true, decide_eq_true_eq]
  rfl
theorem filter_map_eq {α β : Type} (p q : α → Bool) (f g : α → β) : ∀ (l : List α), (∀ x ∈ l, p x = q x ∧ (p x = true → f x = g x)) → (l.filter p).map f = (l.filter q).map g
  | [], _ => rfl
  | x :: l, h => by
    obtain ⟨h1, h2⟩ := h x List.mem_cons_self
    have ih := filter_map_eq p q f g l fun y hy => h y (List.mem_cons_of_mem _ hy)
    cases e : p x with
    | true =>
      rw [List.filter_cons_of_pos e, List.filter_cons_of_pos (h1 ▸ e), List.map_cons, List.map_cons, ih, h2 e]
    | false =>
      rw [List.filter_cons_of_neg (by rw [e]; exact Bool.false_ne_true), List.filter_cons_of_neg (by rw [← h1, e]; exact Bool.false_ne_true), ih]
theorem J.same {c d : Co} (h : JC c d) (hl : c.length = d.length) : sameB c d = true := by
  have e1 : wordsD c c.length = wordsD d c.length := by
    unfold wordsD
    congr 1
    refine List.map_congr_left fun t ht => ?_
    obtain ⟨m1, m2, m3⟩ := threes_mem ht
    unfold wordC
    rw [word_eq (h.w t.1 t.2.1 t.2.2 (by omega) (by omega) (by omega) (by omega) (by omega) (by omega))]
  have e2 : firmD c c.length = firmD d c.length := by
    unfold firmD
    congr 1
    refine filter_map_eq _ _ _ _ _ fun q hq => ?_
    obtain ⟨m1, m2, m3, m4⟩ := fours_mem hq
    have f := h.f q.1 q.2.1 q.2.2.1 q.2.2.2 (by omega) (by omega) (by omega) (by omega) (by omega) (by omega) (by omega) (by omega) (by omega) (by omega)
    have six : ∀ x : Co, sixC x q = [tieC x q.1 q.2.1, tieC x q.1 q.2.2.1, tieC x q.1 q.2.2.2, tieC x q.2.1 q.2.2.1, tieC x q.2.1 q.2.2.2, tieC x q.2.2.1 q.2.2.2] := fun _ => rfl
    unfold firmC itemD
    rcases f with ⟨f1, f2, f3, f4, f5, f6⟩ | ⟨f1, f2⟩
    · have e : sixC c q = sixC d q := by rw [six, six, f1, f2, f3, f4, f5, f6]
      rw [e]
      exact ⟨rfl, fun _ => rfl⟩
    · have a1 : firmB (sixC c q) = false := by
        rw [six, ← Bool.not_eq_true]
        exact fun z => f1 ((firm_iff _ _ _ _ _ _).mp z)
      have a2 : firmB (sixC d q) = false := by
        rw [six, ← Bool.not_eq_true]
        exact fun z => f2 ((firm_iff _ _ _ _ _ _).mp z)
      rw [a1, a2]
      exact ⟨rfl, fun z => by cases z⟩
  unfold sameB
  rw [e1, e2, SeqAt.eqv_refl _ (lay_words d _).lay, SeqAt.eqv_refl _ (lay_firm d _).lay]
  rfl
/-! ### couples that differ -/
theorem couples_nodup (n : Nat) : (couples n).Nodup := by
  unfold couples couplesTo
  rw [List.Nodup, List.pairwise_flatMap]
  refine ⟨fun i _ => ?_, ?_⟩
  · unfold rowC
    rw [List.pairwise_map]
    refine List.Pairwise.imp ?_ (List.nodup_range (n := n - (i + 1)))
    intro a b ne z
    have := congrArg Prod.snd z
    exact ne (by simpa using this)
  · refine List.Pairwise.imp ?_ (List.nodup_range (n := n))
    intro a b ne x hx y hy z
    unfold rowC at hx hy
    obtain ⟨_, _, rfl⟩ := List.mem_map.mp hx
    obtain ⟨_, _, rfl⟩ := List.mem_map.mp hy
    exact ne (congrArg Prod.fst z)
theorem filter_less {α : Type} (p q : α → Bool) (x : α) : ∀ (l : List α), l.Nodup → x ∈ l → p x = true → q x = false → (∀ y ∈ l, y ≠ x → q y = p y) → (l.filter q).length + 1 = (l.filter p).length
  | [], _, h, _, _, _ => by cases h
  | y :: l, nd, h, px, qx, e => by
    obtain ⟨n1, n2⟩ := List.nodup_cons.mp nd
    rcases List.mem_cons.mp h with rfl | h
    · have z : l.filter q = l.filter p := List.filter_congr fun u hu => e u (List.mem_cons_of_mem _ hu) fun w => n1 (w ▸ hu)
      rw [List.filter_cons_of_pos px, List.filter_cons_of_neg (by rw [qx]; exact Bool.false_ne_true), z, List.length_cons]
    · have ne : y ≠ x := fun w => n1 (w ▸ h)
      have ih := filter_less p q x l n2 h px qx fun u hu => e u (List.mem_cons_of_mem _ hu)
      have ey := e y List.mem_cons_self ne
      cases z : p y with
      | true =>
        rw [List.filter_cons_of_pos z, List.filter_cons_of_pos (ey.trans z), List.length_cons, List.length_cons, ih]
      | false =>
        rw [List.filter_cons_of_neg (by rw [ey, z]; exact Bool.false_ne_true), List.filter_cons_of_neg (by rw [z]; exact Bool.false_ne_true), ih]
theorem diff_put1 {c d : Co} {p : Nat × Nat} (tr : Tri c) (hp : p ∈ couples c.length) (h : diffP c d p = true) : (diff (putC c p.1 p.2 (tieC d p.1 p.2)) d).length + 1 = (diff c d).length := by
  obtain ⟨m1, m2⟩ := couples_mem hp
  unfold diff
  rw [putC_len]
  refine filter_less _ _ p _ (couples_nodup _) hp h ?_ fun y hy ne => ?_
  · unfold diffP
    rw [putC_at tr m1 m2]
    exact decide_eq_false fun z => z rfl
  · obtain ⟨l1, l2⟩ := couples_mem hy
    unfold diffP
    rw [(putC_step (v := tieC d p.1 p.2) m1 m2).keep y.1 y.2 (by omega) (fun z => ne (Prod.ext z.1 z.2)) (fun z => by omega)]
theorem diff_put2 {c d : Co} {p : Nat × Nat} (tr : Tri d) (hl : c.length = d.length) (hp : p ∈ couples c.length) (h : diffP c d p = true) : (diff c (putC d p.1 p.2 (tieC c p.1 p.2))).length + 1 = (diff c d).length := by
  obtain ⟨m1, m2⟩ := couples_mem hp
  unfold diff
  refine filter_less _ _ p _ (couples_nodup _) hp h ?_ fun y hy ne => ?_
  · unfold diffP
    rw [putC_at tr m1 (hl ▸ m2)]
    exact decide_eq_false fun z => z rfl
  · obtain ⟨l1, l2⟩ := couples_mem hy
    unfold diffP
    rw [(putC_step (v := tieC c p.1 p.2) m1 (hl ▸ m2)).keep y.1 y.2 (by omega) (fun z => ne (Prod.ext z.1 z.2)) (fun z => by omega)]
/-! ### what repr shows -/
structure Sm (m b : Nat) (d : PyData) : Prop where
  sh : d.showable = true
  nd : d.hasDict = false
  len : d.shown.length ≤ b
  dep : d.depth ≤ m
theorem shown_map : ∀ ds : List PyData, PyData.shownAll ds = ds.map PyData.shown
  | [] => by simp only [PyData.shownAll, List.map_nil]
  | d :: ds => by simp only [PyData.shownAll, List.map_cons, shown_map ds]
theorem listText_le (ts : List Str) : (listText ts).length ≤ piled ts + 2 := by
  cases ts with
  | nil => decide +kernel
  | cons t r =>
    have h := textFrom_length_pos r 1 (("[" : Str) ++ (if (0 : Nat) > 0 then ", " else "" : String) ++ t) (Nat.succ_pos 0)
    have e : ((("[" : Str) ++ (if (0 : Nat) > 0 then ", " else "" : String) ++ t)).length = 1 + t.length := by
      rw [strLen_append, strLen_append]
      rfl
    have hX : (listText (t :: r)).length = (textFrom 0 "[" (t :: r)).length + 1 := by
      unfold listText
      rw [strLen_append]
      rfl
    have hY : (textFrom 0 "[" (t :: r)).length = (textFrom 1 (("[" : Str) ++ (if (0 : Nat) > 0 then ", " else "" : String) ++ t) r).length := rfl
    rw [hX, hY, h, e, piled_cons]
    omega
theorem sm_all {m b : Nat} : ∀ ds : List PyData, (∀ d ∈ ds, Sm m b d) → PyData.showableAll ds = true ∧ PyData.hasDictAll ds = false ∧ piled (PyData.shownAll ds) ≤ ds.length * (b + 2) ∧ PyData.depthAll ds ≤ m
  | [], _ => ⟨by simp only [PyData.showableAll], by simp only [PyData.hasDictAll], by simp only [PyData.shownAll, piled_nil]; exact Nat.zero_le _, by simp only [PyData.depthAll]; exact Nat.zero_le _⟩
  | d :: ds, h => by
    have h1 := h d List.mem_cons_self
    obtain ⟨a, b', c, e⟩ := sm_all ds fun x hx => h x (List.mem_cons_of_mem _ hx)
    refine ⟨by simp only [PyData.showableAll, h1.sh, a, Bool.and_self], by simp only [PyData.hasDictAll, h1.nd, b', Bool.or_self], ?_, ?_⟩
    · simp only [PyData.shownAll]
      rw [piled_cons, List.length_cons, Nat.succ_mul]
      have := h1.len
      omega
    · simp only [PyData.depthAll]
      exact Nat.max_le.mpr ⟨h1.dep, e⟩
theorem Sm.list {m b : Nat} {ds : List PyData} (h : ∀ d ∈ ds, Sm m b d) : Sm (m + 1) (ds.length * (b + 2) + 2) (.list ds) := by
  obtain ⟨h1, h2, h3, h4⟩ := sm_all ds h
  refine ⟨by simp only [PyData.showable]; exact h1, by simp only [PyData.hasDict]; exact h2, ?_, by simp only [PyData.depth]; exact Nat.succ_le_succ h4⟩
  simp only [PyData.shown]
  have z := listText_le (PyData.shownAll ds)
  omega
theorem Sm.tuple {m b : Nat} {ds : List PyData} (h : ∀ d ∈ ds, Sm m b d) : Sm (m + 1) (ds.length * (b + 2) + 2) (.tuple ds) := by
  obtain ⟨h1, h2, h3, h4⟩ := sm_all ds h
  refine ⟨by simp only [PyData.showable]; exact h1, by simp only [PyData.hasDict]; exact h2, ?_, by simp only [PyData.depth]; exact Nat.succ_le_succ h4⟩
  simp only [PyData.shown]
  have z := fmt_text (PyData.shownAll ds)
  omega
theorem Sm.more {m b n b' : Nat} {d : PyData} (h : Sm m b d) (h1 : m ≤ n) (h2 : b ≤ b') : Sm n b' d := ⟨h.sh, h.nd, Nat.le_trans h.len h2, Nat.le_trans h.dep h1⟩
theorem int_short : ∀ i : Nat, i < 50 → ((toString ((i : Nat) : Int) : String) : Str).length ≤ 2 := by decide +kernel
theorem Sm.int {i : Nat} (h : i < 50) : Sm 0 2 (.int (i : Int)) := by
  refine ⟨?_, by simp only [PyData.hasDict], ?_, by simp only [PyData.depth]; exact Nat.le_refl _⟩
  · simp only [PyData.showable]
    rw [decide_eq_true_eq, Int.natAbs_natCast]
    have := Nat.log2_le_self i
    omega
  · simp only [PyData.shown]
    exact int_short i h
theorem Sm.non : Sm 0 4 .none := ⟨by simp only [PyData.showable], by simp only [PyData.hasDict], by simp only [PyData.shown]; decide +kernel, by simp only [PyData.depth]; exact Nat.le_refl _⟩
theorem Sm.co {k : Int} {c : Co} (sh : Sh k c) (hk : k ≤ 9) : Sm 2 6562 (coD c) := by
  have row : ∀ d ∈ c.map intsD, Sm 1 162 d := by
    intro d hd
    obtain ⟨r, hr, rfl⟩ := List.mem_map.mp hd
    obtain ⟨i, hi⟩ := List.getElem?_of_mem hr
    have hl := sh.row i r hi
    have hi2 := (List.getElem?_eq_some_iff.mp hi).1
    have n2 := sh.n2
    refine (Sm.list (m := 0) (b := 2) fun e he => ?_).more (Nat.le_refl _) ?_
    · obtain ⟨x, hx, rfl⟩ := List.mem_map.mp he
      obtain ⟨v0, v1⟩ := sh.val i r hi x hx
      obtain ⟨y, rfl⟩ := Int.eq_ofNat_of_zero_le v0
      exact Sm.int (by omega)
    · rw [List.length_map]
      omega
  have n2 := sh.n2
  refine (Sm.list row).more (Nat.le_refl _) ?_
  rw [List.length_map]
  omega
def loneD : Option (Nat × Nat) → PyData
  | none => .none
  | some q => .tuple [.int (q.1 : Int), .int (q.2 : Int)]
theorem Sm.lone {o : Option (Nat × Nat)} (h : ∀ q, o = some q → q.1 < 50 ∧ q.2 < 50) : Sm 1 10 (loneD o) := by
  cases o with
  | none => exact Sm.non.more (by decide) (by decide)
  | some q =>
    obtain ⟨h1, h2⟩ := h q rfl
    refine (Sm.tuple (m := 0) (b := 2) (ds := [.int (q.1 : Int), .int (q.2 : Int)]) fun d hd => ?_).more (Nat.le_refl _) (by show 2 * 4 + 2 ≤ 10; decide)
    rcases List.mem_cons.mp hd with rfl | hd
    · exact Sm.int h1
    · rw [List.mem_singleton.mp hd]
      exact Sm.int h2
theorem LoneV.dp {K : PySem.W.Frag} {H : Hp} {v : V} : ∀ {o : Option (Nat × Nat)}, LoneV H v o → Dp K H v (loneD o) ∧ (loneD o = .none ∨ ∃ p, v = .ref p)
  | none, h => by
    cases h
    exact ⟨.non, .inl rfl⟩
  | some q, h => by
    obtain ⟨p, rfl, hp⟩ := h
    exact ⟨.tup (SqT.of hp) (.cons (.int _) (.cons (.int _) .nil)), .inr ⟨p, rfl⟩⟩
end Tw
set_option Elab.async false
set_option linter.all false
set_option maxRecDepth 100000
set_option maxHeartbeats 4000000
/-! both ways about the same couple; a road of deeds -/
namespace Tw
open PySem PySem.Spec PyProof.Rows L2 TwG
def spPair (K : PySem.W.Frag) : Sp := fun vs H Q _ => ∃ (k : Nat) (a b : Addr) (c d : Co), vs = [cN k, .ref a, .ref b] ∧ 2 ≤ k ∧ k ≤ 9 ∧ Cm K H a c ∧ Sh (k : Int) c ∧ Cm K H b d ∧ Sh (k : Int) d ∧ c.length = d.length ∧ ∀ H', Same H H' → Q (.bl true) H'
def spRoad (K : PySem.W.Frag) : Sp := fun vs H Q _ => ∃ (k : Nat) (a b : Addr) (c d : Co), vs = [cN k, .ref a, .ref b] ∧ 2 ≤ k ∧ k ≤ 9 ∧ Cm K H a c ∧ Sh (k : Int) c ∧ Cm K H b d ∧ Sh (k : Int) d ∧ c.length = d.length ∧ JC c d ∧ ∀ H', Same H H' → Q (.bl true) H'
theorem lone_small {c d : Co} (h : c.length ≤ 40) : ∀ q, lone c d = some q → q.1 < 50 ∧ q.2 < 50 := fun q e => by
  obtain ⟨m1, m2⟩ := couples_mem (List.mem_of_find?_eq_some e)
  exact ⟨by omega, by omega⟩
theorem sm_two {k : Int} {c d : Co} (sh : Sh k c) (sh2 : Sh k d) (hk : k ≤ 9) : Sm 3 13130 (.list [coD c, coD d]) := by
  refine (Sm.list (m := 2) (b := 6562) fun e he => ?_).more (Nat.le_refl _) (by show 2 * 6564 + 2 ≤ 13130; decide)
  rcases List.mem_cons.mp he with rfl | he
  · exact Sm.co sh hk
  · rw [List.mem_singleton.mp he]
    exact Sm.co sh2 hk
section
variable {P : Program} {w : World} {K : PySem.W.Frag} {mg : Str → Option Value} {base : Heap}
theorem okPair (T : Txt K mg) : ClG P w K mg base 8 "_law_pair_right" (spPair K) := by
  have c1 : Cl P w K mg base 3 "_law_due" (spDue K) := okDue T
  have c2 : Cl P w K mg base 7 "lone_couple" (spLone K) := okLone T
  refine T.dLPairRight.clG cLPairRight (fun vs H Q E h => ?_) (fun f cdv A outer s H vs Q E hgd hr h => ?_)
  · obtain ⟨k, a, b, c, d, rfl, _⟩ := h
    rfl
  · obtain ⟨k, a, b, c, d, rfl, k2, k9, hC, sh, hD, sh2, hl, q⟩ := h
    refine ⟨_, pss_cons (ps_par (i := 3) (j := 4) (by rfl) cLPairRight.nd rfl rfl (by decide) rfl rfl (pa_cons (pe_c c1 hr (by rfl) (pa_cons (pv 1) (pa_cons (pv 2) pa_nil)))
        (pa_cons (pe_callB (call_repr hgd hr.units) (by rfl) T.brepr boot_repr (pa_cons (pe_lst (pa_cons (pv 1) (pa_cons (pv 2) pa_nil))) pa_nil)) pa_nil)) (by rfl))
      (pss_cons (ps_if (PW.pt (pw_or (pt_cmpR op_ne (pe_callB (call_repr hgd hr.units) (by rfl) T.brepr boot_repr (pa_cons (pe_c c2 hr (by rfl) (pa_cons (pv 0) (pa_cons (pv 1) (pa_cons (pv 2) pa_nil)))) pa_nil)) (pe_callB (call_repr hgd hr.units) (by rfl) T.brepr boot_repr (pa_cons (pv 3) pa_nil)) (nomark _))
        (pw_or1 (pt_cmpR op_ne (pe_callB (call_repr hgd hr.units) (by rfl) T.brepr boot_repr (pa_cons (pe_c c2 hr (by rfl) (pa_cons (pv 0) (pa_cons (pv 2) (pa_cons (pv 1) pa_nil)))) pa_nil)) (pe_callB (call_repr hgd hr.units) (by rfl) T.brepr boot_repr (pa_cons (pv 3) pa_nil)) (nomark _)))))
        (pss_one (ps_ret pe_bl)) pss_nil)
      (pss_one (ps_ret (pe_cmpR op_eq (pe_callB (call_repr hgd hr.units) (by rfl) T.brepr boot_repr (pa_cons (pe_lst (pa_cons (pv 1) (pa_cons (pv 2) pa_nil))) pa_nil)) (pv 4) (nomark _))))), ?_⟩
    have two := sm_two sh sh2 (by omega)
    have small := Sm.lone (lone_small (d := d) sh.n2)
    have z1 : (PyData.list [coD c, coD d]).shown.length ≤ sizeLine := Nat.le_trans two.len (by rw [sizeLine_eq]; decide)
    have z2 : (loneD (lone c d)).shown.length ≤ sizeLine := Nat.le_trans small.len (by rw [sizeLine_eq]; decide)
    have dep1 : (PyData.list [coD c, coD d]).depth ≤ 20 := Nat.le_trans two.dep (by decide)
    have dep2 : (loneD (lone c d)).depth ≤ 20 := Nat.le_trans small.dep (by decide)
    have pair : ∀ {H1 : Hp} {p : Addr}, Same H H1 → H1 p = none → Dp K (upd H1 p (.lst [.ref a, .ref b])) (.ref p) (.list [coD c, coD d]) := fun {H1 p} s1 np =>
      .lst (SqL.of upd_same) (.cons (hC.same (same_new s1 np)).dp (.cons (hD.same (same_new s1 np)).dp .nil))
    refine ⟨_, rfl, _, rfl, k, a, b, c, d, rfl, hC, sh, hD, sh2, hl, fun H1 v s1 lv => ?_⟩
    refine ⟨_, rfl, _, rfl, (by show 2 ≤ sizeLine; decide), fun p np => ⟨_, _, rfl, pair s1 np, two.sh, two.nd, z1, dep1, .inr ⟨_, rfl⟩, _, _, rfl, ?_⟩⟩
    have s2 := same_new s1 (o := .lst [.ref a, .ref b]) np
    have dv := lv.dp (K := K)
    have dv2 := dp_same (same_up (o := .lst [.ref a, .ref b]) np) _ _ dv.1
    refine ⟨_, rfl, _, rfl, _, rfl, k, a, b, c, d, rfl, by omega, by omega, hC.same s2, sh, hD.same s2, sh2, hl, fun H3 v3 s3 lv3 => ?_⟩
    have dv3 := lv3.dp (K := K)
    refine ⟨_, _, rfl, dv3.1, small.sh, small.nd, z2, dep2, dv3.2, _, rfl, _, _, rfl, dp_same s3 _ _ dv2, small.sh, small.nd, z2, dep2, dv.2, rfl, _, rfl, iteNS rfl ?_⟩
    have s4 := s2.trans s3
    refine ⟨_, rfl, _, rfl, _, rfl, k, b, a, d, c, rfl, by omega, by omega, hD.same s4, sh2, hC.same s4, sh, hl.symm, fun H5 v5 s5 lv5 => ?_⟩
    rw [lone_comm hl] at lv5
    have dv5 := lv5.dp (K := K)
    refine ⟨_, _, rfl, dv5.1, small.sh, small.nd, z2, dep2, dv5.2, _, rfl, _, _, rfl, dp_same (s3.trans s5) _ _ dv2, small.sh, small.nd, z2, dep2, dv.2, rfl, _, rfl, iteNS rfl ?_⟩
    have s6 := s4.trans s5
    refine ⟨_, rfl, _, rfl, (by show 2 ≤ sizeLine; decide), fun p2 np2 => ⟨_, _, rfl, pair s6 np2, two.sh, two.nd, z1, dep1, .inr ⟨_, rfl⟩, _, rfl, rfl, qT (q _ (same_new s6 np2)) (decide_eq_true rfl)⟩⟩
theorem seq_par {t1 t2 : TE} {i j : Nat} {rest : TS} {D : Ends} {σ : L2.St} {H : Hp} (h : t1 σ H fun x H1 => t2 σ H1 fun y H2 => ∃ v w, [x, y] = [v, w] ∧ rest D ((σ.set i (some v)).set j (some w)) H2) :
    tSeq (tPar i j (tCons t1 (tCons t2 tNil))) rest D σ H := h
theorem couplesTo_len2 (n : Nat) : ∀ t, (couplesTo n t).length ≤ t * (n - 1)
  | 0 => by simp [couplesTo]
  | t + 1 => by
    rw [couplesTo_succ, List.length_append, rowC_len, Nat.succ_mul]
    have z := couplesTo_len2 n t
    omega
theorem diff_few {c d : Co} (h : 1 ≤ c.length) : (diff c d).length ≤ c.length * c.length - 1 := by
  have z1 := List.length_filter_le (diffP c d) (couples c.length)
  have z2 : (couples c.length).length ≤ c.length * (c.length - 1) := couplesTo_len2 c.length c.length
  have z3 : c.length * (c.length - 1) + c.length = c.length * c.length := by
    rw [← Nat.mul_succ]
    congr 1
    omega
  show ((couples c.length).filter (diffP c d)).length ≤ _
  omega
theorem Step.any {n m : Nat} {u v : Tie} {p q : Nat} (h : Step n u v p q) : Step m u v p q := ⟨h.sv, h.keep⟩
/-- couples as data -/
theorem couples_data {H : Hp} {p : Addr} {l : List (Nat × Nat)} (h : LO H p (l.map cpO)) : Dp K H (.ref p) (.list (l.map fun q => .tuple [.int (q.1 : Int), .int (q.2 : Int)])) := by
  obtain ⟨ts, h1, _, h2⟩ := h
  refine .lst (SqL.of h1) (dpa_of _ _ _ (by rw [List.length_map, h2.1, List.length_map]) fun i v q e1 e2 => ?_)
  obtain ⟨t, ht, rfl⟩ := at_ref e1
  have e3 : H t = some (cpO q) := h2.2 i t _ ht (by
    rw [List.getElem?_map, e2]
    rfl)
  exact .tup (SqT.of e3) (.cons (.int _) (.cons (.int _) .nil))
theorem lay_couples (l : List (Nat × Nat)) : Lay 2 (.list (l.map fun q => .tuple [.int (q.1 : Int), .int (q.2 : Int)])) := .list fun d hd => by
  obtain ⟨q, _, rfl⟩ := List.mem_map.mp hd
  refine .tuple fun e he => ?_
  rcases List.mem_cons.mp he with rfl | he
  · exact .int 0 _
  · rw [List.mem_singleton.mp he]
    exact .int 0 _
theorem Own.here {S : Addr → Prop} {H : Hp} {a : Addr} {c : Co} (h : Own S H a c) : Own (fun b => S b ∨ H b = none) H a c := by
  obtain ⟨ts, h1, h2, h3, h4, h5, h6⟩ := h
  refine ⟨ts, ?_, fun t ht => ?_, h3, h4, h5, h6⟩
  · rintro (z | z)
    · exact h1 z
    · rw [h5] at z
      cases z
  · rintro (z | z)
    · exact h2 t ht z
    · obtain ⟨i, hi⟩ := List.getElem?_of_mem ht
      have hl := (List.getElem?_eq_some_iff.mp hi).1
      rw [h6.1] at hl
      have e := h6.2 i t _ hi (List.getElem?_eq_getElem hl)
      rw [e] at z
      cases z
theorem okRoad (T : Txt K mg) : Cl P w K mg base 8 "_law_road_right" (spRoad K) := by
  have c1 : Cl P w K mg base 7 "differing" (spDiff K) := okDiff T
  have c2 : Cl P w K mg base 7 "lone_couple" (spLone K) := okLone T
  have c3 : Cl P w K mg base 7 "same_words" (spSame K) := okSame T
  have c4 : Cl P w K mg base 2 "_law_alike" (spAlike K) := okLAlike T
  refine T.dLRoadRight.cl cLRoadRight (fun vs H Q E h => ?_) (fun f cdv A outer s H vs Q E hr h => ?_)
  · obtain ⟨k, a, b, c, d, rfl, _⟩ := h
    rfl
  · obtain ⟨k, a, b, c, d, rfl, k2, k9, hC, sh, hD, sh2, hl, jj, q⟩ := h
    refine ⟨_, pss_cons (ps_par (i := 3) (j := 4) (by rfl) cLRoadRight.nd rfl rfl (by decide) rfl rfl
        (pa_cons (pe_lc (own := [("_law_row", 9)]) (g := gName 9) (te := tCB (rListOf K) (tCons (tVar 9) tNil)) rfl cLRoadRight.nd (pi_list (pv 1))
            (blkOk_by (own := [("_law_row", 9)]) (N := ["_law_kinds", "_law_rows", "_law_other", "_law_one", "_law_two", "_law_turn", "_law_couples_here", "_law_low", "_law_high", "_law_row"]) (sc := defScope sLRoadRight) (by decide +kernel))
            (fun _ _ _ _ _ => pg_name (i := 9) cLRoadRight.nd rfl (Or.inl rfl)) (fun _ _ _ _ _ => pts_nil) (fun _ _ _ _ _ => pe_callTy call_list_of (by rfl) T.blist boot_list (pa_cons (pv 9) pa_nil)))
          (pa_cons (pe_lc (own := [("_law_row", 9)]) (g := gName 9) (te := tCB (rListOf K) (tCons (tVar 9) tNil)) rfl cLRoadRight.nd (pi_list (pv 2))
            (blkOk_by (own := [("_law_row", 9)]) (N := ["_law_kinds", "_law_rows", "_law_other", "_law_one", "_law_two", "_law_turn", "_law_couples_here", "_law_low", "_law_high", "_law_row"]) (sc := defScope sLRoadRight) (by decide +kernel))
            (fun _ _ _ _ _ => pg_name (i := 9) cLRoadRight.nd rfl (Or.inl rfl)) (fun _ _ _ _ _ => pts_nil) (fun _ _ _ _ _ => pe_callTy call_list_of (by rfl) T.blist boot_list (pa_cons (pv 9) pa_nil))) pa_nil)) (by rfl))
      (pss_cons (ps_for PassesOwn.never rfl (pi_range1 (by rfl) T.brange (pa_cons (pe_op op_mul (pe_callB call_len_seq (by rfl) T.blen PySem.boot_len (pa_cons (pv 1) pa_nil)) (pe_callB call_len_seq (by rfl) T.blen PySem.boot_len (pa_cons (pv 1) pa_nil))) pa_nil))
          (pg_name (i := 5) cLRoadRight.nd rfl (Or.inl rfl))
        (pss_cons (ps_set (i := 6) cLRoadRight.nd rfl (.inl rfl) (pe_c c1 hr (by rfl) (pa_cons (pv 0) (pa_cons (pv 3) (pa_cons (pv 4) pa_nil)))))
        (pss_cons (ps_if (pt_cmpR (op_eqD hr.units) (pv 6) (pe_lst pa_nil) (nomark _)) (pss_one (ps_ret pe_bl)) pss_nil)
        (pss_cons (ps_if (pt_cmpR op_notN (pe_c c2 hr (by rfl) (pa_cons (pv 0) (pa_cons (pv 3) (pa_cons (pv 4) pa_nil)))) pe_non (nomark _)) (pss_one (ps_ret pe_bl)) pss_nil)
        (pss_cons (ps_asg (pe_ix ix_list (pv 6) pe_int (fun _ _ => rfl)) (pg_tup rfl (pgs_cons (pg_name (i := 7) cLRoadRight.nd rfl (Or.inl rfl)) (pgs_cons (pg_name (i := 8) cLRoadRight.nd rfl (Or.inl rfl)) pgs_nil))))
        (pss_cons (ps_if (pt_val (pe_c c4 hr (by rfl) (pa_cons (pv 3) (pa_cons (pv 7) (pa_cons (pv 8) pa_nil)))))
          (pss_one (ps_asg (pe_ix ix_list (pe_ix ix_list (pv 4) (pv 8) (fun _ _ => rfl)) (pv 7) (fun _ _ => rfl)) (pg_sub (pe_ix ix_list (pv 3) (pv 8) (fun _ _ => rfl)) (pv 7) set_list)))
          (pss_one (ps_asg (pe_ix ix_list (pe_ix ix_list (pv 3) (pv 8) (fun _ _ => rfl)) (pv 7) (fun _ _ => rfl)) (pg_sub (pe_ix ix_list (pv 4) (pv 8) (fun _ _ => rfl)) (pv 7) set_list))))
        (pss_one (ps_if (PW.pt (pw_or (pt_cmpR op_ne (pe_callB call_len_seq (by rfl) T.blen PySem.boot_len (pa_cons (pe_c c1 hr (by rfl) (pa_cons (pv 0) (pa_cons (pv 3) (pa_cons (pv 4) pa_nil)))) pa_nil))
            (pe_op op_sub (pe_callB call_len_seq (by rfl) T.blen PySem.boot_len (pa_cons (pv 6) pa_nil)) pe_int) (nomark _))
            (pw_or1 (pt_cmpR op_notBl (pe_c c3 hr (by rfl) (pa_cons (pv 0) (pa_cons (pv 3) (pa_cons (pv 1) pa_nil)))) pe_bl (nomark _))))) (pss_one (ps_ret pe_bl)) pss_nil))))))))
      (pss_one (ps_ret pe_bl))), ?_⟩
    have n40 := sh.n2
    have sh1 := sh.n1
    refine seq_par (copy_read rfl (by show 9 < 10; decide) hC n40 fun H1 M s1 nM own1 => copy_read rfl (by show 9 < 10; decide) (hD.same s1) (hl ▸ n40) fun H2 M2 s2 nM2 own2 => ⟨_, _, rfl, ?_⟩)
    have s12 : Same H H2 := s1.trans s2
    have own1' := own1.here.same s2
    obtain ⟨xs, hS, hxl⟩ := len_of (hC.same s12)
    have nn : 1 ≤ c.length * c.length := Nat.mul_pos sh1 sh1
    have nn2 : c.length * c.length ≤ 40 * 40 := Nat.mul_le_mul n40 n40
    have enn : ((xs.length : Nat) : Int) * ((xs.length : Nat) : Int) = ((c.length * c.length : Nat) : Int) := by
      rw [hxl, Int.natCast_mul]
    have d0 : (diff c d).length ≤ c.length * c.length - 1 := diff_few sh1
    refine ⟨_, rfl, a, _, rfl, .inl hS, _, rfl, a, _, rfl, .inl hS, _, _, rfl, rfl, .inl ⟨by omega, by omega⟩, _, rfl, ?_, ?_, ?_⟩
    · rw [enn]
      omega
    · rw [enn]
      omega
    · rw [enn]
      refine for_range (lo := 0) (n := _) (fun t σ H' => ∃ (c' d' : Co) (x5 x6 x7 x8 x9 : Option V), σ = [some (cN k), some (.ref a), some (.ref b), some (.ref M), some (.ref M2), x5, x6, x7, x8, x9] ∧ Same H H' ∧
          Own (fun b => H b ≠ none ∨ H1 b = none) H' M c' ∧ Own (fun b => H1 b ≠ none) H' M2 d' ∧ Sh (k : Int) c' ∧ Sh (k : Int) d' ∧ c'.length = c.length ∧ d'.length = c.length ∧
          J c.length (tieC c) (tieC c') ∧ J c.length (tieC c') (tieC d') ∧ (diff c' d').length + t ≤ c.length * c.length - 1)
        ⟨c, d, none, none, none, none, none, rfl, s12, own1', own2, sh, sh2, rfl, hl.symm, J.refl _ _, jj, by omega⟩ ?_ ?_
      · rintro t σ H3 ht ⟨c', d', x5, x6, x7, x8, x9, rfl, s3, o1, o2, sh3, sh4, l1, l2, j1, j2, dl⟩
        have l12 : c'.length = d'.length := by omega
        have j2' : JC c' d' := by
          show J c'.length _ _
          rw [l1]
          exact j2
        refine ⟨_, rfl, _, rfl, _, rfl, k, M, M2, c', d', rfl, by omega, by omega, o1.cm, sh3, o2.cm, sh4, l12, fun H4 p s4 np lo => ?_⟩
        have cd := couples_data (K := K) lo
        refine ⟨_, rfl, Nat.zero_le _, fun p2 np2 => ?_⟩
        have s5 : Same H3 (upd H4 p2 (.lst [])) := same_new s4 np2
        refine ⟨_, .list [], dp_same (same_up np2) _ _ cd, .lst (SqL.of upd_same) .nil, (lay_couples _).shaped, (Lay.nil 0).shaped, _, rfl, ?_⟩
        rw [eqv_nil]
        cases ed : diff c' d' with
        | nil => exact iteT (q _ (s3.trans s5))
        | cons u rest =>
          refine iteF ?_
          refine ⟨_, rfl, _, rfl, _, rfl, k, M, M2, c', d', rfl, by omega, by omega, (o1.same s5).cm, sh3, (o2.same s5).cm, sh4, l12, fun H5 v s6 lv => ?_⟩
          rw [j2'.lone l12] at lv
          have ev : v = .non := lv
          subst ev
          refine ⟨rfl, _, rfl, iteF ?_⟩
          have hu : u ∈ diff c' d' := by
            rw [ed]
            exact List.mem_cons_self
          have hu2 : u ∈ couples c'.length ∧ diffP c' d' u = true := List.mem_filter.mp hu
          obtain ⟨m1, m2⟩ := couples_mem hu2.1
          have sp : Same H4 H5 := (same_up np2).trans s6
          obtain ⟨ts, ht1, _, ht2⟩ := lo.same sp
          rw [ed] at ht2
          obtain ⟨t0, e0, e1⟩ := ht2.get (i := 0) (o := cpO u) rfl
          have a0 : atI (ts.map V.ref) 0 = some (.ref t0) := atI_nat (j := 0) (by rw [List.getElem?_map, e0]; rfl)
          refine ⟨_, rfl, p, _, _, _, rfl, rfl, SqL.of ht1, a0, t0, _, rfl, SqT.of e1, rfl, _, _, rfl, _, _, rfl, rfl, ?_⟩
          have s36 : Same H3 H5 := s5.trans s6
          have q1 := o1.same s36
          have q2 := o2.same s36
          refine ⟨_, rfl, _, rfl, _, rfl, M, c', u.1, u.2, rfl, q1.cm, sh3.tri, by omega, by omega, by omega, by omega, fun H6 s7 => ⟨_, rfl, ?_⟩⟩
          have q3 := q1.same s7
          have q4 := q2.same s7
          obtain ⟨y1, p1, r1, f1, f2, f3, f4⟩ := tie_read2 (K := K) q3.cm sh3.tri m1 m2
          obtain ⟨y2, p3, r2, g1, g2, g3, g4⟩ := tie_read2 (K := K) q4.cm sh4.tri m1 (l12 ▸ m2)
          have tl : ts.length = rest.length + 1 := by
            rw [ht2.1, List.length_map, List.length_cons]
          have dlen : (diff c' d').length = rest.length + 1 := by
            rw [ed, List.length_cons]
          have hp6 : H6 p = some (.lst (ts.map V.ref)) := s7 _ _ ht1
          have nep : ∀ {p7 : Addr} {r7 : List Int}, H6 p7 = some (.lst (r7.map V.int)) → p ≠ p7 := fun {p7 r7} h7 z => by
            rw [z, h7] at hp6
            have z2 := HO.lst.inj (Option.some.inj hp6)
            have z3 : (r7.map V.int)[0]? = some (.ref t0) := by
              rw [z2, List.getElem?_map, e0]
              rfl
            obtain ⟨_, _, z4⟩ := at_int z3
            cases z4
          have s6' : Same H H6 := (s3.trans s36).trans s7
          have dne : tieC c' u.1 u.2 ≠ tieC d' u.1 u.2 := of_decide_eq_true hu2.2
          have v1 := tie_val sh3.tri sh3.val (Nat.ne_of_lt m1) (Nat.lt_trans m1 m2) m2
          have v2 := tie_val sh4.tri sh4.val (Nat.ne_of_lt m1) (by omega) (l12 ▸ m2)
          refine ite2 (fun h => ?_) (fun h => ?_)
          · have al : AlikeF c.length (tieC c') u.1 u.2 := fun x hx => (alikeB_iff c' u.1 u.2).mp h x (by omega)
            obtain ⟨y5, p5, r5, h1, h2, h3, h4, h5, h6, h7⟩ := q3.cell sh3.tri m1 m2
            refine ⟨_, rfl, _, rfl, M2, y2, _, _, rfl, rfl, g1, g2, _, rfl, p3, _, _, _, rfl, rfl, g3, g4, _, rfl, _, rfl, M, _, _, _, rfl, rfl, SqL.of h1, h2, _, rfl, p5, _, _, _, rfl, rfl, h3, h4, ?_⟩
            have n1 : H p5 = none := Classical.not_not.mp fun z => h5 (.inl z)
            have n2 : H1 p5 ≠ none := fun z => h5 (.inr z)
            have own8 := h7 (tieC d' u.1 u.2)
            have own9 : Own (fun b => H1 b ≠ none) (upd H6 p5 (.lst ((r5.map V.int).set u.1 (.int (tieC d' u.1 u.2))))) M2 d' := q4.keep fun b o ns e => by
              rw [upd_ne fun z => ns (by rw [z]; exact n2)]
              exact e
            have sH7 : Same H (upd H6 p5 (.lst ((r5.map V.int).set u.1 (.int (tieC d' u.1 u.2))))) := same_in s6' n1
            have hp7 : (upd H6 p5 (.lst ((r5.map V.int).set u.1 (.int (tieC d' u.1 u.2))))) p = some (.lst (ts.map V.ref)) := by
              rw [upd_ne (nep h3)]
              exact hp6
            have shc : Sh (k : Int) (putC c' u.1 u.2 (tieC d' u.1 u.2)) := putC_sh sh3 m2 v2.1 v2.2
            have shd := sh4
            have lcc : (putC c' u.1 u.2 (tieC d' u.1 u.2)).length = c.length := (putC_len _ _ _ _).trans l1
            have lcd : (putC c' u.1 u.2 (tieC d' u.1 u.2)).length = d'.length := lcc.trans l2.symm
            have jn1 : J c.length (tieC c) (tieC (putC c' u.1 u.2 (tieC d' u.1 u.2))) := j1.step (tieC_sym c') (putC_step m1 m2).any al
            have jn2 : J c.length (tieC (putC c' u.1 u.2 (tieC d' u.1 u.2))) (tieC d') := (j2.symm.step (tieC_sym c') (putC_step m1 m2).any al).symm
            have dn := diff_put1 (c := c') (d := d') sh3.tri hu2.1 hu2.2
            refine ⟨_, rfl, _, rfl, _, rfl, k, M, M2, (putC c' u.1 u.2 (tieC d' u.1 u.2)), d', rfl, by omega, by omega, own8.cm, shc, own9.cm, shd, lcd, fun H8 p8 s8 np8 lo8 => ?_⟩
            obtain ⟨xs8, e8, l8⟩ := lo8.lst
            rw [List.length_map] at l8
            refine ⟨p8, _, rfl, .inl (SqL.of e8), _, rfl, p, _, rfl, .inl (SqL.of (s8 _ _ hp7)), _, _, rfl, rfl, rfl, _, rfl, iteNS ?_ ?_⟩
            · show V.int ((xs8.length : Nat) : Int) = V.int ((((ts.map V.ref).length : Nat) : Int) - 1)
              rw [l8, List.length_map, tl]
              exact congrArg V.int (by omega)
            · have s78 := sH7.trans s8
              have jc : JC (putC c' u.1 u.2 (tieC d' u.1 u.2)) c := by
                show J (putC c' u.1 u.2 (tieC d' u.1 u.2)).length _ _
                rw [lcc]
                exact jn1.symm
              refine ⟨_, rfl, _, rfl, _, rfl, k, M, a, (putC c' u.1 u.2 (tieC d' u.1 u.2)), c, rfl, by omega, by omega, (own8.same s8).cm, shc, hC.same s78, sh, lcc, fun H9 s9 => ⟨_, true, rfl, rfl, _, rfl, iteNS (jc.same lcc) ?_⟩⟩
              exact ⟨(putC c' u.1 u.2 (tieC d' u.1 u.2)), d', _, _, _, _, _, rfl, s78.trans s9, (own8.same s8).same s9, (own9.same s8).same s9, shc, shd, lcc, lcd.symm.trans lcc, jn1, jn2, by omega⟩
          · have al : AlikeF c.length (tieC d') u.1 u.2 := by
              false_or_by_contra
              rename_i na
              rw [Bool.not_eq_true] at h
              have na1 : ¬ AlikeF c.length (tieC c') u.1 u.2 := fun z => notAlike h fun x hx => z x (by omega)
              exact J.alike (tieC_sym c') (tieC_sym d') j2 (by omega) (by omega) (Nat.ne_of_lt m1) dne na1 na
            obtain ⟨y5, p5, r5, h1, h2, h3, h4, h5, h6, h7⟩ := q4.cell sh4.tri m1 (l12 ▸ m2)
            refine ⟨_, rfl, _, rfl, M, y1, _, _, rfl, rfl, f1, f2, _, rfl, p1, _, _, _, rfl, rfl, f3, f4, _, rfl, _, rfl, M2, _, _, _, rfl, rfl, SqL.of h1, h2, _, rfl, p5, _, _, _, rfl, rfl, h3, h4, ?_⟩
            have n2 : H1 p5 = none := Classical.not_not.mp h5
            have n1 : H p5 = none := s1.free n2
            have own9 := h7 (tieC c' u.1 u.2)
            have own8 : Own (fun b => H b ≠ none ∨ H1 b = none) (upd H6 p5 (.lst ((r5.map V.int).set u.1 (.int (tieC c' u.1 u.2))))) M c' := q3.keep fun b o ns e => by
              rw [upd_ne fun z => ns (by rw [z]; exact .inr n2)]
              exact e
            have sH7 : Same H (upd H6 p5 (.lst ((r5.map V.int).set u.1 (.int (tieC c' u.1 u.2))))) := same_in s6' n1
            have hp7 : (upd H6 p5 (.lst ((r5.map V.int).set u.1 (.int (tieC c' u.1 u.2))))) p = some (.lst (ts.map V.ref)) := by
              rw [upd_ne (nep h3)]
              exact hp6
            have shc := sh3
            have shd : Sh (k : Int) (putC d' u.1 u.2 (tieC c' u.1 u.2)) := putC_sh sh4 (l12 ▸ m2) v1.1 v1.2
            have lcc : c'.length = c.length := l1
            have lcd : c'.length = (putC d' u.1 u.2 (tieC c' u.1 u.2)).length := by rw [putC_len]; exact l12
            have jn1 := j1
            have jn2 : J c.length (tieC c') (tieC (putC d' u.1 u.2 (tieC c' u.1 u.2))) := j2.step (tieC_sym d') (putC_step m1 (l12 ▸ m2)).any al
            have dn := diff_put2 (c := c') (d := d') sh4.tri l12 hu2.1 hu2.2
            refine ⟨_, rfl, _, rfl, _, rfl, k, M, M2, c', (putC d' u.1 u.2 (tieC c' u.1 u.2)), rfl, by omega, by omega, own8.cm, shc, own9.cm, shd, lcd, fun H8 p8 s8 np8 lo8 => ?_⟩
            obtain ⟨xs8, e8, l8⟩ := lo8.lst
            rw [List.length_map] at l8
            refine ⟨p8, _, rfl, .inl (SqL.of e8), _, rfl, p, _, rfl, .inl (SqL.of (s8 _ _ hp7)), _, _, rfl, rfl, rfl, _, rfl, iteNS ?_ ?_⟩
            · show V.int ((xs8.length : Nat) : Int) = V.int ((((ts.map V.ref).length : Nat) : Int) - 1)
              rw [l8, List.length_map, tl]
              exact congrArg V.int (by omega)
            · have s78 := sH7.trans s8
              have jc : JC c' c := by
                show J c'.length _ _
                rw [lcc]
                exact jn1.symm
              refine ⟨_, rfl, _, rfl, _, rfl, k, M, a, c', c, rfl, by omega, by omega, (own8.same s8).cm, shc, hC.same s78, sh, lcc, fun H9 s9 => ⟨_, true, rfl, rfl, _, rfl, iteNS (jc.same lcc) ?_⟩⟩
              exact ⟨c', (putC d' u.1 u.2 (tieC c' u.1 u.2)), _, _, _, _, _, rfl, s78.trans s9, (own8.same s8).same s9, (own9.same s8).same s9, shc, shd, lcc, lcd.symm.trans lcc, jn1, jn2, by omega⟩
      · rintro σ H3 ⟨c', d', x5, x6, x7, x8, x9, rfl, s3, o1, o2, sh3, sh4, l1, l2, j1, j2, dl⟩
        exfalso
        rw [Int.toNat_natCast] at dl
        omega
end
end Tw
set_option Elab.async false
set_option linter.all false
set_option maxRecDepth 100000
set_option maxHeartbeats 8000000
/-! the law -/
namespace Tw
open PySem PySem.Spec PyProof.Rows L2 TwG
/-! ### the written companies at its end -/
def shB (k : Int) (c : Co) : Bool := decide (1 ≤ c.length) && decide (c.length ≤ 40) && (List.range c.length).all fun i => decide ((c.getD i []).length = i) && (c.getD i []).all fun x => decide (0 ≤ x) && decide (x < k)
theorem sh_of {k : Int} {c : Co} (h : shB k c = true) : Sh k c := by
  unfold shB at h
  simp only [Bool.and_eq_true, decide_eq_true_eq, List.all_eq_true, List.mem_range] at h
  obtain ⟨⟨h1, h2⟩, h3⟩ := h
  have row : ∀ (i : Nat) (r : List Int), c[i]? = some r → i < c.length ∧ c.getD i [] = r := fun i r e => ⟨(List.getElem?_eq_some_iff.mp e).1, by rw [List.getD_eq_getElem?_getD, e]; rfl⟩
  refine ⟨h1, h2, fun i r e => ?_, fun i r e x hx => ?_⟩
  · obtain ⟨l1, l2⟩ := row i r e
    rw [← l2]
    exact (h3 i l1).1
  · obtain ⟨l1, l2⟩ := row i r e
    rw [← l2] at hx
    exact (h3 i l1).2 x hx
def w4a : Co := [[], [1], [0, 1], [0, 0, 1]]
def w4b : Co := [[], [0], [1, 1], [0, 1, 0]]
def w3a : Co := [[], [1], [1, 1]]
def w3b : Co := [[], [0], [0, 1]]
def w1 : Co := [[]]
theorem lone_w4 : lone w4a w4b = some (0, 1) := by decide +kernel
theorem lone_w3 : lone w3a w3b = none := by decide +kernel
theorem lone_w1 : lone w1 w1 = none := by decide +kernel
theorem same_w3 : sameB w3a w3b = false := by decide +kernel
theorem cm_of {K : PySem.W.Frag} {H : Hp} {p : Addr} {ts : List Addr} {c : Co} (h : H p = some (.lst (ts.map V.ref))) (o : Objs H ts (c.map rowO)) : Cm K H p c :=
  Com.cm (S := fun _ => False) ⟨ts, fun z => z, fun _ _ z => z, h, o⟩
theorem pick2 {c : Bool} {σ : L2.St} {H : Hp} {Q : VK} (h : ∀ b : Nat, (b = 14 ∨ b = 7) → Q (cN b) H) : if c = true then tC (.int 14) σ H Q else tC (.int 7) σ H Q := by
  cases c with
  | true => exact iteT (h 14 (.inl rfl))
  | false => exact iteF (h 7 (.inr rfl))
theorem and_pick {c : Bool} {A X : Prop} {N : Hp → Prop} {H : Hp} (hu : (∀ H9, Same H H9 → N H9) → A) (k : ∀ H9, Same H H9 → N H9) : if c = true then A else (if false = true then X else N H) := by
  cases c with
  | true => exact iteT (hu k)
  | false => exact iteF (iteF (k H (Same.refl H)))
theorem lit1 {K : PySem.W.Frag} {σ : L2.St} {H : Hp} {Q : VK} (k : ∀ H' p, Same H H' → H p = none → Cm K H' p [[]] → Q (.ref p) H') : tLst (tCons (tLst tNil) tNil) σ H Q := by
  refine ⟨Nat.zero_le _, fun A0 n0 => ⟨(by show 1 ≤ sizeLine; decide), fun p np => k _ p (same_new (same_up n0) np) ((same_up n0).free np) ?_⟩⟩
  exact cm_of (ts := [A0]) upd_same (((Objs.nil _).push (t := A0) (o := rowO []) upd_same).same (same_up np))
theorem lit3 {K : PySem.W.Frag} {σ : L2.St} {H : Hp} {Q : VK} {x y z : Int} (k : ∀ H' p, Same H H' → H p = none → Cm K H' p [[], [x], [y, z]] → Q (.ref p) H') :
    tLst (tCons (tLst tNil) (tCons (tLst (tCons (tC (.int x)) tNil)) (tCons (tLst (tCons (tC (.int y)) (tCons (tC (.int z)) tNil))) tNil))) σ H Q := by
  refine ⟨Nat.zero_le _, fun A0 n0 => ⟨(by show 1 ≤ sizeLine; decide), fun A1 n1 => ⟨(by show 2 ≤ sizeLine; decide), fun A2 n2 => ⟨(by show 3 ≤ sizeLine; decide), fun p np => k _ p (same_new (same_new (same_new (same_up n0) n1) n2) np) ((same_new (same_new (same_up n0) n1) n2).free np) ?_⟩⟩⟩⟩
  have o0 := (Objs.nil (upd H A0 (rowO []))).push (t := A0) (o := rowO []) upd_same
  have o1 := (o0.same (same_up (o := rowO [x]) n1)).push (t := A1) (o := rowO [x]) upd_same
  have o2 := (o1.same (same_up (o := rowO [y, z]) n2)).push (t := A2) (o := rowO [y, z]) upd_same
  exact cm_of (ts := [A0, A1, A2]) upd_same (o2.same (same_up np))
theorem lit4 {K : PySem.W.Frag} {σ : L2.St} {H : Hp} {Q : VK} {x y z u v w : Int} (k : ∀ H' p, Same H H' → H p = none → Cm K H' p [[], [x], [y, z], [u, v, w]] → Q (.ref p) H') :
    tLst (tCons (tLst tNil) (tCons (tLst (tCons (tC (.int x)) tNil)) (tCons (tLst (tCons (tC (.int y)) (tCons (tC (.int z)) tNil))) (tCons (tLst (tCons (tC (.int u)) (tCons (tC (.int v)) (tCons (tC (.int w)) tNil)))) tNil)))) σ H Q := by
  refine ⟨Nat.zero_le _, fun A0 n0 => ⟨(by show 1 ≤ sizeLine; decide), fun A1 n1 => ⟨(by show 2 ≤ sizeLine; decide), fun A2 n2 => ⟨(by show 3 ≤ sizeLine; decide), fun A3 n3 => ⟨(by show 4 ≤ sizeLine; decide),
    fun p np => k _ p (same_new (same_new (same_new (same_new (same_up n0) n1) n2) n3) np) ((same_new (same_new (same_new (same_up n0) n1) n2) n3).free np) ?_⟩⟩⟩⟩⟩
  have o0 := (Objs.nil (upd H A0 (rowO []))).push (t := A0) (o := rowO []) upd_same
  have o1 := (o0.same (same_up (o := rowO [x]) n1)).push (t := A1) (o := rowO [x]) upd_same
  have o2 := (o1.same (same_up (o := rowO [y, z]) n2)).push (t := A2) (o := rowO [y, z]) upd_same
  have o3 := (o2.same (same_up (o := rowO [u, v, w]) n3)).push (t := A3) (o := rowO [u, v, w]) upd_same
  exact cm_of (ts := [A0, A1, A2, A3]) upd_same (o3.same (same_up np))
theorem call_lits {sp : Sp} {k : Int} {t1 t2 : TE} {σ : L2.St} {H : Hp} {Q : VK} (h : t1 σ H fun x H1 => t2 σ H1 fun y H2 => sp [.int k, x, y] H2 Q E0) : tCall sp [] E0 (tCons (tC (.int k)) (tCons t1 (tCons t2 tNil))) σ H Q := h
theorem cons_of {ta : TE} {tr : TA} {σ : L2.St} {H : Hp} {Q : List V → Hp → Prop} (h : ta σ H fun x H1 => tr σ H1 fun xs H2 => Q (x :: xs) H2) : tCons ta tr σ H Q := h
theorem op_of {r : R2} {ta tb : TE} {σ : L2.St} {H : Hp} {Q : VK} (h : ta σ H fun x H1 => tb σ H1 fun y H2 => r x y H2 Q) : tOp r ta tb σ H Q := h
theorem SameX.all {g : Addr} {H H1 H2 : Hp} (s : Same H H1) (x : SameX g H1 H2) (n : H g = none) : Same H H2 := fun b o e => x b o (fun z => by
  rw [z, n] at e
  cases e) (s b o e)
def spLaw (K : PySem.W.Frag) : Sp := fun vs H Q _ => ∃ (a : Addr) (ns : List Int), vs = [.ref a] ∧ SqL K H a (ns.map V.int) ∧ ns.length ≤ 63 ∧ ∀ H', Q (.bl true) H'
section
variable {P : Program} {w : World} {K : PySem.W.Frag} {mg : Str → Option Value} {base : Heap}
theorem okLaw (T : Txt K mg) {f0 : Addr} {fd0 : FuncData} (F0 : Fun K "law" "law" sLaw f0 fd0) : GOk P w K mg base 9 f0 fd0 ["_law_script"] (spLaw K) := by
  have c1 : Cl P w K mg base 2 "_law_generator" (spGenerator K) := okGenerator T
  have c2 : Cl P w K mg base 2 "_law_random" spRandom := okRandom T
  have c3 : Cl P w K mg base 3 "_law_grown" (spGrown K) := okGrown T
  have c4 : Cl P w K mg base 4 "_law_led" (spLed K) := okLed T
  have c5 : Cl P w K mg base 7 "lone_couple" (spLone K) := okLone T
  have c6 : Cl P w K mg base 8 "_law_road_right" (spRoad K) := okRoad T
  have c7 : Cl P w K mg base 3 "_law_bent" (spBent K) := okBent T
  have c8 : Cl P w K mg base 7 "same_words" (spSame K) := okSame T
  have g1 : ClG P w K mg base 8 "_law_pair_right" (spPair K) := okPair T
  refine gok_of F0 cLaw (fun vs H Q E h => ?_) (fun cdv A outer s H vs Q E hgd hr h => ?_)
  · obtain ⟨a, ns, rfl, _⟩ := h
    rfl
  · obtain ⟨a, ns, rfl, hS, hn, q⟩ := h
    refine ⟨_, pss_cons (ps_for PassesOwn.never rfl (pi_range1 (by rfl) T.brange (pa_cons pe_int pa_nil)) (pg_name (i := 1) cLaw.nd rfl (Or.inl rfl))
        (pss_cons (ps_set (i := 2) cLaw.nd rfl (.inl rfl) (pe_c c1 hr (by rfl) (pa_cons (pv 0) (pa_cons (pv 1) pa_nil))))
        (pss_cons (ps_par (i := 3) (j := 4) (by rfl) cLaw.nd rfl rfl (by decide) rfl rfl (pa_cons (pe_op op_add pe_int (pe_c c2 hr (by rfl) (pa_cons (pv 2) (pa_cons pe_int pa_nil))))
          (pa_cons (pe_op op_add pe_int (pe_c c2 hr (by rfl) (pa_cons (pv 2) (pa_cons (pe_ifExp (pt_cmpR op_eq (pv 1) pe_int (nomark _)) pe_int pe_int) pa_nil)))) pa_nil)) (by rfl))
        (pss_cons (ps_set (i := 5) cLaw.nd rfl (.inl rfl) (pe_c c3 hr (by rfl) (pa_cons (pv 2) (pa_cons (pv 3) (pa_cons (pv 4) pa_nil)))))
        (pss_cons (ps_set (i := 6) cLaw.nd rfl (.inl rfl) (pe_c c4 hr (by rfl) (pa_cons (pv 2) (pa_cons (pv 3) (pa_cons (pv 5) (pa_cons pe_int pa_nil))))))
        (pss_cons (ps_if (PW.pt (pw_or (pt_not (pt_val (pe_g g1 hgd hr (by rfl) (pa_cons (pv 3) (pa_cons (pv 5) (pa_cons (pv 6) pa_nil))))))
          (pw_or1 (pt_cmpR op_notN (pe_c c5 hr (by rfl) (pa_cons (pv 3) (pa_cons (pv 5) (pa_cons (pv 6) pa_nil)))) pe_non (nomark _))))) (pss_one (ps_ret pe_bl)) pss_nil)
        (pss_cons (ps_if (PW.pt (pw_and (pt_cmpR op_lt (pv 4) pe_int (nomark _)) (pw_and1 (pt_not (pt_val (pe_c c6 hr (by rfl) (pa_cons (pv 3) (pa_cons (pv 5) (pa_cons (pv 6) pa_nil))))))))) (pss_one (ps_ret pe_bl)) pss_nil)
        (pss_one (ps_for PassesOwn.never rfl (pi_list (pe_lst (pa_cons (pe_c c7 hr (by rfl) (pa_cons (pv 2) (pa_cons (pv 3) (pa_cons (pv 5) pa_nil)))) (pa_cons (pe_c c7 hr (by rfl) (pa_cons (pv 2) (pa_cons (pv 3) (pa_cons (pv 6) pa_nil))))
            (pa_cons (pe_c c3 hr (by rfl) (pa_cons (pv 2) (pa_cons (pv 3) (pa_cons (pv 4) pa_nil)))) pa_nil))))) (pg_name (i := 7) cLaw.nd rfl (Or.inl rfl))
          (pss_one (ps_if (pt_not (pt_val (pe_g g1 hgd hr (by rfl) (pa_cons (pv 3) (pa_cons (pv 5) (pa_cons (pv 7) pa_nil)))))) (pss_one (ps_ret pe_bl)) pss_nil)))))))))))
      (pss_cons (ps_par (i := 8) (j := 7) (by rfl) cLaw.nd rfl rfl (by decide) rfl rfl
        (pa_cons (pe_lst (pa_cons (pe_lst pa_nil) (pa_cons (pe_lst (pa_cons pe_int pa_nil)) (pa_cons (pe_lst (pa_cons pe_int (pa_cons pe_int pa_nil))) (pa_cons (pe_lst (pa_cons pe_int (pa_cons pe_int (pa_cons pe_int pa_nil)))) pa_nil)))))
        (pa_cons (pe_lst (pa_cons (pe_lst pa_nil) (pa_cons (pe_lst (pa_cons pe_int pa_nil)) (pa_cons (pe_lst (pa_cons pe_int (pa_cons pe_int pa_nil))) (pa_cons (pe_lst (pa_cons pe_int (pa_cons pe_int (pa_cons pe_int pa_nil)))) pa_nil))))) pa_nil)) (by rfl))
      (pss_cons (ps_set (i := 9) cLaw.nd rfl (.inl rfl) (pe_lst (pa_cons (pe_c c5 hr (by rfl) (pa_cons pe_int (pa_cons (pv 8) (pa_cons (pv 7) pa_nil))))
        (pa_cons (pe_c c5 hr (by rfl) (pa_cons pe_int (pa_cons (pe_lst (pa_cons (pe_lst pa_nil) (pa_cons (pe_lst (pa_cons pe_int pa_nil)) (pa_cons (pe_lst (pa_cons pe_int (pa_cons pe_int pa_nil))) pa_nil))))
          (pa_cons (pe_lst (pa_cons (pe_lst pa_nil) (pa_cons (pe_lst (pa_cons pe_int pa_nil)) (pa_cons (pe_lst (pa_cons pe_int (pa_cons pe_int pa_nil))) pa_nil)))) pa_nil))))
        (pa_cons (pe_c c5 hr (by rfl) (pa_cons pe_int (pa_cons (pe_lst (pa_cons (pe_lst pa_nil) pa_nil)) (pa_cons (pe_lst (pa_cons (pe_lst pa_nil) pa_nil)) pa_nil)))) pa_nil)))))
      (pss_one (ps_ret (pe_and (pe_cmpR (op_eqD hr.units) (pv 9) (pe_lst (pa_cons (pe_tup (pa_cons pe_int (pa_cons pe_int pa_nil))) (pa_cons pe_non (pa_cons pe_non pa_nil)))) (nomark _))
        (pe_one (pe_cmpR op_isBl (pe_c c8 hr (by rfl) (pa_cons pe_int (pa_cons (pe_lst (pa_cons (pe_lst pa_nil) (pa_cons (pe_lst (pa_cons pe_int pa_nil)) (pa_cons (pe_lst (pa_cons pe_int (pa_cons pe_int pa_nil))) pa_nil))))
          (pa_cons (pe_lst (pa_cons (pe_lst pa_nil) (pa_cons (pe_lst (pa_cons pe_int pa_nil)) (pa_cons (pe_lst (pa_cons pe_int (pa_cons pe_int pa_nil))) pa_nil)))) pa_nil)))) pe_bl (nomark _)))))))), ?_⟩
    refine ⟨_, rfl, by decide, by decide, for_range (lo := 0) (n := 4) (fun t σ H' => ∃ x1 x2 x3 x4 x5 x6 x7 x8 x9 : Option V, σ = [some (.ref a), x1, x2, x3, x4, x5, x6, x7, x8, x9] ∧ Same H H')
      ⟨none, none, none, none, none, none, none, none, none, rfl, Same.refl H⟩ ?_ ?_⟩
    · rintro t σ H1 ht ⟨x1, x2, x3, x4, x5, x6, x7, x8, x9, rfl, sm⟩
      have e0 : (0 : Int) + (t : Nat) = (t : Int) := Int.zero_add _
      rw [e0]
      refine ⟨_, rfl, _, rfl, a, ns, t, rfl, sm.seq hS, hn, by omega, fun H2 g s2 ng hg => ?_⟩
      have ng0 : H g = none := sm.free ng
      refine ⟨_, rfl, g, 3, 3000, rfl, by omega, by omega, hg, by omega, fun H3 r3 sx3 hg3 hr3 => ⟨_, _, rfl, rfl, _, rfl, _, rfl, rfl, _, rfl, pick2 (fun b hb => ?_)⟩⟩
      refine ⟨g, b, 3001, rfl, by omega, by omega, hg3.more (by omega), by omega, fun H4 r4 sx4 hg4 hr4 => ⟨_, _, rfl, rfl, cN (2 + r3), cN (1 + r4), ?_, ?_⟩⟩
      · show [V.int ((2 : Int) + (r3 : Int)), V.int ((1 : Int) + (r4 : Int))] = [V.int ((2 + r3 : Nat) : Int), V.int ((1 + r4 : Nat) : Int)]
        rw [show ((2 + r3 : Nat) : Int) = 2 + (r3 : Int) by omega, show ((1 + r4 : Nat) : Int) = 1 + (r4 : Int) by omega]
      refine ⟨_, rfl, _, rfl, _, rfl, g, 2 + r3, 1 + r4, 3002, rfl, by omega, by omega, by omega, by omega, hg4.more (by omega), by omega, fun H5 R c sx5 hg5 own5 shc cl => ?_⟩
      refine ⟨_, rfl, _, rfl, _, rfl, g, R, 2 + r3, 6, c, 3502, rfl, by omega, by omega, by omega, hg5.more (by omega), by omega, own5.mono (fun q z => by rw [z]; exact hg4.some), shc, by omega, fun H6 b d sx6 hg6 own6 shd dl jj => ?_⟩
      have own5' : Own (fun q => q = g) H6 R c := (own5.mono (T := fun q => q = g) (fun q z => by rw [z]; exact hg4.some)).keep fun b o n e => sx6 b o n e
      have sx26 : SameX g H2 H6 := ((sx3.trans sx4).trans sx5).trans sx6
      have s06 : Same H H6 := SameX.all (sm.trans s2) sx26 ng0
      have k4 : ((2 + r3 : Nat) : Int) ≤ 4 := by omega
      refine ⟨_, rfl, _, rfl, _, rfl, 2 + r3, R, b, c, d, rfl, by omega, by omega, own5'.cm, shc, own6.cm, shd, dl.symm, fun H7 s7 => ⟨true, rfl, iteF ?_⟩⟩
      refine ⟨_, rfl, _, rfl, _, rfl, ((2 + r3 : Nat) : Int), R, b, c, d, rfl, by omega, by omega, (own5'.same s7).cm, shc, (own6.same s7).cm, shd, dl.symm, fun H8 v s8 lv => ?_⟩
      rw [J.lone (c := c) (d := d) jj dl.symm] at lv
      have ev : v = .non := lv
      subst ev
      refine ⟨rfl, _, rfl, iteF ?_⟩
      have s68 : Same H6 H8 := s7.trans s8
      refine ⟨_, rfl, _, _, rfl, rfl, _, rfl, and_pick (H := H8) (fun kk => ⟨_, rfl, _, rfl, _, rfl, 2 + r3, R, b, c, d, rfl, by omega, by omega, (own5'.same s68).cm, shc, (own6.same s68).cm, shd, dl.symm, jj, fun H9 s9 => ⟨true, rfl, iteF (kk H9 s9)⟩⟩) (fun H9 s9 => ?_)⟩
      have s69 : Same H6 H9 := s68.trans s9
      have hg9 := (hg6.same s69)
      have s09 := s06.trans s69
      have sR := own5'.same s69
      have sB := own6.same s69
      refine ⟨_, rfl, _, rfl, _, rfl, g, R, 2 + r3, c, 3508, rfl, by omega, by omega, hg9.more (by omega), by omega, sR.cm, shc, by omega, fun H10 M1 d1 sx10 hg10 o1 sh1 l1 => ?_⟩
      have sB10 : Own (fun q => q = g) H10 b d := sB.keep fun b o n e => sx10 b o n e
      refine ⟨_, rfl, _, rfl, _, rfl, g, b, 2 + r3, d, 3518, rfl, by omega, by omega, hg10.more (by omega), by omega, sB10.cm, shd, by omega, fun H11 M2 d2 sx11 hg11 o2 sh2 l2 => ?_⟩
      refine ⟨_, rfl, _, rfl, _, rfl, g, 2 + r3, 1 + r4, 3528, rfl, by omega, by omega, by omega, by omega, hg11.more (by omega), by omega, fun H12 M3 d3 sx12 hg12 o3 sh3 l3 => ?_⟩
      refine ⟨(by show 3 ≤ sizeLine; decide), fun F nF => ?_⟩
      have sF : Same H12 (upd H12 F (.lst [.ref M1, .ref M2, .ref M3])) := same_up nF
      have sx912 : SameX g H9 H12 := (sx10.trans sx11).trans sx12
      have s0F : Same H (upd H12 F (.lst [.ref M1, .ref M2, .ref M3])) := (SameX.all s09 sx912 ng0).trans sF
      have cR : Cm K (upd H12 F (.lst [.ref M1, .ref M2, .ref M3])) R c := ((sR.keep fun b o n e => sx912 b o n e).same sF).cm
      have gone : ∀ {Ha Hb Hc : Hp} {q : Addr} {e : Co}, Gen Ha g 3528 → SameX g Hb Hc → Own (fun q => Ha q ≠ none) Hb q e → Own (fun q => Ha q ≠ none) Hc q e := fun {Ha Hb Hc q e} hga sx o =>
        o.keep fun b o n e => sx b o (fun z => n (by rw [z]; exact hga.some)) e
      have all : ∀ (i : Nat) (x : V), ([.ref M1, .ref M2, .ref M3] : List V)[i]? = some x → ∃ M e, x = .ref M ∧ Cm K (upd H12 F (.lst [.ref M1, .ref M2, .ref M3])) M e ∧ Sh ((2 + r3 : Nat) : Int) e ∧ e.length = c.length := by
        intro i x hx
        match i, hx with
        | 0, hx =>
          cases hx
          exact ⟨M1, d1, rfl, ((gone (hg9.more (by omega)) (sx11.trans sx12) o1).same sF).cm, sh1, l1⟩
        | 1, hx =>
          cases hx
          exact ⟨M2, d2, rfl, ((gone (hg10.more (by omega)) sx12 o2).same sF).cm, sh2, l2.trans dl⟩
        | 2, hx =>
          cases hx
          exact ⟨M3, d3, rfl, (o3.same sF).cm, sh3, l3.trans cl.symm⟩
        | i + 3, hx => simp at hx
      refine ⟨F, rfl, ⟨_, SqL.of upd_same⟩, for_list (K := K) (a := F) (xs := [.ref M1, .ref M2, .ref M3]) (fun i σ H' => ∃ y7 : Option V, σ = [some (.ref a), some (cN t), some (.ref g), some (cN (2 + r3)), some (cN (1 + r4)), some (.ref R), some (.ref b), y7, x8, x9] ∧
        Same (upd H12 F (.lst [.ref M1, .ref M2, .ref M3])) H') ⟨x7, rfl, Same.refl _⟩ (fun i σ H' _ ⟨_, _, s⟩ => s.seq (SqL.of upd_same)) ?_ ?_⟩
      · rintro i x σ H13 hx ⟨y7, rfl, s13⟩
        obtain ⟨M, e, rfl, cm, she, le⟩ := all i x hx
        exact ⟨_, rfl, _, rfl, _, rfl, 2 + r3, R, M, c, e, rfl, by omega, by omega, cR.same s13, shc, cm.same s13, she, le.symm, fun H14 s14 => ⟨true, rfl, iteF ⟨_, rfl, s13.trans s14⟩⟩⟩
      · rintro σ H13 ⟨y7, rfl, s13⟩
        exact ⟨_, _, _, _, _, _, _, _, _, rfl, s0F.trans s13⟩
    · rintro σ H1 ⟨x1, x2, x3, x4, x5, x6, x7, x8, x9, rfl, sm⟩
      refine seq_par (lit4 (K := K) fun H2 p2 s2 n2 cm2 => lit4 (K := K) fun H3 p3 s3 n3 cm3 => ⟨_, _, rfl, ?_⟩)
      have sh4a : Sh 2 w4a := sh_of (by decide)
      have sh4b : Sh 2 w4b := sh_of (by decide)
      have sh3a : Sh 2 w3a := sh_of (by decide)
      have sh3b : Sh 2 w3b := sh_of (by decide)
      have shw1 : Sh 2 w1 := sh_of (by decide)
      refine ⟨_, rfl, _, rfl, 2, p2, p3, w4a, w4b, rfl, by decide, by decide, cm2.same s3, sh4a, cm3, sh4b, rfl, fun H4 v1 s4 lv1 => ?_⟩
      refine cons_of (call_lits (lit3 (K := K) fun H5 p5 s5 n5 cm5 => lit3 (K := K) fun H6 p6 s6 n6 cm6 => ⟨2, p5, p6, w3a, w3b, rfl, by decide, by decide, cm5.same s6, sh3a, cm6, sh3b, rfl, fun H7 v2 s7 lv2 => ?_⟩))
      refine cons_of (call_lits (lit1 (K := K) fun H8 p8 s8 n8 cm8 => lit1 (K := K) fun H9 p9 s9 n9 cm9 => ⟨2, p8, p9, w1, w1, rfl, by decide, by decide, cm8.same s9, shw1, cm9, shw1, rfl, fun H10 v3 s10 lv3 => ?_⟩))
      rw [lone_w4] at lv1
      rw [lone_w3] at lv2
      rw [lone_w1] at lv3
      have e2 : v2 = .non := lv2
      have e3 : v3 = .non := lv3
      subst e2 e3
      refine ⟨(by show 3 ≤ sizeLine; decide), fun L nL => ?_⟩
      have dv1 := (lv1.dp (K := K)).1
      have sL : Same H4 (upd H10 L (.lst [v1, .non, .non])) := same_new ((((((s5.trans s6).trans s7).trans s8).trans s9)).trans s10) nL
      refine ⟨_, rfl, (by show 2 ≤ sizeLine; decide), fun T' nT => ⟨(by show 3 ≤ sizeLine; decide), fun L2 nL2 => ?_⟩⟩
      have sT : Same (upd H10 L (.lst [v1, .non, .non])) (upd (upd (upd H10 L (.lst [v1, .non, .non])) T' (.tup [.int 0, .int 1])) L2 (.lst [.ref T', .non, .non])) := same_new (same_up nT) nL2
      have lay : Lay 2 (.list [loneD (some (0, 1)), .none, .none]) := .list fun d hd => by
        rcases List.mem_cons.mp hd with rfl | hd
        · exact .tuple fun e he => by
            rcases List.mem_cons.mp he with rfl | he
            · exact .int 0 _
            · rw [List.mem_singleton.mp he]
              exact .int 0 _
        · rcases List.mem_cons.mp hd with rfl | hd
          · exact .non 1
          · rw [List.mem_singleton.mp hd]
            exact .non 1
      refine ⟨.list [loneD (some (0, 1)), .none, .none], .list [loneD (some (0, 1)), .none, .none], .lst (SqL.of (sT _ _ upd_same)) (.cons (dp_same (sL.trans sT) _ _ dv1) (.cons .non (.cons .non .nil))),
        .lst (SqL.of upd_same) (.cons (.tup (SqT.of (same_up nL2 _ _ upd_same)) (.cons (.int _) (.cons (.int _) .nil))) (.cons .non (.cons .non .nil))), lay.shaped, lay.shaped, true, congrArg V.bl (SeqAt.eqv_refl _ lay.lay), iteT ?_⟩
      refine op_of (call_lits (lit3 (K := K) fun H11 p11 s11 n11 cm11 => lit3 (K := K) fun H12 p12 s12 n12 cm12 => ⟨2, p11, p12, w3a, w3b, rfl, by decide, by decide, cm11.same s12, sh3a, cm12, sh3b, rfl, fun H13 s13 => ⟨_, false, rfl, rfl, ?_⟩⟩))
      exact qT (q _) (decide_eq_true same_w3)
end
/-! ### from what the top has written -/
theorem df_mk {K : PySem.W.Frag} {mg : Str → Option Value} {h : Heap} {x : Str} {st : Stmt} {ps : List Str} {f : Addr} {oc : Value} {od an : Option Addr} {osl : Array (Option Value)} {kV doc pm cdv ct : Value} (X : K.In h) (G : h.Ns mainGlobals mg)
    (a : PySem.W.nsIn K mainGlobals x = some (some (.ref f))) (l : K.lookup f = some ⟨oc, od, .func (PySem.W.fnOf x x (defArgs st) (defBody st) (defScope st) .none kV doc pm an cdv ct), osl⟩) (c : PySem.W.codeIn K cdv x = true) (k : PySem.W.keepIn K (.ref f) = true)
    (b : ∀ (kV doc pm : Value) (an : Option Addr) (cdv ct : Value) (us : List Value), us.length = ps.length → bindArgs (PySem.W.fnOf x x (defArgs st) (defBody st) (defScope st) .none kV doc pm an cdv ct) ⟨us, []⟩ = pure (ps.zip us)) : Df K mg x st ps :=
  ⟨f, _, fun_mk l c k, PySem.W.mg_of X G a, (fun_mk (st := st) l c k).binds b⟩
theorem con_mk {K : PySem.W.Frag} {mg : Str → Option Value} {h : Heap} {x : Str} {n : Int} {t : Tok} (X : K.In h) (G : h.Ns mainGlobals mg) (a : PySem.W.nsIn K mainGlobals x = some (some (.int n t))) : ∃ t, mg x = some (.int n t) := ⟨t, PySem.W.mg_of X G a⟩
theorem fin_mk {l : PySem.W.OpenLaw} {w : World} {K : PySem.W.Frag} {mg : Str → Option Value} {h : Heap} {fa f : Addr} {oc : Value} {od an : Option Addr} {osl : Array (Option Value)} {kV doc pm cdv ct : Value} (X : K.In h) (G : h.Ns mainGlobals mg) (hfa : mg "law" = some (.ref fa)) (T : Txt K mg)
    (a : PySem.W.nsIn K mainGlobals "law" = some (some (.ref f))) (lk : K.lookup f = some ⟨oc, od, .func (PySem.W.fnOf "law" "law" (defArgs sLaw) (defBody sLaw) (defScope sLaw) .none kV doc pm an cdv ct), osl⟩) (c : PySem.W.codeIn K cdv "law" = true) (k : PySem.W.keepIn K (.ref f) = true) :
    ∃ fd : FuncData, (∀ (s : Shared) (v : Value), BindsTo s fd ⟨[v], []⟩ [("_law_script", v)]) ∧ ∀ base : Heap, K.In base → base.Ns mainGlobals mg → GOk l.prog w K mg base 9 fa fd ["_law_script"] (spLaw K) := by
  have e := hfa.symm.trans (PySem.W.mg_of X G a)
  cases e
  exact ⟨_, fun s v => .of_eq rfl, fun base _ _ => okLaw T (fun_mk (st := sLaw) lk c k)⟩
end Tw
set_option Elab.async false
set_option linter.all false
set_option maxRecDepth 100000
set_option maxHeartbeats 8000000
/-! what the top has written; printed by a program of ours (wip/genend.py) -/
namespace Tw
open PySem PySem.Spec PyProof.Rows L2 TwG
theorem all_mk {l : PySem.W.OpenLaw} {w : World} {K : PySem.W.Frag} {mg : Str → Option Value} {h : Heap} {fa : Addr} (X : K.In h) (G : h.Ns mainGlobals mg) (hfa : mg "law" = some (.ref fa))
    {f0 f1 f2 f3 f4 f5 f6 f7 f8 f9 f10 f11 f12 f13 f14 f15 f16 f17 f18 f19 f20 f21 f22 f23 f24 f25 f26 f27 f28 f29 f30 f31 f32 f33 f34 f35 f36 : Addr} {od0 an0 od1 an1 od2 an2 od3 an3 od4 an4 od5 an5 od6 an6 od7 an7 od8 an8 od9 an9 od10 an10 od11 an11 od12 an12 od13 an13 od14 an14 od15 an15 od16 an16 od17 an17 od18 an18 od19 an19 od20 an20 od21 an21 od22 an22 od23 an23 od24 an24 od25 an25 od26 an26 od27 an27 od28 an28 od29 an29 od30 an30 od31 an31 od32 an32 od33 an33 od34 an34 od35 an35 od36 an36 : Option Addr} {sl0 sl1 sl2 sl3 sl4 sl5 sl6 sl7 sl8 sl9 sl10 sl11 sl12 sl13 sl14 sl15 sl16 sl17 sl18 sl19 sl20 sl21 sl22 sl23 sl24 sl25 sl26 sl27 sl28 sl29 sl30 sl31 sl32 sl33 sl34 sl35 sl36 : Array (Option Value)}
    {oc0 kV0 dc0 pm0 cd0 ct0 oc1 kV1 dc1 pm1 cd1 ct1 oc2 kV2 dc2 pm2 cd2 ct2 oc3 kV3 dc3 pm3 cd3 ct3 oc4 kV4 dc4 pm4 cd4 ct4 oc5 kV5 dc5 pm5 cd5 ct5 oc6 kV6 dc6 pm6 cd6 ct6 oc7 kV7 dc7 pm7 cd7 ct7 oc8 kV8 dc8 pm8 cd8 ct8 oc9 kV9 dc9 pm9 cd9 ct9 oc10 kV10 dc10 pm10 cd10 ct10 oc11 kV11 dc11 pm11 cd11 ct11 oc12 kV12 dc12 pm12 cd12 ct12 oc13 kV13 dc13 pm13 cd13 ct13 oc14 kV14 dc14 pm14 cd14 ct14 oc15 kV15 dc15 pm15 cd15 ct15 oc16 kV16 dc16 pm16 cd16 ct16 oc17 kV17 dc17 pm17 cd17 ct17 oc18 kV18 dc18 pm18 cd18 ct18 oc19 kV19 dc19 pm19 cd19 ct19 oc20 kV20 dc20 pm20 cd20 ct20 oc21 kV21 dc21 pm21 cd21 ct21 oc22 kV22 dc22 pm22 cd22 ct22 oc23 kV23 dc23 pm23 cd23 ct23 oc24 kV24 dc24 pm24 cd24 ct24 oc25 kV25 dc25 pm25 cd25 ct25 oc26 kV26 dc26 pm26 cd26 ct26 oc27 kV27 dc27 pm27 cd27 ct27 oc28 kV28 dc28 pm28 cd28 ct28 oc29 kV29 dc29 pm29 cd29 ct29 oc30 kV30 dc30 pm30 cd30 ct30 oc31 kV31 dc31 pm31 cd31 ct31 oc32 kV32 dc32 pm32 cd32 ct32 oc33 kV33 dc33 pm33 cd33 ct33 oc34 kV34 dc34 pm34 cd34 ct34 oc35 kV35 dc35 pm35 cd35 ct35 oc36 kV36 dc36 pm36 cd36 ct36 : Value} {t9 t40 : Tok}
    (a0 : PySem.W.nsIn K mainGlobals "is_whole" = some (some (.ref f0))) (l0 : K.lookup f0 = some ⟨oc0, od0, .func (PySem.W.fnOf "is_whole" "is_whole" (defArgs sIsWhole) (defBody sIsWhole) (defScope sIsWhole) .none kV0 dc0 pm0 an0 cd0 ct0), sl0⟩) (c0 : PySem.W.codeIn K cd0 "is_whole" = true) (k0 : PySem.W.keepIn K (.ref f0) = true)
    (a1 : PySem.W.nsIn K mainGlobals "is_between" = some (some (.ref f1))) (l1 : K.lookup f1 = some ⟨oc1, od1, .func (PySem.W.fnOf "is_between" "is_between" (defArgs sIsBetween) (defBody sIsBetween) (defScope sIsBetween) .none kV1 dc1 pm1 an1 cd1 ct1), sl1⟩) (c1 : PySem.W.codeIn K cd1 "is_between" = true) (k1 : PySem.W.keepIn K (.ref f1) = true)
    (a2 : PySem.W.nsIn K mainGlobals "check_number" = some (some (.ref f2))) (l2 : K.lookup f2 = some ⟨oc2, od2, .func (PySem.W.fnOf "check_number" "check_number" (defArgs sCheckNumber) (defBody sCheckNumber) (defScope sCheckNumber) .none kV2 dc2 pm2 an2 cd2 ct2), sl2⟩) (c2 : PySem.W.codeIn K cd2 "check_number" = true) (k2 : PySem.W.keepIn K (.ref f2) = true)
    (a3 : PySem.W.nsIn K mainGlobals "check_kinds" = some (some (.ref f3))) (l3 : K.lookup f3 = some ⟨oc3, od3, .func (PySem.W.fnOf "check_kinds" "check_kinds" (defArgs sCheckKinds) (defBody sCheckKinds) (defScope sCheckKinds) .none kV3 dc3 pm3 an3 cd3 ct3), sl3⟩) (c3 : PySem.W.codeIn K cd3 "check_kinds" = true) (k3 : PySem.W.keepIn K (.ref f3) = true)
    (a4 : PySem.W.nsIn K mainGlobals "are_ties" = some (some (.ref f4))) (l4 : K.lookup f4 = some ⟨oc4, od4, .func (PySem.W.fnOf "are_ties" "are_ties" (defArgs sAreTies) (defBody sAreTies) (defScope sAreTies) .none kV4 dc4 pm4 an4 cd4 ct4), sl4⟩) (c4 : PySem.W.codeIn K cd4 "are_ties" = true) (k4 : PySem.W.keepIn K (.ref f4) = true)
    (a5 : PySem.W.nsIn K mainGlobals "is_company_value" = some (some (.ref f5))) (l5 : K.lookup f5 = some ⟨oc5, od5, .func (PySem.W.fnOf "is_company_value" "is_company_value" (defArgs sIsCompanyValue) (defBody sIsCompanyValue) (defScope sIsCompanyValue) .none kV5 dc5 pm5 an5 cd5 ct5), sl5⟩) (c5 : PySem.W.codeIn K cd5 "is_company_value" = true) (k5 : PySem.W.keepIn K (.ref f5) = true)
    (a6 : PySem.W.nsIn K mainGlobals "check_company" = some (some (.ref f6))) (l6 : K.lookup f6 = some ⟨oc6, od6, .func (PySem.W.fnOf "check_company" "check_company" (defArgs sCheckCompany) (defBody sCheckCompany) (defScope sCheckCompany) .none kV6 dc6 pm6 an6 cd6 ct6), sl6⟩) (c6 : PySem.W.codeIn K cd6 "check_company" = true) (k6 : PySem.W.keepIn K (.ref f6) = true)
    (a7 : PySem.W.nsIn K mainGlobals "check_pair" = some (some (.ref f7))) (l7 : K.lookup f7 = some ⟨oc7, od7, .func (PySem.W.fnOf "check_pair" "check_pair" (defArgs sCheckPair) (defBody sCheckPair) (defScope sCheckPair) .none kV7 dc7 pm7 an7 cd7 ct7), sl7⟩) (c7 : PySem.W.codeIn K cd7 "check_pair" = true) (k7 : PySem.W.keepIn K (.ref f7) = true)
    (a8 : PySem.W.nsIn K mainGlobals "tie_of" = some (some (.ref f8))) (l8 : K.lookup f8 = some ⟨oc8, od8, .func (PySem.W.fnOf "tie_of" "tie_of" (defArgs sTieOf) (defBody sTieOf) (defScope sTieOf) .none kV8 dc8 pm8 an8 cd8 ct8), sl8⟩) (c8 : PySem.W.codeIn K cd8 "tie_of" = true) (k8 : PySem.W.keepIn K (.ref f8) = true)
    (a9 : PySem.W.nsIn K mainGlobals "stands_alike" = some (some (.ref f9))) (l9 : K.lookup f9 = some ⟨oc9, od9, .func (PySem.W.fnOf "stands_alike" "stands_alike" (defArgs sStandsAlike) (defBody sStandsAlike) (defScope sStandsAlike) .none kV9 dc9 pm9 an9 cd9 ct9), sl9⟩) (c9 : PySem.W.codeIn K cd9 "stands_alike" = true) (k9 : PySem.W.keepIn K (.ref f9) = true)
    (a10 : PySem.W.nsIn K mainGlobals "couples_of" = some (some (.ref f10))) (l10 : K.lookup f10 = some ⟨oc10, od10, .func (PySem.W.fnOf "couples_of" "couples_of" (defArgs sCouplesOf) (defBody sCouplesOf) (defScope sCouplesOf) .none kV10 dc10 pm10 an10 cd10 ct10), sl10⟩) (c10 : PySem.W.codeIn K cd10 "couples_of" = true) (k10 : PySem.W.keepIn K (.ref f10) = true)
    (a11 : PySem.W.nsIn K mainGlobals "word_at" = some (some (.ref f11))) (l11 : K.lookup f11 = some ⟨oc11, od11, .func (PySem.W.fnOf "word_at" "word_at" (defArgs sWordAt) (defBody sWordAt) (defScope sWordAt) .none kV11 dc11 pm11 an11 cd11 ct11), sl11⟩) (c11 : PySem.W.codeIn K cd11 "word_at" = true) (k11 : PySem.W.keepIn K (.ref f11) = true)
    (a12 : PySem.W.nsIn K mainGlobals "threes_of" = some (some (.ref f12))) (l12 : K.lookup f12 = some ⟨oc12, od12, .func (PySem.W.fnOf "threes_of" "threes_of" (defArgs sThreesOf) (defBody sThreesOf) (defScope sThreesOf) .none kV12 dc12 pm12 an12 cd12 ct12), sl12⟩) (c12 : PySem.W.codeIn K cd12 "threes_of" = true) (k12 : PySem.W.keepIn K (.ref f12) = true)
    (a13 : PySem.W.nsIn K mainGlobals "fours_of" = some (some (.ref f13))) (l13 : K.lookup f13 = some ⟨oc13, od13, .func (PySem.W.fnOf "fours_of" "fours_of" (defArgs sFoursOf) (defBody sFoursOf) (defScope sFoursOf) .none kV13 dc13 pm13 an13 cd13 ct13), sl13⟩) (c13 : PySem.W.codeIn K cd13 "fours_of" = true) (k13 : PySem.W.keepIn K (.ref f13) = true)
    (a14 : PySem.W.nsIn K mainGlobals "four_ties" = some (some (.ref f14))) (l14 : K.lookup f14 = some ⟨oc14, od14, .func (PySem.W.fnOf "four_ties" "four_ties" (defArgs sFourTies) (defBody sFourTies) (defScope sFourTies) .none kV14 dc14 pm14 an14 cd14 ct14), sl14⟩) (c14 : PySem.W.codeIn K cd14 "four_ties" = true) (k14 : PySem.W.keepIn K (.ref f14) = true)
    (a15 : PySem.W.nsIn K mainGlobals "is_firm" = some (some (.ref f15))) (l15 : K.lookup f15 = some ⟨oc15, od15, .func (PySem.W.fnOf "is_firm" "is_firm" (defArgs sIsFirm) (defBody sIsFirm) (defScope sIsFirm) .none kV15 dc15 pm15 an15 cd15 ct15), sl15⟩) (c15 : PySem.W.codeIn K cd15 "is_firm" = true) (k15 : PySem.W.keepIn K (.ref f15) = true)
    (a16 : PySem.W.nsIn K mainGlobals "words_among" = some (some (.ref f16))) (l16 : K.lookup f16 = some ⟨oc16, od16, .func (PySem.W.fnOf "words_among" "words_among" (defArgs sWordsAmong) (defBody sWordsAmong) (defScope sWordsAmong) .none kV16 dc16 pm16 an16 cd16 ct16), sl16⟩) (c16 : PySem.W.codeIn K cd16 "words_among" = true) (k16 : PySem.W.keepIn K (.ref f16) = true)
    (a17 : PySem.W.nsIn K mainGlobals "firm_among" = some (some (.ref f17))) (l17 : K.lookup f17 = some ⟨oc17, od17, .func (PySem.W.fnOf "firm_among" "firm_among" (defArgs sFirmAmong) (defBody sFirmAmong) (defScope sFirmAmong) .none kV17 dc17 pm17 an17 cd17 ct17), sl17⟩) (c17 : PySem.W.codeIn K cd17 "firm_among" = true) (k17 : PySem.W.keepIn K (.ref f17) = true)
    (a18 : PySem.W.nsIn K mainGlobals "joined_in" = some (some (.ref f18))) (l18 : K.lookup f18 = some ⟨oc18, od18, .func (PySem.W.fnOf "joined_in" "joined_in" (defArgs sJoinedIn) (defBody sJoinedIn) (defScope sJoinedIn) .none kV18 dc18 pm18 an18 cd18 ct18), sl18⟩) (c18 : PySem.W.codeIn K cd18 "joined_in" = true) (k18 : PySem.W.keepIn K (.ref f18) = true)
    (a19 : PySem.W.nsIn K mainGlobals "same_words" = some (some (.ref f19))) (l19 : K.lookup f19 = some ⟨oc19, od19, .func (PySem.W.fnOf "same_words" "same_words" (defArgs sSameWords) (defBody sSameWords) (defScope sSameWords) .none kV19 dc19 pm19 an19 cd19 ct19), sl19⟩) (c19 : PySem.W.codeIn K cd19 "same_words" = true) (k19 : PySem.W.keepIn K (.ref f19) = true)
    (a20 : PySem.W.nsIn K mainGlobals "lone_couple" = some (some (.ref f20))) (l20 : K.lookup f20 = some ⟨oc20, od20, .func (PySem.W.fnOf "lone_couple" "lone_couple" (defArgs sLoneCouple) (defBody sLoneCouple) (defScope sLoneCouple) .none kV20 dc20 pm20 an20 cd20 ct20), sl20⟩) (c20 : PySem.W.codeIn K cd20 "lone_couple" = true) (k20 : PySem.W.keepIn K (.ref f20) = true)
    (a21 : PySem.W.nsIn K mainGlobals "differing" = some (some (.ref f21))) (l21 : K.lookup f21 = some ⟨oc21, od21, .func (PySem.W.fnOf "differing" "differing" (defArgs sDiffering) (defBody sDiffering) (defScope sDiffering) .none kV21 dc21 pm21 an21 cd21 ct21), sl21⟩) (c21 : PySem.W.codeIn K cd21 "differing" = true) (k21 : PySem.W.keepIn K (.ref f21) = true)
    (a22 : PySem.W.nsIn K mainGlobals "_law_hash" = some (some (.ref f22))) (l22 : K.lookup f22 = some ⟨oc22, od22, .func (PySem.W.fnOf "_law_hash" "_law_hash" (defArgs sLHash) (defBody sLHash) (defScope sLHash) .none kV22 dc22 pm22 an22 cd22 ct22), sl22⟩) (c22 : PySem.W.codeIn K cd22 "_law_hash" = true) (k22 : PySem.W.keepIn K (.ref f22) = true)
    (a23 : PySem.W.nsIn K mainGlobals "_law_random" = some (some (.ref f23))) (l23 : K.lookup f23 = some ⟨oc23, od23, .func (PySem.W.fnOf "_law_random" "_law_random" (defArgs sLRandom) (defBody sLRandom) (defScope sLRandom) .none kV23 dc23 pm23 an23 cd23 ct23), sl23⟩) (c23 : PySem.W.codeIn K cd23 "_law_random" = true) (k23 : PySem.W.keepIn K (.ref f23) = true)
    (a24 : PySem.W.nsIn K mainGlobals "_law_cell" = some (some (.ref f24))) (l24 : K.lookup f24 = some ⟨oc24, od24, .func (PySem.W.fnOf "_law_cell" "_law_cell" (defArgs sLCell) (defBody sLCell) (defScope sLCell) .none kV24 dc24 pm24 an24 cd24 ct24), sl24⟩) (c24 : PySem.W.codeIn K cd24 "_law_cell" = true) (k24 : PySem.W.keepIn K (.ref f24) = true)
    (a25 : PySem.W.nsIn K mainGlobals "_law_generator" = some (some (.ref f25))) (l25 : K.lookup f25 = some ⟨oc25, od25, .func (PySem.W.fnOf "_law_generator" "_law_generator" (defArgs sLGenerator) (defBody sLGenerator) (defScope sLGenerator) .none kV25 dc25 pm25 an25 cd25 ct25), sl25⟩) (c25 : PySem.W.codeIn K cd25 "_law_generator" = true) (k25 : PySem.W.keepIn K (.ref f25) = true)
    (a26 : PySem.W.nsIn K mainGlobals "_law_tie" = some (some (.ref f26))) (l26 : K.lookup f26 = some ⟨oc26, od26, .func (PySem.W.fnOf "_law_tie" "_law_tie" (defArgs sLTie) (defBody sLTie) (defScope sLTie) .none kV26 dc26 pm26 an26 cd26 ct26), sl26⟩) (c26 : PySem.W.codeIn K cd26 "_law_tie" = true) (k26 : PySem.W.keepIn K (.ref f26) = true)
    (a27 : PySem.W.nsIn K mainGlobals "_law_grown" = some (some (.ref f27))) (l27 : K.lookup f27 = some ⟨oc27, od27, .func (PySem.W.fnOf "_law_grown" "_law_grown" (defArgs sLGrown) (defBody sLGrown) (defScope sLGrown) .none kV27 dc27 pm27 an27 cd27 ct27), sl27⟩) (c27 : PySem.W.codeIn K cd27 "_law_grown" = true) (k27 : PySem.W.keepIn K (.ref f27) = true)
    (a28 : PySem.W.nsIn K mainGlobals "_law_alike" = some (some (.ref f28))) (l28 : K.lookup f28 = some ⟨oc28, od28, .func (PySem.W.fnOf "_law_alike" "_law_alike" (defArgs sLAlike) (defBody sLAlike) (defScope sLAlike) .none kV28 dc28 pm28 an28 cd28 ct28), sl28⟩) (c28 : PySem.W.codeIn K cd28 "_law_alike" = true) (k28 : PySem.W.keepIn K (.ref f28) = true)
    (a29 : PySem.W.nsIn K mainGlobals "_law_couples" = some (some (.ref f29))) (l29 : K.lookup f29 = some ⟨oc29, od29, .func (PySem.W.fnOf "_law_couples" "_law_couples" (defArgs sLCouples) (defBody sLCouples) (defScope sLCouples) .none kV29 dc29 pm29 an29 cd29 ct29), sl29⟩) (c29 : PySem.W.codeIn K cd29 "_law_couples" = true) (k29 : PySem.W.keepIn K (.ref f29) = true)
    (a30 : PySem.W.nsIn K mainGlobals "_law_near" = some (some (.ref f30))) (l30 : K.lookup f30 = some ⟨oc30, od30, .func (PySem.W.fnOf "_law_near" "_law_near" (defArgs sLNear) (defBody sLNear) (defScope sLNear) .none kV30 dc30 pm30 an30 cd30 ct30), sl30⟩) (c30 : PySem.W.codeIn K cd30 "_law_near" = true) (k30 : PySem.W.keepIn K (.ref f30) = true)
    (a31 : PySem.W.nsIn K mainGlobals "_law_led" = some (some (.ref f31))) (l31 : K.lookup f31 = some ⟨oc31, od31, .func (PySem.W.fnOf "_law_led" "_law_led" (defArgs sLLed) (defBody sLLed) (defScope sLLed) .none kV31 dc31 pm31 an31 cd31 ct31), sl31⟩) (c31 : PySem.W.codeIn K cd31 "_law_led" = true) (k31 : PySem.W.keepIn K (.ref f31) = true)
    (a32 : PySem.W.nsIn K mainGlobals "_law_bent" = some (some (.ref f32))) (l32 : K.lookup f32 = some ⟨oc32, od32, .func (PySem.W.fnOf "_law_bent" "_law_bent" (defArgs sLBent) (defBody sLBent) (defScope sLBent) .none kV32 dc32 pm32 an32 cd32 ct32), sl32⟩) (c32 : PySem.W.codeIn K cd32 "_law_bent" = true) (k32 : PySem.W.keepIn K (.ref f32) = true)
    (a33 : PySem.W.nsIn K mainGlobals "_law_due" = some (some (.ref f33))) (l33 : K.lookup f33 = some ⟨oc33, od33, .func (PySem.W.fnOf "_law_due" "_law_due" (defArgs sLDue) (defBody sLDue) (defScope sLDue) .none kV33 dc33 pm33 an33 cd33 ct33), sl33⟩) (c33 : PySem.W.codeIn K cd33 "_law_due" = true) (k33 : PySem.W.keepIn K (.ref f33) = true)
    (a34 : PySem.W.nsIn K mainGlobals "_law_road_right" = some (some (.ref f34))) (l34 : K.lookup f34 = some ⟨oc34, od34, .func (PySem.W.fnOf "_law_road_right" "_law_road_right" (defArgs sLRoadRight) (defBody sLRoadRight) (defScope sLRoadRight) .none kV34 dc34 pm34 an34 cd34 ct34), sl34⟩) (c34 : PySem.W.codeIn K cd34 "_law_road_right" = true) (k34 : PySem.W.keepIn K (.ref f34) = true)
    (a35 : PySem.W.nsIn K mainGlobals "_law_pair_right" = some (some (.ref f35))) (l35 : K.lookup f35 = some ⟨oc35, od35, .func (PySem.W.fnOf "_law_pair_right" "_law_pair_right" (defArgs sLPairRight) (defBody sLPairRight) (defScope sLPairRight) .none kV35 dc35 pm35 an35 cd35 ct35), sl35⟩) (c35 : PySem.W.codeIn K cd35 "_law_pair_right" = true) (k35 : PySem.W.keepIn K (.ref f35) = true)
    (a36 : PySem.W.nsIn K mainGlobals "law" = some (some (.ref f36))) (l36 : K.lookup f36 = some ⟨oc36, od36, .func (PySem.W.fnOf "law" "law" (defArgs sLaw) (defBody sLaw) (defScope sLaw) .none kV36 dc36 pm36 an36 cd36 ct36), sl36⟩) (c36 : PySem.W.codeIn K cd36 "law" = true) (k36 : PySem.W.keepIn K (.ref f36) = true)
    (z0 : PySem.W.nsIn K mainGlobals "len" = some none)
    (z1 : PySem.W.nsIn K mainGlobals "range" = some none)
    (z2 : PySem.W.nsIn K mainGlobals "max" = some none)
    (z3 : PySem.W.nsIn K mainGlobals "min" = some none)
    (z4 : PySem.W.nsIn K mainGlobals "isinstance" = some none)
    (z5 : PySem.W.nsIn K mainGlobals "int" = some none)
    (z6 : PySem.W.nsIn K mainGlobals "bool" = some none)
    (z7 : PySem.W.nsIn K mainGlobals "list" = some none)
    (z8 : PySem.W.nsIn K mainGlobals "enumerate" = some none)
    (z9 : PySem.W.nsIn K mainGlobals "sum" = some none)
    (z10 : PySem.W.nsIn K mainGlobals "repr" = some none)
    (m9 : PySem.W.nsIn K mainGlobals "MOST_KINDS" = some (some (.int 9 t9))) (m40 : PySem.W.nsIn K mainGlobals "MOST_PEOPLE" = some (some (.int 40 t40))) :
    ∃ fd : FuncData, (∀ (s : Shared) (v : Value), BindsTo s fd ⟨[v], []⟩ [("_law_script", v)]) ∧ ∀ base : Heap, K.In base → base.Ns mainGlobals mg → GOk l.prog w K mg base 9 fa fd ["_law_script"] (spLaw K) := by
  have T : Txt K mg := ⟨PySem.W.mg_none_of X G z0, PySem.W.mg_none_of X G z1, PySem.W.mg_none_of X G z2, PySem.W.mg_none_of X G z3, PySem.W.mg_none_of X G z4, PySem.W.mg_none_of X G z5, PySem.W.mg_none_of X G z6, PySem.W.mg_none_of X G z7, PySem.W.mg_none_of X G z8, PySem.W.mg_none_of X G z9, PySem.W.mg_none_of X G z10, df_mk X G a0 l0 c0 k0 (fun _ _ _ _ _ _ us hl => match us, hl with | [_], _ => rfl), df_mk X G a1 l1 c1 k1 (fun _ _ _ _ _ _ us hl => match us, hl with | [_, _, _], _ => rfl), df_mk X G a2 l2 c2 k2 (fun _ _ _ _ _ _ us hl => match us, hl with | [_, _, _], _ => rfl), df_mk X G a3 l3 c3 k3 (fun _ _ _ _ _ _ us hl => match us, hl with | [_], _ => rfl), df_mk X G a4 l4 c4 k4 (fun _ _ _ _ _ _ us hl => match us, hl with | [_, _, _], _ => rfl), df_mk X G a5 l5 c5 k5 (fun _ _ _ _ _ _ us hl => match us, hl with | [_, _], _ => rfl), df_mk X G a6 l6 c6 k6 (fun _ _ _ _ _ _ us hl => match us, hl with | [_, _], _ => rfl), df_mk X G a7 l7 c7 k7 (fun _ _ _ _ _ _ us hl => match us, hl with | [_, _, _], _ => rfl), df_mk X G a8 l8 c8 k8 (fun _ _ _ _ _ _ us hl => match us, hl with | [_, _, _], _ => rfl), df_mk X G a9 l9 c9 k9 (fun _ _ _ _ _ _ us hl => match us, hl with | [_, _, _], _ => rfl), df_mk X G a10 l10 c10 k10 (fun _ _ _ _ _ _ us hl => match us, hl with | [_], _ => rfl), df_mk X G a11 l11 c11 k11 (fun _ _ _ _ _ _ us hl => match us, hl with | [_, _, _, _], _ => rfl), df_mk X G a12 l12 c12 k12 (fun _ _ _ _ _ _ us hl => match us, hl with | [_], _ => rfl), df_mk X G a13 l13 c13 k13 (fun _ _ _ _ _ _ us hl => match us, hl with | [_], _ => rfl), df_mk X G a14 l14 c14 k14 (fun _ _ _ _ _ _ us hl => match us, hl with | [_, _], _ => rfl), df_mk X G a15 l15 c15 k15 (fun _ _ _ _ _ _ us hl => match us, hl with | [_], _ => rfl), df_mk X G a16 l16 c16 k16 (fun _ _ _ _ _ _ us hl => match us, hl with | [_, _], _ => rfl), df_mk X G a17 l17 c17 k17 (fun _ _ _ _ _ _ us hl => match us, hl with | [_, _], _ => rfl), df_mk X G a18 l18 c18 k18 (fun _ _ _ _ _ _ us hl => match us, hl with | [_, _, _], _ => rfl), df_mk X G a19 l19 c19 k19 (fun _ _ _ _ _ _ us hl => match us, hl with | [_, _, _], _ => rfl), df_mk X G a20 l20 c20 k20 (fun _ _ _ _ _ _ us hl => match us, hl with | [_, _, _], _ => rfl), df_mk X G a21 l21 c21 k21 (fun _ _ _ _ _ _ us hl => match us, hl with | [_, _, _], _ => rfl), df_mk X G a22 l22 c22 k22 (fun _ _ _ _ _ _ us hl => match us, hl with | [_, _], _ => rfl), df_mk X G a23 l23 c23 k23 (fun _ _ _ _ _ _ us hl => match us, hl with | [_, _], _ => rfl), df_mk X G a24 l24 c24 k24 (fun _ _ _ _ _ _ us hl => match us, hl with | [_, _], _ => rfl), df_mk X G a25 l25 c25 k25 (fun _ _ _ _ _ _ us hl => match us, hl with | [_, _], _ => rfl), df_mk X G a26 l26 c26 k26 (fun _ _ _ _ _ _ us hl => match us, hl with | [_, _, _], _ => rfl), df_mk X G a27 l27 c27 k27 (fun _ _ _ _ _ _ us hl => match us, hl with | [_, _, _], _ => rfl), df_mk X G a28 l28 c28 k28 (fun _ _ _ _ _ _ us hl => match us, hl with | [_, _, _], _ => rfl), df_mk X G a29 l29 c29 k29 (fun _ _ _ _ _ _ us hl => match us, hl with | [_], _ => rfl), df_mk X G a30 l30 c30 k30 (fun _ _ _ _ _ _ us hl => match us, hl with | [_, _], _ => rfl), df_mk X G a31 l31 c31 k31 (fun _ _ _ _ _ _ us hl => match us, hl with | [_, _, _, _], _ => rfl), df_mk X G a32 l32 c32 k32 (fun _ _ _ _ _ _ us hl => match us, hl with | [_, _, _], _ => rfl), df_mk X G a33 l33 c33 k33 (fun _ _ _ _ _ _ us hl => match us, hl with | [_, _], _ => rfl), df_mk X G a34 l34 c34 k34 (fun _ _ _ _ _ _ us hl => match us, hl with | [_, _, _], _ => rfl), df_mk X G a35 l35 c35 k35 (fun _ _ _ _ _ _ us hl => match us, hl with | [_, _, _], _ => rfl), df_mk X G a36 l36 c36 k36 (fun _ _ _ _ _ _ us hl => match us, hl with | [_], _ => rfl), con_mk X G m9, con_mk X G m40⟩
  exact fin_mk X G hfa T a36 l36 c36 k36
end Tw
open PySem PySem.W PyProof.Rows
set_option Elab.async false
set_option maxRecDepth 100000 in
set_option maxHeartbeats 0 in
theorem PySem.Challenge.cw_twinties_k20_whole_couples_that_differ_holds : PySem.Challenge.rw_twinties_k20_whole_couples_that_differ.Holds := by
  w_on; o_law; k_head; (case hw => w_witness2)
  k_fill
  refine TwG.walk_G (l := PySem.Challenge.rw_twinties_k20_whole_couples_that_differ) (n := 63) (k := 9) (x := "_law_script") (sp := fun w => Tw.spLaw _) rfl (by decide) rfl ⟨rfl, by decide, by decide⟩ (fun w h Y => PySem.W.kIn_of Y) ?F (fun _ _ a ns hl _ hS => ⟨a, ns, rfl, hS, hl, fun _ => rfl⟩)
  case F =>
    intro w mg fa h KX G hmg
    refine' Tw.all_mk KX G hmg ?a0 ?l0 ?c0 ?k0 ?a1 ?l1 ?c1 ?k1 ?a2 ?l2 ?c2 ?k2 ?a3 ?l3 ?c3 ?k3 ?a4 ?l4 ?c4 ?k4 ?a5 ?l5 ?c5 ?k5 ?a6 ?l6 ?c6 ?k6 ?a7 ?l7 ?c7 ?k7 ?a8 ?l8 ?c8 ?k8 ?a9 ?l9 ?c9 ?k9 ?a10 ?l10 ?c10 ?k10 ?a11 ?l11 ?c11 ?k11 ?a12 ?l12 ?c12 ?k12 ?a13 ?l13 ?c13 ?k13 ?a14 ?l14 ?c14 ?k14 ?a15 ?l15 ?c15 ?k15 ?a16 ?l16 ?c16 ?k16 ?a17 ?l17 ?c17 ?k17 ?a18 ?l18 ?c18 ?k18 ?a19 ?l19 ?c19 ?k19 ?a20 ?l20 ?c20 ?k20 ?a21 ?l21 ?c21 ?k21 ?a22 ?l22 ?c22 ?k22 ?a23 ?l23 ?c23 ?k23 ?a24 ?l24 ?c24 ?k24 ?a25 ?l25 ?c25 ?k25 ?a26 ?l26 ?c26 ?k26 ?a27 ?l27 ?c27 ?k27 ?a28 ?l28 ?c28 ?k28 ?a29 ?l29 ?c29 ?k29 ?a30 ?l30 ?c30 ?k30 ?a31 ?l31 ?c31 ?k31 ?a32 ?l32 ?c32 ?k32 ?a33 ?l33 ?c33 ?k33 ?a34 ?l34 ?c34 ?k34 ?a35 ?l35 ?c35 ?k35 ?a36 ?l36 ?c36 ?k36 ?z0 ?z1 ?z2 ?z3 ?z4 ?z5 ?z6 ?z7 ?z8 ?z9 ?z10 ?m9 ?m40
    (case a0 => k_is); (case l0 => k_is); (case c0 => k_is); (case k0 => k_is); (case a1 => k_is); (case l1 => k_is)
    (case c1 => k_is); (case k1 => k_is); (case a2 => k_is); (case l2 => k_is); (case c2 => k_is); (case k2 => k_is)
    (case a3 => k_is); (case l3 => k_is); (case c3 => k_is); (case k3 => k_is); (case a4 => k_is); (case l4 => k_is)
    (case c4 => k_is); (case k4 => k_is); (case a5 => k_is); (case l5 => k_is); (case c5 => k_is); (case k5 => k_is)
    (case a6 => k_is); (case l6 => k_is); (case c6 => k_is); (case k6 => k_is); (case a7 => k_is); (case l7 => k_is)
    (case c7 => k_is); (case k7 => k_is); (case a8 => k_is); (case l8 => k_is); (case c8 => k_is); (case k8 => k_is)
    (case a9 => k_is); (case l9 => k_is); (case c9 => k_is); (case k9 => k_is); (case a10 => k_is); (case l10 => k_is)
    (case c10 => k_is); (case k10 => k_is); (case a11 => k_is); (case l11 => k_is); (case c11 => k_is); (case k11 => k_is)
    (case a12 => k_is); (case l12 => k_is); (case c12 => k_is); (case k12 => k_is); (case a13 => k_is); (case l13 => k_is)
    (case c13 => k_is); (case k13 => k_is); (case a14 => k_is); (case l14 => k_is); (case c14 => k_is); (case k14 => k_is)
    (case a15 => k_is); (case l15 => k_is); (case c15 => k_is); (case k15 => k_is); (case a16 => k_is); (case l16 => k_is)
    (case c16 => k_is); (case k16 => k_is); (case a17 => k_is); (case l17 => k_is); (case c17 => k_is); (case k17 => k_is)
    (case a18 => k_is); (case l18 => k_is); (case c18 => k_is); (case k18 => k_is); (case a19 => k_is); (case l19 => k_is)
    (case c19 => k_is); (case k19 => k_is); (case a20 => k_is); (case l20 => k_is); (case c20 => k_is); (case k20 => k_is)
    (case a21 => k_is); (case l21 => k_is); (case c21 => k_is); (case k21 => k_is); (case a22 => k_is); (case l22 => k_is)
    (case c22 => k_is); (case k22 => k_is); (case a23 => k_is); (case l23 => k_is); (case c23 => k_is); (case k23 => k_is)
    (case a24 => k_is); (case l24 => k_is); (case c24 => k_is); (case k24 => k_is); (case a25 => k_is); (case l25 => k_is)
    (case c25 => k_is); (case k25 => k_is); (case a26 => k_is); (case l26 => k_is); (case c26 => k_is); (case k26 => k_is)
    (case a27 => k_is); (case l27 => k_is); (case c27 => k_is); (case k27 => k_is); (case a28 => k_is); (case l28 => k_is)
    (case c28 => k_is); (case k28 => k_is); (case a29 => k_is); (case l29 => k_is); (case c29 => k_is); (case k29 => k_is)
    (case a30 => k_is); (case l30 => k_is); (case c30 => k_is); (case k30 => k_is); (case a31 => k_is); (case l31 => k_is)
    (case c31 => k_is); (case k31 => k_is); (case a32 => k_is); (case l32 => k_is); (case c32 => k_is); (case k32 => k_is)
    (case a33 => k_is); (case l33 => k_is); (case c33 => k_is); (case k33 => k_is); (case a34 => k_is); (case l34 => k_is)
    (case c34 => k_is); (case k34 => k_is); (case a35 => k_is); (case l35 => k_is); (case c35 => k_is); (case k35 => k_is)
    (case a36 => k_is); (case l36 => k_is); (case c36 => k_is); (case k36 => k_is); (case z0 => k_is); (case z1 => k_is)
    (case z2 => k_is); (case z3 => k_is); (case z4 => k_is); (case z5 => k_is); (case z6 => k_is); (case z7 => k_is)
    (case z8 => k_is); (case z9 => k_is); (case z10 => k_is); (case m9 => k_is); (case m40 => k_is)
#print axioms PySem.Challenge.cw_twinties_k20_whole_couples_that_differ_holds
