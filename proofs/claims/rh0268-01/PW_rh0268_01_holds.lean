import PyProof.Rows.All
import Wide.All
import OpenK.AllK
import Wide.FinOn
import KE.KEqSeq
import Lean
import PySem.Challenge.RW_rh0268_01
open PySem PySem.W PyProof.Rows
set_option Elab.async false
namespace Mine
/-- the text's body without the statements that the look at it cannot take -/
noncomputable def kept (l : List Stmt) : List Stmt := ((l.drop 1).take 19) ++ ((l.drop 21).take 3) ++ ((l.drop 25).take 8) ++ (l.drop 34)
noncomputable def vbody : { l : List Stmt // l = kept PySem.Challenge.pw_rh0268_01.main.body } := by
  refine ⟨?l, ?h⟩
  case h =>
    symm
    dsimp only [kept, PySem.Challenge.pw_rh0268_01, List.drop, List.take, List.append_assoc, List.cons_append, List.nil_append]
    exact rfl
noncomputable def vw : Program := { PySem.Challenge.pw_rh0268_01 with main := { PySem.Challenge.pw_rh0268_01.main with body := vbody.val } }
section
local macro_rules | `(tactic| o_head $H) => `(tactic| (
  refine PySem.W.holds_open (q := vw) (loose := [PySem.Str.ofString "WORDS", PySem.Str.ofString "SIGNS"]) (Xt := fun s => xlAt vw [] s && recOk (RowW.records (OpenRow.toRowW PySem.Challenge.rw_rh0268_01.row)) s) (XP := XL vw [])
    (Yf := Hook.obs $H) (Ya := Hook.val $H) (YP := Hook.says $H) (N := 2792) ?hl (Hook.of $H) (Hook.keeps $H) (fun s e => xl_of s (Bool.and_eq_true_iff.mp e).1) XL.keeps (by rfl) (by rfl) (by rfl)
    (fun s e => recFacts_of (Bool.and_eq_true_iff.mp e).2) (by rfl) (by first | assumption | decide +kernel) (by decide +kernel) ⟨rfl, rfl, rfl, rfl, rfl, by decide +kernel⟩ ?hw ?hc
  (case hl => (intro w; kernel_rfl))))
set_option maxRecDepth 100000 in
set_option maxHeartbeats 8000000 in
open_top hd for PySem.Challenge.rw_rh0268_01
end
end Mine

namespace Mine

/-- a contract: a call of the def at f with the arguments vs, the ledger l, ends and hands back a value and a ledger of which post holds -/
def Ctr (w : World) (mean : ExcName → Option Value) (mg mb : Str → Option Value) (d u : Nat) (f : Addr) (vs : List Value) (l : List (Addr × Obj)) (post : Value → List (Addr × Obj) → Prop) : Prop :=
  ∀ (dp un : Nat) (gd : Option (List Code)) (cn : Str) (cs : Scope) (a : Addr) (ccd : Value) (cl : List (Str × Addr)) (outer : List Env) (A₀ : Around) (base h₀ : Heap) (L : Addr) (m : Str → Option Value) (s : Shared) (Q E : Value → Shared → Prop),
    Below A₀ base outer h₀ → Fr h₀ L s.heap m → (hd.heap_39 w.params).In h₀ → News h₀ L s.heap l →
    Top vw (looseW vw [Str.ofString "WORDS", Str.ofString "SIGNS"]) mean mg mb h₀ → cs.kind = .function →
    dp + d < recursionLimit → un + u < cLine →
    (∀ (r : Value) (l' : List (Addr × Obj)) (h' : Heap) (tk' : Nat), Fr h₀ L h' m → News h₀ L h' l' → post r l' → Q r { s with heap := h', toks := tk' }) →
    wpAny (model PySem.Challenge.rw_rh0268_01.row.prog w) (ktrTop dp un gd cn cs L a ccd cl outer) (call (.ref f) vs) Q E s

theorem Ctr.use {w : World} {mean : ExcName → Option Value} {mg mb : Str → Option Value} {d u : Nat} {f : Addr} {vs : List Value} {l : List (Addr × Obj)} {post : Value → List (Addr × Obj) → Prop} (C : Ctr w mean mg mb d u f vs l post)
    {dp un : Nat} {gd : Option (List Code)} {cn : Str} {cs : Scope} {a : Addr} {ccd : Value} {cl : List (Str × Addr)} {outer : List Env} {A₀ : Around} {base h₀ : Heap} {L : Addr} {m : Str → Option Value} {s : Shared} {Q E : Value → Shared → Prop}
    (B : Below A₀ base outer h₀) (F : Fr h₀ L s.heap m) (X : (hd.heap_39 w.params).In h₀) (N : News h₀ L s.heap l)
    (T : Top vw (looseW vw [Str.ofString "WORDS", Str.ofString "SIGNS"]) mean mg mb h₀) (hk : cs.kind = .function) (hd : dp + d < recursionLimit) (hu : un + u < cLine)
    (ret : ∀ (r : Value) (l' : List (Addr × Obj)) (h' : Heap) (tk' : Nat), Fr h₀ L h' m → News h₀ L h' l' → post r l' → Q r { s with heap := h', toks := tk' }) :
    wpAny (model PySem.Challenge.rw_rh0268_01.row.prog w) (ktrTop dp un gd cn cs L a ccd cl outer) (call (.ref f) vs) Q E s :=
  C dp un gd cn cs a ccd cl outer A₀ base h₀ L m s Q E B F X N T hk hd hu ret

/-- a mark: the walk stops here, to go on by hand -/
def Stop (P : Prop) : Prop := P
theorem stop_of {P : Prop} (h : Stop P) : P := h

/-- l without its entry (d, o) is r -/
inductive Rem (d : Addr) (o : Obj) : List (Addr × Obj) → List (Addr × Obj) → Prop
  | head {r} : Rem d o ((d, o) :: r) r
  | tail {p l r} : Rem d o l r → Rem d o (p :: l) (p :: r)
theorem Rem.mem {d : Addr} {o : Obj} : ∀ {l r : List (Addr × Obj)}, Rem d o l r → ∀ p, p ∈ (d, o) :: r → p ∈ l
  | _, _, .head, p, h => h
  | _, _, .tail (p := q) R, p, h => by
    rcases List.mem_cons.mp h with h | h
    · exact .tail _ (R.mem p (h ▸ .head _))
    · rcases List.mem_cons.mp h with h | h
      · exact h ▸ .head _
      · exact .tail _ (R.mem p (.tail _ h))
theorem Rem.news {d : Addr} {o : Obj} {l r : List (Addr × Obj)} {h₀ h : Heap} {L : Addr} (R : Rem d o l r) (N : News h₀ L h l) : News h₀ L h ((d, o) :: r) := fun p hp => N p (R.mem p hp)

theorem drop2 {h₀ h : Heap} {L : Addr} {a b : Addr × Obj} {r : List (Addr × Obj)} (N : News h₀ L h (a :: b :: r)) : News h₀ L h (a :: r) := fun p hp => N p (by
  rcases List.mem_cons.mp hp with h | h
  · exact h ▸ List.Mem.head _
  · exact List.Mem.tail _ (List.Mem.tail _ h))

def RainedC (w : World) (mean : ExcName → Option Value) (mg mb : Str → Option Value) : Prop :=
  ∀ (l rest : List (Addr × Obj)) (dA iA : Addr) (vs : List Value) (ns : List Int) (n1 n2 : Nat) (k many : Int) (tk tm : Tok),
    Rem dA (listOf [.ref iA, .int k tk].toArray n1) l rest → (iA, listOf vs.toArray n2) ∈ rest → (∀ p ∈ rest, p.1 ≠ dA) → IntsAre vs ns → ns.length < 100 → 0 ≤ k → k < 1000 → 0 < many → many < 1000 →
    Ctr w mean mg mb 1 8 200 [.ref dA, .int many tm] l (fun v l' => ∃ r t t2, 0 ≤ r ∧ r < many ∧ v = .int r t ∧ l' = (dA, listOf [.ref iA, .int (k+1) t2].toArray n1) :: rest)
local macro_rules | `(tactic| k_all) => `(tactic| assumption)
set_option maxRecDepth 100000 in
set_option maxHeartbeats 8000000 in
theorem rained_ok (w : World) (mean : ExcName → Option Value) (mg mb : Str → Option Value) : RainedC w mean mg mb := by
  unfold RainedC Ctr
  k_fill
  k_with_none
  w_top off
  intro l rest dA iA vs ns n1 n2 k many tk tm hR hm hne hi hlen hk0 hk1 hm0 hm1 dp un gd cn cs a ccd cl outer A₀ base h₀ L m s Q E B F X N T hk hdp hun hret
  have N : News h₀ L s.heap ((dA, listOf [.ref iA, .int k tk].toArray n1) :: (iA, listOf vs.toArray n2) :: rest) := fun p hp => hR.news N p (by
    rcases List.mem_cons.mp hp with h | h
    · exact h ▸ .head _
    · rcases List.mem_cons.mp h with h | h
      · exact h ▸ .tail _ hm
      · exact .tail _ h)
  have hne' : iA ≠ dA := hne _ hm
  refine wpAny_call ?_
  k_dflt cell_enter
  k_steps
  all_goals exact hret _ _ _ _ (by assumption) (drop2 (by assumption)) ⟨_, _, _, Int.fmod_nonneg_of_pos _ hm0, Int.fmod_lt_of_pos _ hm0, rfl, rfl⟩
end Mine

namespace Mine
open PySem.Spec PySem.Calls LCg LCt

theorem pyIter_text {prog : Program} {w : World} {A : Around} {E : Value → Shared → Prop} {s : Shared} {x : Str} {t : Tok} {Q : Value → Shared → Prop}
    (hQ : ∀ (o : Obj) (St : Nat → Heap → Prop), (∀ A' : Around, A'.handled = none → Walks prog w A' s.heap.objs.size [s.heap.objs.size] [s.heap.objs.size] x.cps.size (SignAt x) St) →
      (∀ i h, St i h → ∃ o, h.get? s.heap.objs.size = some o) → St 0 (s.heap.push o) →
      Q (.ref s.heap.objs.size) { s with heap := s.heap.push o }) : wpAny (model prog w) A (pyIter (.str x t)) Q E s := by
  cases ha : x.cps.all (· < 128)
  · exact wpAny_pyIter_wide ha (hQ _ _ (fun A' hA => Walks.strWide hA _ x t) (fun i h st => let ⟨o, ho, _⟩ := st; ⟨o, ho⟩) ⟨_, Heap.get?_push_size _ rfl, rfl, rfl⟩)
  · exact wpAny_pyIter_ascii ha (hQ _ _ (fun A' hA => Walks.strAscii hA _ x t) (fun i h st => let ⟨o, ho, _⟩ := st; ⟨o, ho⟩) ⟨_, Heap.get?_push_size _ rfl, rfl, rfl⟩)

section
variable {prog : Program} {w : World} {A : Around} {E : Value → Shared → Prop} {s : Shared} {h₀ : Heap} {L : Addr} {m : Str → Option Value} {env : Env}

/-- the signs of the text that pass, in a block's list -/
theorem carried_filter_rest {ct : Expr} {x : Str} {px : Pos} {scope : Scope} {cl : List (Str × Addr)} {news : List (Addr × Obj)} {y : Str} (q : Nat → Bool) (Q : Value → Shared → Prop)
    (hkind : scope.kind = .function) (hx : scope.names.lookup x = some .local) (hd : (x == ("__debug__" : Str)) = false)
    (test : ∀ c t I oI C oC D m₂ ys h tk (E' : Value → Shared → Prop), c ∈ y.cps.toList → NsObj oC m₂ → m₂ x = some (.str ⟨#[c]⟩ t) → Fr h₀ L h m → News h₀ L h ((I, oI) :: (C, oC) :: (D, lst ys) :: news) → Off3 I C D news → ((@Ne Nat I C) ∧ (@Ne Nat I D) ∧ (@Ne Nat C D)) →
      wpAny (model prog w) A (isTrue ct (compEnvC scope cl C env) (eval ct (compEnvC scope cl C env))) (fun ok s' => ok = q c ∧ ∃ tk', s' = { s with heap := h, toks := tk' }) E' { s with heap := h, toks := tk })
    (s₂ : Shared) (es : ∃ g, s₂ = { s with heap := g })
    (fin : ∀ D ys h tk, Fr h₀ L h m → News h₀ L h ((D, lst ys) :: news) → Off1 D news → CarriedAll ys ((y.cps.toList.filter q).map fun c => PyData.str ⟨#[c]⟩) → Q (.ref D) { s with heap := h, toks := tk }) :
    CompRestT prog w A h₀ L m env ct (.Name x px) x scope cl s₂ (fun _ => True) (SignAt y) (FinE h₀ L m s₂ Q) y.cps.size 0 [] news := by
  obtain ⟨g, rfl⟩ := es
  have key : ∀ (j i : Nat) (ys : List Value), i + j = y.cps.size → CarriedAll ys (((y.cps.toList.take i).filter q).map fun c => PyData.str ⟨#[c]⟩) →
      CompRestT prog w A h₀ L m env ct (.Name x px) x scope cl { s with heap := g } (fun _ => True) (SignAt y) (FinE h₀ L m { s with heap := g } Q) j i ys news := by
    intro j
    induction j with
    | zero =>
      intro i ys hi hy
      refine CompRestT.zero ?_
      rw [show i = y.cps.toList.length by simpa using hi, List.take_length] at hy
      intro D h tk F N o
      exact fin D ys h tk F N o hy
    | succ j ih =>
      intro i ys hi hy
      refine CompRestT.succ ?_
      rintro v I oI C oC D m₂ h tk E' ⟨c, t, hc, rfl⟩ hC hxv F N off ne
      have hc' : y.cps.toList[i]? = some c := by simpa using hc
      have hs : y.cps.toList.take (i + 1) = y.cps.toList.take i ++ [c] := by rw [List.take_add_one, hc']; rfl
      refine wpAny_mono (test c t I oI C oC D m₂ ys h tk E' (List.mem_of_getElem? hc') hC hxv F N off ne) (fun ok s' hq => ?_) fun _ _ e => e
      obtain ⟨rfl, tk', rfl⟩ := hq
      by_cases hqc : q c = true
      · rw [if_pos hqc]
        refine LCgL.ld_own N (List.Mem.tail _ (List.Mem.head _)) hC hxv ?_ (by simp [compEnvC, relabel, hkind]) (lookup_relabel_local hx) hd
        refine ⟨h, tk', news, rfl, F, N, off, trivial, ih (i + 1) _ (by omega) ?_⟩
        rw [hs, List.filter_append, List.map_append]
        have e1 : ([c].filter q) = [c] := by simp [hqc]
        rw [e1]
        exact hy.appendLM (.cons (.str ⟨#[c]⟩ t) .nil)
      · have hqf : q c = false := by simpa using hqc
        rw [if_neg hqc]
        refine ⟨h, tk', news, rfl, F, N, off, trivial, ih (i + 1) _ (by omega) ?_⟩
        rw [hs, List.filter_append, List.map_append]
        have e1 : ([c].filter q) = [] := by simp [hqf]
        rw [e1]
        simpa using hy
  exact key _ 0 [] (by omega) (by simpa using CarriedAll.nil)

theorem ListComp_filter_str {ct iter : Expr} {x : Str} {px px' : Pos} {scope : Scope} {cl : List (Str × Addr)} {pos : Pos} {news : List (Addr × Obj)} {y : Str} {ty : Tok} {Q : Value → Shared → Prop} (q : Nat → Bool)
    (F : Fr h₀ L s.heap m) (N : News h₀ L s.heap news) (hh : A.handled = none)
    (hiter : wpAny (model prog w) A (eval iter env) (fun v s' => v = .str y ty ∧ s' = s) E s) (hsz : y.cps.size ≤ sizeLine)
    (test : ∀ c t I oI C oC D m₂ ys h tk (E' : Value → Shared → Prop), c ∈ y.cps.toList → NsObj oC m₂ → m₂ x = some (.str ⟨#[c]⟩ t) → Fr h₀ L h m → News h₀ L h ((I, oI) :: (C, oC) :: (D, lst ys) :: news) → Off3 I C D news → ((@Ne Nat I C) ∧ (@Ne Nat I D) ∧ (@Ne Nat C D)) →
      wpAny (model prog w) A (isTrue ct (compEnvC scope cl C env) (eval ct (compEnvC scope cl C env))) (fun ok s' => ok = q c ∧ ∃ tk', s' = { s with heap := h, toks := tk' }) E' { s with heap := h, toks := tk })
    (fin : ∀ D ys h tk, Fr h₀ L h m → News h₀ L h ((D, lst ys) :: news) → Off1 D news → CarriedAll ys ((y.cps.toList.filter q).map fun c => PyData.str ⟨#[c]⟩) → Q (.ref D) { s with heap := h, toks := tk })
    (hclos : closureFor scope env = pure cl) (hcell : ∀ y ∈ scope.names, y.2 ≠ .cell) (hkind : scope.kind = .function)
    (hnames : ∀ y ∈ scope.names, y.2 = .local → scope.names.lookup y.1 = some .local) (hx : scope.names.lookup x = some .local)
    (hs : ∀ x, foldedSetIterable iter env x = pure x) (hd : (x == ("__debug__" : Str)) = false) :
    wpAny (model prog w) A (eval (.ListComp (.Name x px') [⟨.Name x px, iter, [ct], 0⟩] scope pos) env) Q E s := by
  rw [eval_ListComp]
  refine wpAny_comprehension_free (use := none) rfl hs hclos hkind hnames (wpAny_mono hiter (fun xv s₁ h₁ => ?_) fun _ _ e => e)
  obtain ⟨rfl, rfl⟩ := h₁
  refine pyIter_text fun o St W hIo hst => ?_
  refine block_T (W A hh) hsz hIo ?_ hcell hkind hx hst (fun b hb => ?_) (F.push _) (fun p hp => ⟨Heap.get?_push_of_some _ (N p hp).1, (N p hp).2⟩) (Nat.ne_of_lt F.ns.lt) (next_is_new F)
      (fun p hp => Nat.ne_of_lt (Heap.lt_size (N p hp).1)) trivial (carried_filter_rest (s := s₁) q Q hkind hx hd test _ ⟨_, rfl⟩ fin) ?_
  · intro i h h' o nw st e e' _ _ _
    refine (W A hh).frame _ _ _ st fun b hb o' eo => ?_
    rw [List.mem_singleton.mp hb] at eo ⊢
    rw [e'] ; rw [e] at eo; exact eo
  · rw [List.mem_singleton.mp hb]
    show s₁.heap.objs.size < (s₁.heap.push _).objs.size
    rw [Heap.size_push]; exact Nat.lt_succ_self _
  · intro D C h tk m' ys news' F' N' o1 hn hC₀ hD₀ hCL hDL hCD offC fin
    refine ⟨m', hn, fun h'' hs'' => fin D h'' tk (F'.change hs'' hCL hC₀) (fun p hp => ?_) o1⟩
    refine ⟨hs''.extBut _ _ ?_ (N' p hp).1, (N' p hp).2⟩
    rcases List.mem_cons.mp hp with rfl | hp
    · exact Ne.symm hCD
    · exact offC p hp

theorem carried_map_rest {elt : Expr} {x : Str} {scope : Scope} {cl : List (Str × Addr)} {news : List (Addr × Obj)} {y : Str} (g : Nat → Str) (Q : Value → Shared → Prop)
    (turn : ∀ c t I oI C oC D m₂ ys h tk (E' : Value → Shared → Prop), c ∈ y.cps.toList → NsObj oC m₂ → m₂ x = some (.str ⟨#[c]⟩ t) → Fr h₀ L h m → News h₀ L h ((I, oI) :: (C, oC) :: (D, lst ys) :: news) → Off3 I C D news → ((@Ne Nat I C) ∧ (@Ne Nat I D) ∧ (@Ne Nat C D)) →
      wpAny (model prog w) A (eval elt (compEnvC scope cl C env)) (fun v s' => (∃ t, v = .str (g c) t) ∧ ∃ h' tk', s' = { s with heap := h', toks := tk' } ∧ Fr h₀ L h' m ∧ News h₀ L h' ((I, oI) :: (C, oC) :: (D, lst ys) :: news)) E' { s with heap := h, toks := tk })
    (s₂ : Shared) (es : ∃ g, s₂ = { s with heap := g })
    (fin : ∀ D ys h tk, Fr h₀ L h m → News h₀ L h ((D, lst ys) :: news) → Off1 D news → CarriedAll ys (y.cps.toList.map fun c => PyData.str (g c)) → Q (.ref D) { s with heap := h, toks := tk }) :
    CompRest prog w A h₀ L m env elt x scope cl s₂ (fun _ => True) (SignAt y) (FinE h₀ L m s₂ Q) y.cps.size 0 [] news := by
  obtain ⟨g0, rfl⟩ := es
  have key : ∀ (j i : Nat) (ys : List Value), i + j = y.cps.size → CarriedAll ys ((y.cps.toList.take i).map fun c => PyData.str (g c)) →
      CompRest prog w A h₀ L m env elt x scope cl { s with heap := g0 } (fun _ => True) (SignAt y) (FinE h₀ L m { s with heap := g0 } Q) j i ys news := by
    intro j
    induction j with
    | zero =>
      intro i ys hi hy
      refine CompRest.zero ?_
      rw [show i = y.cps.toList.length by simpa using hi, List.take_length] at hy
      intro D h tk F N o
      exact fin D ys h tk F N o hy
    | succ j ih =>
      intro i ys hi hy
      refine CompRest.succ ?_
      rintro v I oI C oC D m₂ h tk E' ⟨c, t, hc, rfl⟩ hC hxv F N off ne
      have hc' : y.cps.toList[i]? = some c := by simpa using hc
      have hs : y.cps.toList.take (i + 1) = y.cps.toList.take i ++ [c] := by rw [List.take_add_one, hc']; rfl
      refine wpAny_mono (turn c t I oI C oC D m₂ ys h tk E' (List.mem_of_getElem? hc') hC hxv F N off ne) (fun v s' hq => ?_) fun _ _ e => e
      obtain ⟨⟨t', rfl⟩, h', tk', rfl, F', N'⟩ := hq
      refine ⟨h', tk', news, rfl, F', N', off, trivial, ih (i + 1) _ (by omega) ?_⟩
      rw [hs, List.map_append]
      exact hy.appendLM (.cons (.str (g c) t') .nil)
  exact key _ 0 [] (by omega) (by simpa using CarriedAll.nil)

theorem ListComp_map_str {elt iter : Expr} {x : Str} {px : Pos} {scope : Scope} {cl : List (Str × Addr)} {pos : Pos} {news : List (Addr × Obj)} {y : Str} {ty : Tok} {Q : Value → Shared → Prop} (g : Nat → Str)
    (F : Fr h₀ L s.heap m) (N : News h₀ L s.heap news) (hh : A.handled = none)
    (hiter : wpAny (model prog w) A (eval iter env) (fun v s' => v = .str y ty ∧ s' = s) E s) (hsz : y.cps.size ≤ sizeLine)
    (turn : ∀ c t I oI C oC D m₂ ys h tk (E' : Value → Shared → Prop), c ∈ y.cps.toList → NsObj oC m₂ → m₂ x = some (.str ⟨#[c]⟩ t) → Fr h₀ L h m → News h₀ L h ((I, oI) :: (C, oC) :: (D, lst ys) :: news) → Off3 I C D news → ((@Ne Nat I C) ∧ (@Ne Nat I D) ∧ (@Ne Nat C D)) →
      wpAny (model prog w) A (eval elt (compEnvC scope cl C env)) (fun v s' => (∃ t, v = .str (g c) t) ∧ ∃ h' tk', s' = { s with heap := h', toks := tk' } ∧ Fr h₀ L h' m ∧ News h₀ L h' ((I, oI) :: (C, oC) :: (D, lst ys) :: news)) E' { s with heap := h, toks := tk })
    (fin : ∀ D ys h tk, Fr h₀ L h m → News h₀ L h ((D, lst ys) :: news) → Off1 D news → CarriedAll ys (y.cps.toList.map fun c => PyData.str (g c)) → Q (.ref D) { s with heap := h, toks := tk })
    (hclos : closureFor scope env = pure cl) (hcell : ∀ y ∈ scope.names, y.2 ≠ .cell) (hkind : scope.kind = .function)
    (hnames : ∀ y ∈ scope.names, y.2 = .local → scope.names.lookup y.1 = some .local) (hx : scope.names.lookup x = some .local)
    (hs : ∀ x, foldedSetIterable iter env x = pure x) :
    wpAny (model prog w) A (eval (.ListComp elt [⟨.Name x px, iter, [], 0⟩] scope pos) env) Q E s := by
  rw [eval_ListComp]
  refine wpAny_comprehension_free (use := none) rfl hs hclos hkind hnames (wpAny_mono hiter (fun xv s₁ h₁ => ?_) fun _ _ e => e)
  obtain ⟨rfl, rfl⟩ := h₁
  refine pyIter_text fun o St W hIo hst => ?_
  refine block_U (W A hh) hsz hIo ?_ hcell hkind hx hst (fun b hb => ?_) (F.push _) (fun p hp => ⟨Heap.get?_push_of_some _ (N p hp).1, (N p hp).2⟩) (Nat.ne_of_lt F.ns.lt) (next_is_new F)
      (fun p hp => Nat.ne_of_lt (Heap.lt_size (N p hp).1)) trivial (carried_map_rest (s := s₁) g Q turn _ ⟨_, rfl⟩ fin) ?_
  · intro i h h' o nw st e e' _ _ _
    refine (W A hh).frame _ _ _ st fun b hb o' eo => ?_
    rw [List.mem_singleton.mp hb] at eo ⊢
    rw [e'] ; rw [e] at eo; exact eo
  · rw [List.mem_singleton.mp hb]
    show s₁.heap.objs.size < (s₁.heap.push _).objs.size
    rw [Heap.size_push]; exact Nat.lt_succ_self _
  · intro D C h tk m' ys news' F' N' o1 hn hC₀ hD₀ hCL hDL hCD offC fin
    refine ⟨m', hn, fun h'' hs'' => fin D h'' tk (F'.change hs'' hCL hC₀) (fun p hp => ?_) o1⟩
    refine ⟨hs''.extBut _ _ ?_ (N' p hp).1, (N' p hp).2⟩
    rcases List.mem_cons.mp hp with rfl | hp
    · exact Ne.symm hCD
    · exact offC p hp
end
end Mine

namespace Mine
open PySem.Builtin.Str (strSliceIndices occurrences)

theorem strEq {a b : Str} (h : a.cps.toList = b.cps.toList) : a = b := PySem.Str.ext' (Array.toList_inj.mp h)

theorem indices_eq (lo hi : Option Int) (n : Nat) (a b : Nat) (ha : (match lo with | none => (0:Int) | some i => max 0 (min (if i < 0 then i + n else i) n) : Int) = (a : Int)) (hb : (match hi with | none => (n:Int) | some i => max 0 (min (if i < 0 then i + n else i) n) : Int) = (b : Int)) (hab : b ≤ n) :
    strSliceIndices lo hi 1 n = (List.range (b - a)).map (a + ·) := by
  have key : ∀ p q : Int, p = a → q = b → PySem.sliceRange p q 1 = (List.range (b - a)).map (a + ·) := by
    intro p q hp hq
    subst hp hq
    have h2 : (1 : Int) > 0 := by decide
    unfold PySem.sliceRange
    simp only [h2, if_true]
    have e : (if (a:Int) < (b:Int) then ((b:Int) - a + 1 - 1) / 1 else 0).toNat = b - a := by
      split
      · rw [Int.ediv_one]; omega
      · omega
    rw [e]
    refine List.map_congr_left fun k _ => ?_
    omega
  exact key _ _ ha hb

theorem fm_eq {α β : Type} (f : α → Option β) (g : α → β) : ∀ l : List α, (∀ k ∈ l, f k = some (g k)) → l.filterMap f = l.map g
  | [], _ => rfl
  | k :: r, h => by rw [List.filterMap_cons, h k (.head _), List.map_cons, fm_eq f g r fun q hq => h q (.tail _ hq)]
theorem pick_range (l : List Nat) (a b : Nat) (h : b ≤ l.length) : ((List.range (b - a)).map (a + ·)).filterMap (l.toArray[·]?) = (l.take b).drop a := by
  refine List.ext_getElem? fun i => ?_
  rw [List.filterMap_map]
  have e : (List.range (b - a)).filterMap ((fun x => l.toArray[x]?) ∘ fun x => a + x) = (List.range (b - a)).map fun k => l.getD (a + k) 0 := by
    refine fm_eq _ _ _ fun k hk => ?_
    have hk' : a + k < l.length := by have := List.mem_range.mp hk; omega
    simp [List.getD_eq_getElem?_getD, hk']
  rw [e]
  simp only [List.getElem?_map, List.getElem?_drop, List.getElem?_take]
  by_cases hi : i < b - a
  · rw [List.getElem?_range hi]
    have h1 : a + i < b := by omega
    have h3 : a + i < l.length := by omega
    simp [h1, h3, List.getD_eq_getElem?_getD]
  · have h1 : ¬ a + i < b := by omega
    rw [if_neg h1, List.getElem?_eq_none (by simpa using hi)]
    rfl

theorem slice_gen (x : Str) (lo hi : Option Int) (a b : Nat) (ha : (match lo with | none => (0:Int) | some i => max 0 (min (if i < 0 then i + x.length else i) x.length) : Int) = (a : Int)) (hb : (match hi with | none => (x.length:Int) | some i => max 0 (min (if i < 0 then i + x.length else i) x.length) : Int) = (b : Int)) (hab : b ≤ x.length) :
    (Txt.slice x lo hi).cps.toList = (x.cps.toList.take b).drop a := by
  have hi' := indices_eq lo hi x.length a b ha hb hab
  have e : Txt.slice x lo hi = ⟨((x.cps.toList.take b).drop a).toArray⟩ := by
    unfold Txt.slice
    rw [hi']
    have hp := pick_range x.cps.toList a b (by simpa [PySem.Str.length] using hab)
    split
    · rename_i hc
      simp only [beq_self_eq_true, Bool.true_and, beq_iff_eq, List.length_map, List.length_range] at hc
      refine strEq ?_
      by_cases h0 : x.length = 0
      · have : x.cps.toList = [] := by
          have h1 : x.cps.toList.length = 0 := by simpa [PySem.Str.length] using h0
          exact List.eq_nil_of_length_eq_zero h1
        simp [this]
      · have ha0 : a = 0 := by omega
        have hb0 : b = x.cps.toList.length := by simp [PySem.Str.length] at hc ⊢; omega
        subst ha0
        rw [List.drop_zero, List.take_of_length_le (by omega)]
    · rw [← hp]
  rw [e]

theorem slice_to (x : Str) (j : Int) (h : 0 ≤ j) : (Txt.slice x none (some j)).cps.toList = x.cps.toList.take j.toNat := by
  rw [slice_gen x none (some j) 0 (min j.toNat x.length) rfl (by simp only; split <;> omega) (by omega)]
  rw [List.drop_zero]
  by_cases hj : j.toNat ≤ x.length
  · rw [Nat.min_eq_left hj]
  · have e : x.cps.toList.length = x.length := by simp [PySem.Str.length]
    rw [Nat.min_eq_right (by omega), List.take_of_length_le (by omega), List.take_of_length_le (by omega)]
theorem slice_from (x : Str) (i : Int) (h : 0 ≤ i) : (Txt.slice x (some i) none).cps.toList = x.cps.toList.drop i.toNat := by
  have e : x.cps.toList.length = x.length := by simp [PySem.Str.length]
  rw [slice_gen x (some i) none (min i.toNat x.length) x.length (by simp only; split <;> omega) rfl (Nat.le_refl _)]
  rw [List.take_of_length_le (by omega)]
  by_cases hj : i.toNat ≤ x.length
  · rw [Nat.min_eq_left hj]
  · rw [Nat.min_eq_right (by omega), List.drop_of_length_le (by omega), List.drop_of_length_le (by omega)]
theorem slice_ft (x : Str) (i j : Int) (h : 0 ≤ i) (h' : 0 ≤ j) : (Txt.slice x (some i) (some j)).cps.toList = (x.cps.toList.take j.toNat).drop i.toNat := by
  have e : x.cps.toList.length = x.length := by simp [PySem.Str.length]
  rw [slice_gen x (some i) (some j) (min i.toNat x.length) (min j.toNat x.length) (by simp only; split <;> omega) (by simp only; split <;> omega) (by omega)]
  have e1 : x.cps.toList.take (min j.toNat x.length) = x.cps.toList.take j.toNat := by
    by_cases hj : j.toNat ≤ x.length
    · rw [Nat.min_eq_left hj]
    · rw [Nat.min_eq_right (by omega), List.take_of_length_le (by omega), List.take_of_length_le (by omega)]
  rw [e1]
  by_cases hj : i.toNat ≤ x.length
  · rw [Nat.min_eq_left hj]
  · rw [Nat.min_eq_right (by omega), List.drop_of_length_le (by rw [List.length_take]; omega), List.drop_of_length_le (by rw [List.length_take]; omega)]
/-- text[:-1] -/
theorem slice_init (x : Str) : (Txt.slice x none (some (-1))).cps.toList = x.cps.toList.dropLast := by
  have e : x.cps.toList.length = x.length := by simp [PySem.Str.length]
  rw [slice_gen x none (some (-1)) 0 (x.length - 1) rfl (by simp only; split <;> omega) (by omega)]
  rw [List.drop_zero, List.dropLast_eq_take, e]

theorem join_signs (l : List Nat) : (Txt.join (PySem.Str.ofString "") (l.map fun c => (⟨#[c]⟩ : Str))).cps.toList = l := by
  unfold Txt.join
  rw [StrLaws.glued_eq_join]
  have e0 : PySem.Str.ofString "" = PySem.Str.empty := by decide +kernel
  rw [e0]
  induction l with
  | nil => rfl
  | cons c r ih =>
    cases r with
    | nil => rfl
    | cons d r =>
      show (((⟨#[c]⟩ : Str) ++ PySem.Str.empty) ++ PySem.Str.join PySem.Str.empty ((d :: r).map fun c => (⟨#[c]⟩ : Str))).cps.toList = _
      rw [PySem.Str.cps_append, PySem.Str.cps_append, Array.toList_append, Array.toList_append, ih]
      rfl

/-- a sign in a written text -/
theorem in_one (x : Str) (c : Nat) : (!(occurrences x ⟨#[c]⟩ 0 x.length 1).isEmpty) = decide (c ∈ x.cps.toList) := StrLaws.found_one x c
end Mine

namespace Mine

def isBl (c : Nat) : Bool := c == 32 || c == 9
def below (l : List Nat) : Bool := l.take 1 == [45]
def figs (l : List Nat) : List Nat := if (l.take 1 == [45]) = true ∨ (l.take 1 == [43]) = true then l.drop 1 else l
def dval (l : List Int) : Int := l.foldl (fun a c => a * 10 + (c - 48)) 0
def codesL (l : List Nat) : List Int := l.map fun (c : Nat) => (c : Int)
def numOf (l : List Nat) : Option Int :=
  if (∀ c ∈ codesL (figs l), 48 ≤ c ∧ c ≤ 57) then
    if (figs l = [] ∧ l ≠ []) ∨ 32767 + (if below l = true then 1 else 0) < dval (codesL (figs l)) then none
    else some (if below l = true then - dval (codesL (figs l)) else dval (codesL (figs l)))
  else none
def optV : Option Int → Tok → Value
  | none, _ => .none
  | some n, t => .int n t

theorem codes_eq (d : Str) : KStt.codes d = codesL d.cps.toList := rfl
theorem lit0 : (PySem.Str.ofString "0").cps.toList = [48] := by decide +kernel
theorem lit9 : (PySem.Str.ofString "9").cps.toList = [57] := by decide +kernel
theorem litE : (PySem.Str.ofString "").cps.toList = [] := by decide +kernel
theorem litM : (PySem.Str.ofString "-").cps.toList = [45] := by decide +kernel
theorem litP : (PySem.Str.ofString "+").cps.toList = [43] := by decide +kernel
theorem beqS (a b : Str) : (a == b) = (a.cps.toList == b.cps.toList) := by
  rw [Bool.eq_iff_iff, beq_iff_eq, beq_iff_eq]
  exact ⟨fun h => h ▸ rfl, strEq⟩
theorem one_lt (a b : Nat) : ([a] < [b]) ↔ a < b := by
  rw [List.cons_lt_cons_iff]
  constructor
  · rintro (h | ⟨_, h⟩)
    · exact h
    · exact absurd h (List.not_lt_nil _)
  · exact .inl

theorem pow9 {a : Int} {n : Nat} (h : a < 10 ^ n) (hn : n ≤ 9) : a < 1000000000 := by
  have h1 : (10:Int) ^ n ≤ 10 ^ 9 := by exact_mod_cast Nat.pow_le_pow_right (by decide : 0 < 10) hn
  have h2 : (10:Int) ^ 9 = 1000000000 := by decide
  omega
theorem bl_mem (c : Nat) : (!decide (c ∈ (PySem.Str.ofString " \t").cps.toList)) = !isBl c := by
  have e : (PySem.Str.ofString " \t").cps.toList = [32, 9] := by decide +kernel
  rw [e]
  unfold isBl
  by_cases h1 : c = 32 <;> by_cases h2 : c = 9 <;> simp [h1, h2]

theorem num_state {pre : List Int} {n : Nat} {v : Int} (h1 : ∀ c ∈ pre, 48 ≤ c ∧ c ≤ 57) (h2 : 0 ≤ v) (h3 : v < 10 ^ pre.length) (h4 : v = dval pre)
    (h5 : ¬ (⟨#[n]⟩ : Str).cps.toList < (PySem.Str.ofString "0").cps.toList) (h6 : ¬ (PySem.Str.ofString "9").cps.toList < (⟨#[n]⟩ : Str).cps.toList) :
    (∀ c ∈ pre ++ [(n:Int)], 48 ≤ c ∧ c ≤ 57) ∧ 0 ≤ v * 10 + (n:Int) - 48 ∧ v * 10 + (n:Int) - 48 < 10 ^ (pre ++ [(n:Int)]).length ∧ v * 10 + (n:Int) - 48 = dval (pre ++ [(n:Int)]) := by
  rw [lit0] at h5
  rw [lit9] at h6
  have h5' : ¬ n < 48 := fun h => h5 ((one_lt n 48).mpr h)
  have h6' : ¬ 57 < n := fun h => h6 ((one_lt 57 n).mpr h)
  refine ⟨?_, by omega, ?_, ?_⟩
  · intro c hc
    rcases List.mem_append.mp hc with h | h
    · exact h1 c h
    · rw [List.mem_singleton.mp h]; omega
  · rw [List.length_append, List.length_singleton, Int.pow_succ]
    omega
  · unfold dval at h4 ⊢
    rw [List.foldl_append, ← h4]
    simp only [List.foldl_cons, List.foldl_nil]
    omega

theorem figs_of_t {p : Str} (h : ([PySem.Str.ofString "-", PySem.Str.ofString "+"].any fun x => x == Txt.slice p none (some 1)) = true) : (Txt.slice p (some 1) none).cps.toList = figs p.cps.toList := by
  rw [slice_from _ _ (by decide)]
  simp only [List.any_cons, List.any_nil, Bool.or_false, Bool.or_eq_true, beqS, slice_to _ _ (show (0:Int) ≤ 1 by decide), litM, litP, beq_iff_eq] at h
  unfold figs
  rw [if_pos]
  · rfl
  · rcases h with h | h
    · left; rw [beq_iff_eq]; exact h.symm
    · right; rw [beq_iff_eq]; exact h.symm
theorem figs_of_f {p : Str} (h : ([PySem.Str.ofString "-", PySem.Str.ofString "+"].any fun x => x == Txt.slice p none (some 1)) = false) : p.cps.toList = figs p.cps.toList := by
  simp only [List.any_cons, List.any_nil, Bool.or_false, Bool.or_eq_false_iff, beqS, slice_to _ _ (show (0:Int) ≤ 1 by decide), litM, litP, beq_eq_false_iff_ne] at h
  unfold figs
  rw [if_neg]
  rintro (h' | h')
  · exact h.1 (beq_iff_eq.mp h').symm
  · exact h.2 (beq_iff_eq.mp h').symm
theorem below_of {p : Str} {b : Bool} (h : (Txt.slice p none (some 1) == PySem.Str.ofString "-") = b) : below p.cps.toList = b := by
  rw [beqS, slice_to _ _ (show (0:Int) ≤ 1 by decide), litM] at h
  exact h

structure Figs (d p : Str) : Prop where
  out : d.cps.toList = figs p.cps.toList
theorem optV_none {o : Option Int} (h : o = none) : Value.none = optV o 0 := by subst h; rfl
theorem optV_some {o : Option Int} {v v' : Int} {t : Tok} (h : o = some v) (e : v' = v) : Value.int v' t = optV o t := by subst h e; rfl
theorem end_digit {p d : Str} {n : Nat} {pre post : List Int} (hd : Figs d p) (he : KStt.codes d = pre ++ (n:Int) :: post)
    (hc : ((⟨#[n]⟩ : Str).cps.toList < (PySem.Str.ofString "0").cps.toList) ∨ ((PySem.Str.ofString "9").cps.toList < (⟨#[n]⟩ : Str).cps.toList)) : numOf p.cps.toList = none := by
  have hd := hd.out
  unfold numOf
  rw [if_neg]
  intro hall
  have hm : (n:Int) ∈ codesL (figs p.cps.toList) := by rw [← hd, ← codes_eq, he]; exact List.mem_append_right _ (.head _)
  have := hall _ hm
  rw [lit0, lit9] at hc
  rcases hc with h | h
  · have := (one_lt n 48).mp h; omega
  · have := (one_lt 57 n).mp h; omega
theorem end_empty {p d : Str} (hd : Figs d p) (h1 : (d == PySem.Str.ofString "") = true) (h2 : (p != PySem.Str.ofString "") = true) : numOf p.cps.toList = none := by
  have hd := hd.out
  unfold numOf
  rw [beqS, litE, beq_iff_eq, hd] at h1
  have h2' : p.cps.toList ≠ [] := by
    intro h
    rw [bne, beqS, litE, h] at h2
    simp at h2
  split
  · rw [if_pos (.inl ⟨h1, h2'⟩)]
  · rfl
theorem end_big {p d : Str} {v : Int} {b : Bool} (hd : Figs d p) (hv : v = dval (KStt.codes d)) (hb : (Txt.slice p none (some 1) == PySem.Str.ofString "-") = b)
    (hgt : 32767 + (if b = true then 1 else 0) < v) : numOf p.cps.toList = none := by
  have hd := hd.out
  unfold numOf
  split
  · have hq : 32767 + (if below p.cps.toList = true then 1 else 0) < dval (codesL (figs p.cps.toList)) := by
      rw [below_of hb, ← hd, ← codes_eq, ← hv]
      exact hgt
    rw [if_pos (.inr hq)]
  · rfl
theorem end_ok {p d : Str} {v : Int} {b : Bool} (hd : Figs d p) (hall : ∀ c ∈ KStt.codes d, 48 ≤ c ∧ c ≤ 57) (hv : v = dval (KStt.codes d)) (hb : (Txt.slice p none (some 1) == PySem.Str.ofString "-") = b)
    (hn : (d == PySem.Str.ofString "") = false ∨ (p != PySem.Str.ofString "") = false) (hle : ¬ 32767 + (if b = true then 1 else 0) < v) : numOf p.cps.toList = some (if b = true then -v else v) := by
  have hd := hd.out
  unfold numOf
  rw [codes_eq, hd] at hall hv
  rw [if_pos hall, if_neg, below_of hb, ← hv]
  rintro (⟨h1, h2⟩ | h)
  · rcases hn with h | h
    · rw [beqS, litE, hd, h1] at h; simp at h
    · rw [bne, beqS, litE] at h
      simp at h
      exact h2 (by rw [h])
  · rw [below_of hb, ← hv] at h
    exact hle h
end Mine

namespace Mine
open PySem.Builtin.Str (occurrences)

/-- the sign at a place -/
def sg (x : Str) (a : Int) : Nat := x.cps.toList.getD a.toNat 0
theorem item_sg {x : Str} {a : Int} (h0 : 0 ≤ a) (h1 : a < x.length) : Txt.item x a = ⟨#[sg x a]⟩ := by
  rw [item_at h0 h1 rfl]
  unfold sg
  simp [Array.getD_eq_getD_getElem?, List.getD_eq_getElem?_getD]
theorem len_list (x : Str) : x.cps.toList.length = x.length := by simp [PySem.Str.length]
theorem drop_sg {x : Str} {a : Int} (h0 : 0 ≤ a) (h1 : a < x.length) : x.cps.toList.drop a.toNat = sg x a :: x.cps.toList.drop (a + 1).toNat := by
  have h : a.toNat < x.cps.toList.length := by rw [len_list]; omega
  have e : (a + 1).toNat = a.toNat + 1 := by omega
  rw [e, List.drop_eq_getElem_cons h]
  unfold sg
  rw [List.getD_eq_getElem?_getD, List.getElem?_eq_getElem h]
  rfl
theorem sg_mem {x : Str} {a : Int} (h0 : 0 ≤ a) (h1 : a < x.length) : sg x a ∈ x.cps.toList := by
  have h : sg x a ∈ x.cps.toList.drop a.toNat := by rw [drop_sg h0 h1]; exact .head _
  exact List.mem_of_mem_drop h
theorem drop_end {x : Str} {a : Int} (h1 : (x.length : Int) ≤ a) : x.cps.toList.drop a.toNat = [] := by
  rw [List.drop_eq_nil_iff, len_list]; omega

theorem in_occ {w : String} {l : List Nat} (hw : (PySem.Str.ofString w).cps.toList = l) (c : Nat) (b : Bool) (h : (occurrences (PySem.Str.ofString w) ⟨#[c]⟩ 0 (PySem.Str.ofString w).length 1).isEmpty = b) : decide (c ∈ l) = !b := by
  rw [← hw, ← in_one, h]
theorem litB : (PySem.Str.ofString " \t").cps.toList = [32, 9] := by decide +kernel
theorem occ_bl {x : Str} {a : Int} {b : Bool} (h0 : 0 ≤ a) (h1 : a < x.length) (h : (occurrences (PySem.Str.ofString " \t") (Txt.item x a) 0 (PySem.Str.ofString " \t").length 1).isEmpty = b) : isBl (sg x a) = !b := by
  rw [item_sg h0 h1] at h
  have := in_occ litB _ _ h
  rw [← this]
  unfold isBl
  by_cases h1 : sg x a = 32 <;> by_cases h2 : sg x a = 9 <;> simp [h1, h2]

/-- how many blanks stand ahead -/
def nb (l : List Nat) : Nat := (l.takeWhile isBl).length
theorem nb_nil : nb [] = 0 := rfl
theorem nb_bl {c : Nat} {l : List Nat} (h : isBl c = true) : nb (c :: l) = nb l + 1 := by
  unfold nb; rw [List.takeWhile_cons_of_pos h]; rfl
theorem nb_no {c : Nat} {l : List Nat} (h : isBl c = false) : nb (c :: l) = 0 := by
  unfold nb; rw [List.takeWhile_cons_of_neg (by rw [h]; exact Bool.false_ne_true)]; rfl
theorem nb_le (l : List Nat) : nb l ≤ l.length := List.Sublist.length_le (List.takeWhile_sublist _)
theorem drop_nb (l : List Nat) : l.drop (nb l) = l.dropWhile isBl := by
  induction l with
  | nil => rfl
  | cons c r ih =>
    cases h : isBl c with
    | true => rw [nb_bl h, List.drop_succ_cons, ih, List.dropWhile_cons_of_pos h]
    | false => rw [nb_no h, List.dropWhile_cons_of_neg (by rw [h]; exact Bool.false_ne_true)]; rfl

theorem bb_state {x : Str} {a k : Int} (h0 : 0 ≤ a) (h1 : a < x.length) (h : (occurrences (PySem.Str.ofString " \t") (Txt.item x a) 0 (PySem.Str.ofString " \t").length 1).isEmpty = false)
    (hk : a + (nb (x.cps.toList.drop a.toNat) : Int) = k) : a + 1 + (nb (x.cps.toList.drop (a + 1).toNat) : Int) = k := by
  rw [drop_sg h0 h1, nb_bl (by rw [occ_bl h0 h1 h]; rfl)] at hk
  omega
theorem bb_end1 {x : Str} {a k : Int} (h0 : 0 ≤ a) (h1 : a < x.length) (h : (occurrences (PySem.Str.ofString " \t") (Txt.item x a) 0 (PySem.Str.ofString " \t").length 1).isEmpty = true)
    (hk : a + (nb (x.cps.toList.drop a.toNat) : Int) = k) : a = k := by
  rw [drop_sg h0 h1, nb_no (by rw [occ_bl h0 h1 h]; rfl)] at hk
  omega
theorem bb_end2 {x : Str} {a k : Int} (h1 : ¬ a < x.length) (hk : a + (nb (x.cps.toList.drop a.toNat) : Int) = k) : a = k := by
  rw [drop_end (by omega), nb_nil] at hk
  omega
end Mine

namespace Mine
open PySem.Spec PySem.Calls
section
variable {prog : Program} {w : World} {A : Around} {E : Value → Shared → Prop} {s : Shared} {env : Env} {h₀ : Heap} {x : Str} {body : List Stmt} {Q : Flow → Shared → Prop}
/-- a loop over a list of texts that stands below the frame; the word speaks of how many are taken -/
theorem kst_strs {σ : Type} {l : Addr} {vs : List Value} {ws : List Str} {m₀ : Str → Option Value} (Led : σ → List (Addr × Obj)) (ps : σ → List (Str × Value)) (Facts : σ → Prop) (stored : List Str) (P : List Int → σ → Prop) (c₀ : σ)
    (hh : A.handled = none) (hl : h₀.IsList l vs.toArray) (hi : StrsAre vs ws) (F : Fr h₀ env.locals s.heap m₀) (N : News h₀ env.locals s.heap (Led c₀)) (hf : Facts c₀) (hk : ∀ p ∈ ps c₀, m₀ p.1 = some p.2) (hp : P [] c₀)
    (turn : ∀ (c : σ) (pre : List Int) (n : Str) t (u : Str → Option Value) h tk own, ws[pre.length]? = some n → OwnOff own ((Led c₀).map (·.1)) → Facts c → P pre c →
      Fr h₀ env.locals h (fun y => if y = x then some (.str n t) else kstB (fun z => if stored.contains z then u z else m₀ z) (ps c) y) → News h₀ env.locals h (Led c ++ own) →
      wpAny (model prog w) A (execs body env) (InvPostN h₀ env.locals (KstS Led ps Facts x stored m₀ P (pre ++ [(pre.length : Int)])) own ((Led c₀).map (·.1)) { s with heap := h, toks := tk } Q) E { s with heap := h, toks := tk })
    (done : ∀ (c : σ) (pre : List Int) (u : Str → Option Value) h tk, pre.length = ws.length → Facts c → P pre c → Fr h₀ env.locals h (fun y => if y = x then u y else kstB (fun z => if stored.contains z then u z else m₀ z) (ps c) y) → News h₀ env.locals h (Led c) → Q .next { s with heap := h, toks := tk }) :
    wpAny (model prog w) A (pyIter (.ref l)) (fun it s₂ => LoopAtV prog w A h₀ env x body Q E it s₂) E s := by
  have hls : s.heap.IsList l vs.toArray := hl.at fun o e => F.keep l o e
  obtain ⟨ol, hol, _⟩ := id hl
  have hlt : l < h₀.objs.size := Heap.lt_size hol
  have hne : l ≠ s.heap.objs.size := Nat.ne_of_lt (Nat.lt_trans (Nat.lt_of_lt_of_le hlt F.above) F.ns.lt)
  refine wpAny_pyIter_list hls ?_
  have W := Walks.list (prog := prog) (w := w) hh s.heap.objs.size l hne vs.toArray
  have hlen : vs.toArray.size = ws.length := by simp [hi.length]
  rw [hlen] at W
  let rg : Nat → List Int := fun i => (List.range i).map fun (k : Nat) => (k : Int)
  have rgl : ∀ i, (rg i).length = i := fun i => by simp [rg]
  have rgs : ∀ i, rg (i + 1) = rg i ++ [(i : Int)] := fun i => by simp [rg, List.range_succ]
  refine loop_invN (fun i m nx => KstS Led ps Facts x stored m₀ P (rg i) m nx) W ?_ ?_ ?_ ?_ ⟨⟨_, Heap.get?_push_size _ rfl, rfl, rfl⟩, hls.at fun o e => Heap.get?_push_of_some _ e⟩ (F.push _) (fun p hp => ⟨Heap.get?_push_of_some _ (N p hp).1, (N p hp).2⟩) ⟨c₀, rfl, hf, hk, fun _ _ _ _ => rfl, by simpa [rg] using hp⟩ ?_ ?_
  · intro hm
    rcases List.mem_cons.mp hm with e | hm
    · exact absurd F.ns.lt (e ▸ Nat.lt_irrefl _)
    · exact absurd (Nat.lt_of_lt_of_le hlt F.above) ((List.mem_singleton.mp hm) ▸ Nat.lt_irrefl _)
  · intro b hb
    rw [List.mem_singleton.mp hb]
    exact next_is_new F
  · intro p hp hI
    exact absurd (Heap.lt_size (N p hp).1) ((List.mem_singleton.mp hI) ▸ Nat.lt_irrefl _)
  · intro p hp hI
    rcases List.mem_cons.mp hI with e | hI
    · exact absurd (Heap.lt_size (N p hp).1) (e ▸ Nat.lt_irrefl _)
    · have h3 := (N p hp).2.2
      rw [List.mem_singleton.mp hI, hol] at h3
      cases h3
  · rintro i v m₁ nx h tk own hlt' hP _ hoff ⟨c, rfl, hf', h1, h2, hp'⟩ F₁ N₁
    obtain ⟨t, hx⟩ := hi.get i ws[i] (by simp [hlt'])
    have hv : v = .str ws[i] t := by
      have hP' : vs[i]? = some v := by simpa using hP
      rw [hx] at hP'; exact (Option.some.inj hP').symm
    subst hv
    have key := turn c (rg i) ws[i] t m₁ h tk own (by rw [rgl]; simp [hlt']) hoff hf' hp' (kst_fr h1 h2 F₁) N₁
    rw [rgl] at key
    rw [rgs]
    exact key
  · rintro m₁ nx h tk ⟨c, rfl, hf', h1, h2, hp'⟩ F₁ N₁
    exact done c (rg ws.length) m₁ h tk (rgl _) hf' hp' (kst_frOut h1 h2 F₁) N₁
end
end Mine

namespace Mine
open PySem.Builtin.Str (occurrences)
def rstripL (l : List Nat) : List Nat := (l.reverse.dropWhile isBl).reverse
def stripL (l : List Nat) : List Nat := rstripL (l.dropWhile isBl)
theorem rstrip_nil : rstripL [] = [] := rfl
theorem rstrip_bl {l : List Nat} {c : Nat} (h : isBl c = true) : rstripL (l ++ [c]) = rstripL l := by
  unfold rstripL
  rw [List.reverse_append, List.reverse_singleton, List.singleton_append, List.dropWhile_cons_of_pos h]
theorem rstrip_no {l : List Nat} {c : Nat} (h : isBl c = false) : rstripL (l ++ [c]) = l ++ [c] := by
  unfold rstripL
  rw [List.reverse_append, List.reverse_singleton, List.singleton_append, List.dropWhile_cons_of_neg (by rw [h]; exact Bool.false_ne_true), List.reverse_cons, List.reverse_reverse]
/-- the cut up to e ends in the sign at e - 1 -/
theorem cut_snoc {x : Str} {b e : Int} (h0 : 0 ≤ b) (h1 : b < e) (h2 : e ≤ x.length) : (x.cps.toList.take e.toNat).drop b.toNat = (x.cps.toList.take (e - 1).toNat).drop b.toNat ++ [sg x (e - 1)] := by
  have hl := len_list x
  have e1 : e.toNat = (e - 1).toNat + 1 := by omega
  have hlt : (e - 1).toNat < x.cps.toList.length := by omega
  rw [e1, List.take_add_one, List.getElem?_eq_getElem hlt, Option.toList_some, List.drop_append_of_le_length (by rw [List.length_take]; omega)]
  unfold sg
  rw [List.getD_eq_getElem?_getD, List.getElem?_eq_getElem hlt]
  rfl
theorem ri_state {x : Str} {b e : Int} (h0 : 0 ≤ b) (h1 : b < e) (h2 : e ≤ x.length) (h : (occurrences (PySem.Str.ofString " \t") (Txt.item x (e - 1)) 0 (PySem.Str.ofString " \t").length 1).isEmpty = false)
    (hk : rstripL ((x.cps.toList.take e.toNat).drop b.toNat) = rstripL (x.cps.toList.drop b.toNat)) : rstripL ((x.cps.toList.take (e - 1).toNat).drop b.toNat) = rstripL (x.cps.toList.drop b.toNat) := by
  rw [cut_snoc h0 h1 h2, rstrip_bl (by rw [occ_bl (by omega) (by omega) h]; rfl)] at hk
  exact hk
theorem ri_end1 {x : Str} {b e : Int} (h0 : 0 ≤ b) (h1 : b < e) (h2 : e ≤ x.length) (h : (occurrences (PySem.Str.ofString " \t") (Txt.item x (e - 1)) 0 (PySem.Str.ofString " \t").length 1).isEmpty = true)
    (hk : rstripL ((x.cps.toList.take e.toNat).drop b.toNat) = rstripL (x.cps.toList.drop b.toNat)) : (x.cps.toList.take e.toNat).drop b.toNat = rstripL (x.cps.toList.drop b.toNat) := by
  rw [← hk, cut_snoc h0 h1 h2, rstrip_no (by rw [occ_bl (by omega) (by omega) h]; rfl)]
theorem ri_end2 {x : Str} {b e : Int} (h1 : ¬ b < e) (hk : rstripL ((x.cps.toList.take e.toNat).drop b.toNat) = rstripL (x.cps.toList.drop b.toNat)) : (x.cps.toList.take e.toNat).drop b.toNat = rstripL (x.cps.toList.drop b.toNat) := by
  have e0 : (x.cps.toList.take e.toNat).drop b.toNat = [] := by
    rw [List.drop_eq_nil_iff, List.length_take]; omega
  rw [← hk, e0]; rfl
theorem ri_start {x : Str} {b : Int} {e : Int} (he : e = x.length) : rstripL ((x.cps.toList.take e.toNat).drop b.toNat) = rstripL (x.cps.toList.drop b.toNat) := by
  have := len_list x
  rw [List.take_of_length_le (by omega)]
theorem litCC : (PySem.Str.ofString ",:").cps.toList = [44, 58] := by decide +kernel
theorem litQ : (PySem.Str.ofString "\"").cps.toList = [34] := by decide +kernel
/-- no comma, no colon, no quote from i on -/
def Plain (l : List Nat) : Prop := ∀ c ∈ l, c ≠ 34 ∧ c ≠ 44 ∧ c ≠ 58
theorem occ_cc {x : Str} {a i : Int} (hp : Plain (x.cps.toList.drop i.toNat)) (h0 : 0 ≤ i) (hi : i ≤ a) (h1 : a < x.length) (h : (occurrences (PySem.Str.ofString ",:") (Txt.item x a) 0 (PySem.Str.ofString ",:").length 1).isEmpty = false) : False := by
  rw [item_sg (by omega) h1] at h
  have h2 := in_occ litCC _ _ h
  simp only [Bool.not_false, decide_eq_true_eq] at h2
  have hm : sg x a ∈ x.cps.toList.drop i.toNat := by
    have h3 : x.cps.toList.drop a.toNat = (x.cps.toList.drop i.toNat).drop (a.toNat - i.toNat) := by rw [List.drop_drop]; congr 1; omega
    have h4 : sg x a ∈ x.cps.toList.drop a.toNat := by rw [drop_sg (by omega) h1]; exact .head _
    rw [h3] at h4
    exact List.mem_of_mem_drop h4
  have h5 := hp _ hm
  simp at h2
  omega
theorem no_quote {x : Str} {a i : Int} (hp : Plain (x.cps.toList.drop i.toNat)) (h0 : 0 ≤ i) (hi : i ≤ a) : (Txt.slice x (some a) (some (a + 1)) == PySem.Str.ofString "\"") = false := by
  rw [beqS, slice_ft x a (a + 1) (by omega) (by omega), litQ, beq_eq_false_iff_ne]
  intro h
  have e1 : (x.cps.toList.take (a + 1).toNat).drop a.toNat = (x.cps.toList.drop a.toNat).take 1 := by
    rw [List.drop_take]; congr 1; omega
  rw [e1] at h
  have hm : 34 ∈ x.cps.toList.drop a.toNat := by
    have : 34 ∈ (x.cps.toList.drop a.toNat).take 1 := by rw [h]; exact .head _
    exact List.mem_of_mem_take this
  have h3 : x.cps.toList.drop a.toNat = (x.cps.toList.drop i.toNat).drop (a.toNat - i.toNat) := by rw [List.drop_drop]; congr 1; omega
  rw [h3] at hm
  exact (hp _ (List.mem_of_mem_drop hm)).1 rfl
end Mine

namespace Mine
theorem drop_tw (p : Nat → Bool) (l : List Nat) : l.drop (l.takeWhile p).length = l.dropWhile p := by
  induction l with
  | nil => rfl
  | cons c r ih =>
    cases h : p c with
    | true => rw [List.takeWhile_cons_of_pos h, List.length_cons, List.drop_succ_cons, ih, List.dropWhile_cons_of_pos h]
    | false => rw [List.takeWhile_cons_of_neg (by rw [h]; exact Bool.false_ne_true), List.dropWhile_cons_of_neg (by rw [h]; exact Bool.false_ne_true)]; rfl
theorem goes_eq : (PySem.Str.ofString " \t").cps.contains = isBl := by
  funext c
  have e : (PySem.Str.ofString " \t").cps = #[32, 9] := by decide +kernel
  rw [e]
  unfold isBl
  by_cases h1 : c = 32 <;> by_cases h2 : c = 9 <;> simp [h1, h2, Array.contains, beq_iff_eq]
theorem stripBy_eq (p : Nat → Bool) (x : Str) : (Txt.stripBy p true true x).cps.toList = (((x.cps.toList.dropWhile p).reverse).dropWhile p).reverse := by
  have hn : x.cps.toList.length = x.length := by simp [PySem.Str.length]
  have key : (PySem.stripped p true true x).cps.toList = (((x.cps.toList.dropWhile p).reverse).dropWhile p).reverse := by
    unfold PySem.stripped
    rw [StrLaws.strSub_toList]
    simp only [PySem.stripLo, PySem.stripHi, if_true]
    rw [drop_tw]
    generalize hD : x.cps.toList.dropWhile p = D
    have hl : D.length = x.length - (x.cps.toList.takeWhile p).length := by
      rw [← hD, ← drop_tw, List.length_drop, hn]
    have e : x.length - (D.reverse.takeWhile p).length - (x.cps.toList.takeWhile p).length = D.length - (D.reverse.takeWhile p).length := by omega
    rw [e, ← drop_tw p D.reverse, List.reverse_drop, List.reverse_reverse, List.length_reverse]
  unfold Txt.stripBy
  split
  · rename_i hs
    unfold PySem.stripSame at hs
    rw [Bool.and_eq_true, beq_iff_eq, beq_iff_eq] at hs
    rw [← key]
    unfold PySem.stripped
    rw [StrLaws.strSub_toList, hs.2, hs.1, List.drop_zero, List.take_of_length_le (by omega)]
  · exact key
theorem strip_eq (x : Str) : (Txt.stripChars x (PySem.Str.ofString " \t")).cps.toList = stripL x.cps.toList := by
  unfold Txt.stripChars
  rw [goes_eq, stripBy_eq]
  rfl
theorem split_eq (x : Str) (h : 10 ∉ x.cps.toList) : Txt.split x (PySem.Str.ofString "\n") = [x] := by
  have e : PySem.Str.ofString "\n" = ⟨#[10]⟩ := by decide +kernel
  rw [e]
  have h1 := split_len x 10
  rw [cnt_none 10 _ h] at h1
  have h2 := StrLaws.join_split x ⟨#[10]⟩
  match hs : Txt.split x ⟨#[10]⟩ with
  | [] => rw [hs] at h1; simp at h1
  | [p] => rw [hs] at h2; exact congrArg (fun q => [q]) h2
  | p :: q :: r => rw [hs] at h1; simp at h1; omega
end Mine

namespace Mine
open PySem.Spec PySem.Calls
section
variable {prog : Program} {w : World} {A : Around} {E : Value → Shared → Prop} {s : Shared} {env : Env} {h₀ : Heap} {x : Str} {body : List Stmt} {Q : Flow → Shared → Prop}
/-- a written range's turns, each by the same word: a count and a place of the frame's stored names are open -/
theorem range_ind {I : Addr} {a : Int} {n : Nat} {m₀ : Str → Option Value} (stored : List Str) (Led : Int → Tok → List (Addr × Obj)) (B : Nat → Int → Prop) (hx : stored.contains x = true)
    (turn : ∀ (i : Nat) (u : Str → Option Value) (c : Int) (tc : Tok), i < n → B i c → ∀ t h tk, Fr h₀ env.locals h (fun y => if y = x then some (.int (a + (i : Int)) t) else if stored.contains y then u y else m₀ y) →
      News h₀ env.locals h ((I, itR (a + ((i + 1 : Nat) : Int)) ((n : Int) - ((i + 1 : Nat) : Int))) :: Led c tc) →
      wpAny (model prog w) A (execs body env) (UnrPost h₀ env.locals { s with heap := h, toks := tk } I (itR (a + ((i + 1 : Nat) : Int)) ((n : Int) - ((i + 1 : Nat) : Int)))
        (fun m' n' => ∃ c' tc', n' = Led c' tc' ∧ B (i + 1) c' ∧ ∀ z, stored.contains z = false → m' z = m₀ z) Q) E { s with heap := h, toks := tk })
    (done : ∀ (u : Str → Option Value) c tc h tk, B n c → Fr h₀ env.locals h (fun y => if stored.contains y then u y else m₀ y) → News h₀ env.locals h (Led c tc) → Q .next { s with heap := h, toks := tk })
    (c₀ : Int) (tc₀ : Tok) (h0 : B 0 c₀) : RangeRest prog w A E h₀ env x body Q s I a n n 0 m₀ (Led c₀ tc₀) := by
  have same : ∀ (m' : Str → Option Value), (∀ z, stored.contains z = false → m' z = m₀ z) → m' = fun y => if stored.contains y then m' y else m₀ y := by
    intro m' hm
    funext y
    cases hc : stored.contains y with
    | true => rw [if_pos rfl]
    | false => rw [if_neg Bool.false_ne_true]; exact hm y hc
  have key : ∀ (k i : Nat) (m' : Str → Option Value) (c : Int) (tc : Tok), i + k = n → B i c → (∀ z, stored.contains z = false → m' z = m₀ z) → RangeRest prog w A E h₀ env x body Q s I a n k i m' (Led c tc) := by
    intro k
    induction k with
    | zero =>
      intro i m' c tc hi hB hm
      refine RangeRest.zero (fun h tk F N => ?_)
      rw [same m' hm] at F
      have e : i = n := by omega
      subst e
      exact done m' c tc h tk hB F N
    | succ k ih =>
      intro i m' c tc hi hB hm
      refine RangeRest.succ (fun t h tk F N => ?_)
      rw [same m' hm] at F
      refine wpAny_mono (turn i m' c tc (by omega) hB t h tk F N) (fun f s₂ p => ?_) fun _ _ e => e
      have fin : UnrEnd h₀ env.locals { s with heap := h, toks := tk } I (itR (a + ((i + 1 : Nat) : Int)) ((n : Int) - ((i + 1 : Nat) : Int))) (fun m' n' => ∃ c' tc', n' = Led c' tc' ∧ B (i + 1) c' ∧ ∀ z, stored.contains z = false → m' z = m₀ z) s₂ →
          UnrEnd h₀ env.locals { s with heap := h, toks := tk } I (itR (a + ((i + 1 : Nat) : Int)) ((n : Int) - ((i + 1 : Nat) : Int))) (RangeRest prog w A E h₀ env x body Q s I a n k (i + 1)) s₂ := by
        rintro ⟨h', tk', m'', n', e, F', N', off, c', tc', rfl, hB', hm'⟩
        exact ⟨h', tk', m'', _, e, F', N', off, ih (i + 1) m'' c' tc' (by omega) hB' hm'⟩
      cases f with
      | ret v => exact p
      | brk => exact p
      | next => exact fin p
      | cont => exact fin p
  exact key n 0 m₀ c₀ tc₀ (by omega) h0 fun _ _ => rfl
theorem range_sub {I : Addr} {a : Int} {n k i : Nat} {m : Str → Option Value} {l l' : List (Addr × Obj)} (hs : ∀ p ∈ l, p ∈ l') (h : RangeRest prog w A E h₀ env x body Q s I a n k i m l) : RangeRest prog w A E h₀ env x body Q s I a n k i m l' := by
  cases k with
  | zero => exact fun h' tk F N => h h' tk F fun p hp => N p (hs p hp)
  | succ k => exact fun t h' tk F N => h t h' tk F fun p hp => N p ((List.mem_cons.mp hp).elim (fun e => e ▸ List.Mem.head _) fun e => List.Mem.tail _ (hs p e))
end
section
variable {prog : Program} {w : World} {A : Around} {E : Value → Shared → Prop} {s : Shared} {h₀ : Heap} {L : Addr}
/-- an item of a made list of texts at a place that is not written: what all of them have, it has -/
theorem item_strs {news : List (Addr × Obj)} {value slice : PySem.Expr} {l : Addr} {vs : List Value} {n : Nat} {k : Int} {u : Tok} {Q : Value → Shared → Prop} (R : Str → Prop)
    (N : News h₀ L s.heap news) (hm : (l, listOf vs.toArray n) ∈ news) (h0 : 0 ≤ k) (hk : k < (vs.length : Int)) (hhi : vs.length < 1000) (hall : ∀ v ∈ vs, ∃ x t, v = .str x t ∧ R x) (h : ∀ x t, R x → Q (.str x t) s)
    (hs : subscripted slice false (.ref l) (.int k u) = operate [.ref l, .int k u] (getItem (.ref l) (.int k u)) := by with_unfolding_all rfl) :
    wpAny (model prog w) A (subscriptTail value slice (.ref l) (.int k u)) Q E s := by
  have hL : s.heap.IsList l vs.toArray := ⟨_, (N _ hm).1, rfl, n, rfl⟩
  have hlt : k.toNat < vs.length := by omega
  obtain ⟨x, t, e, hR⟩ := hall _ (List.getElem_mem hlt)
  exact tail_any hL.typeIs slot_list_getitem.lookup (wpAny_getItem_list hL h0 (by omega) (by simpa [hlt] using e) (h x t hR)) hs
end

/-- the signs of told -/
def isAl (c : Nat) : Bool := decide (48 ≤ c ∧ c ≤ 57) || c == 43 || c == 45 || c == 46 || c == 120
def Alph (x : Str) (n : Nat) : Prop := (∀ c ∈ x.cps.toList, isAl c = true) ∧ x.length ≤ n
theorem isAl_facts {c : Nat} (h : isAl c = true) : isBl c = false ∧ c < 128 ∧ c ≠ 34 ∧ c ≠ 44 ∧ c ≠ 58 ∧ c ≠ 10 := by
  unfold isAl at h
  simp only [Bool.or_eq_true, decide_eq_true_eq, beq_iff_eq] at h
  unfold isBl
  simp only [Bool.or_eq_false_iff, beq_eq_false_iff_ne]
  omega
theorem isBl_facts {c : Nat} (h : isBl c = true) : c < 128 ∧ c ≠ 34 ∧ c ≠ 44 ∧ c ≠ 58 ∧ c ≠ 10 := by
  unfold isBl at h
  simp only [Bool.or_eq_true, beq_iff_eq] at h
  omega
theorem Alph.mono {x : Str} {n m : Nat} (h : Alph x n) (e : n ≤ m) : Alph x m := ⟨h.1, Nat.le_trans h.2 e⟩
theorem append_list (x y : Str) : (x ++ y).cps.toList = x.cps.toList ++ y.cps.toList := by rw [PySem.Str.cps_append, Array.toList_append]
theorem append_len (x y : Str) : (x ++ y).length = x.length + y.length := by rw [← len_list, append_list, List.length_append, len_list, len_list]
theorem Alph.append {x y : Str} {n m : Nat} (h : Alph x n) (g : Alph y m) : Alph (x ++ y) (n + m) := by
  refine ⟨fun c hc => ?_, ?_⟩
  · rw [append_list] at hc
    exact (List.mem_append.mp hc).elim (h.1 c) (g.1 c)
  · have h2 := h.2
    have g2 := g.2
    rw [append_len]
    omega
theorem lit10 : (PySem.Str.ofString "0123456789").cps.toList = [48, 49, 50, 51, 52, 53, 54, 55, 56, 57] := by decide +kernel
theorem litX : (PySem.Str.ofString "x.-+").cps.toList = [120, 46, 45, 43] := by decide +kernel
theorem alph_item {w : Str} {l : List Nat} {r : Int} (hw : w.cps.toList = l) (hl : ∀ c ∈ l, isAl c = true) (h0 : 0 ≤ r) (h1 : r < (l.length : Int)) : Alph (Txt.item w r) 1 := by
  have hlen : (w.length : Int) = l.length := by rw [← hw, len_list]
  rw [item_sg h0 (by omega)]
  refine ⟨fun c hc => ?_, Nat.le_refl _⟩
  have : c = sg w r := by simpa using hc
  subst this
  exact hl _ (hw ▸ sg_mem h0 (by omega))
theorem alph_digit {r : Int} (h0 : 0 ≤ r) (h1 : r < 10) : Alph (Txt.item (PySem.Str.ofString "0123456789") r) 1 := alph_item lit10 (by decide) h0 h1
theorem alph_odd {r : Int} (h0 : 0 ≤ r) (h1 : r < 4) : Alph (Txt.item (PySem.Str.ofString "x.-+") r) 1 := alph_item litX (by decide) h0 h1
theorem alph_put {x y : Str} {a : Int} (h : Alph x 7) (g : Alph y 1) (h0 : 0 ≤ a) (h1 : a ≤ x.length) : Alph (Txt.slice x none (some a) ++ y ++ Txt.slice x (some a) none) 8 := by
  refine ⟨fun c hc => ?_, ?_⟩
  · rw [append_list, append_list, slice_to x a h0, slice_from x a h0] at hc
    rcases List.mem_append.mp hc with hc | hc
    · rcases List.mem_append.mp hc with hc | hc
      · exact h.1 c (List.mem_of_mem_take hc)
      · exact g.1 c hc
    · exact h.1 c (List.mem_of_mem_drop hc)
  · have h2 := h.2
    have g2 := g.2
    rw [← len_list, append_list, append_list, List.length_append, List.length_append, slice_to x a h0, slice_from x a h0, List.length_take, List.length_drop, len_list, len_list]
    omega
end Mine

namespace Mine
def ok (c : Nat) : Prop := isAl c = true ∨ isBl c = true
/-- what the text's loop keeps: without its blanks the text is what was taken -/
def TextP (pre : List Nat) (t : Str) : Prop := t.cps.toList.filter (fun c => !isBl c) = pre ∧ (∀ c ∈ t.cps.toList, ok c) ∧ t.length ≤ 4 * pre.length ∧ ∀ p c, pre = p ++ [c] → ∃ q, t.cps.toList = q ++ [c]
theorem textP_nil : TextP [] (PySem.Str.ofString "") := by
  have e : (PySem.Str.ofString "").cps.toList = [] := litE
  unfold TextP
  rw [e, ← len_list, e]
  refine ⟨rfl, fun c hc => (nomatch hc), Nat.le_refl _, fun p c h => ?_⟩
  have := congrArg List.length h
  rw [List.length_append] at this
  simp at this
theorem textP_step {pre : List Nat} {t pad : Str} {c : Nat} (h : TextP pre t) (hp : ∀ d ∈ pad.cps.toList, isBl d = true) (hpl : pad.length ≤ 3) (hc : isAl c = true) : TextP (pre ++ [c]) (t ++ pad ++ ⟨#[c]⟩) := by
  obtain ⟨h1, h2, h3, _⟩ := h
  have el : (t ++ pad ++ (⟨#[c]⟩ : Str)).cps.toList = t.cps.toList ++ pad.cps.toList ++ [c] := by rw [append_list, append_list]
  refine ⟨?_, ?_, ?_, ?_⟩
  · rw [el, List.filter_append, List.filter_append, h1]
    have e1 : pad.cps.toList.filter (fun c => !isBl c) = [] := by
      rw [List.filter_eq_nil_iff]
      intro d hd
      simp [hp d hd]
    have e2 : [c].filter (fun c => !isBl c) = [c] := by simp [(isAl_facts hc).1]
    rw [e1, e2, List.append_nil]
  · intro d hd
    rw [el] at hd
    rcases List.mem_append.mp hd with hd | hd
    · rcases List.mem_append.mp hd with hd | hd
      · exact h2 d hd
      · exact .inr (hp d hd)
    · rw [List.mem_singleton.mp hd]; exact .inl hc
  · rw [append_len, append_len, List.length_append, List.length_singleton]
    show t.length + pad.length + 1 ≤ _
    omega
  · intro p d hd
    have := (List.append_inj' hd rfl).2
    rw [List.cons.injEq] at this
    exact ⟨_, by rw [el, this.1]⟩
theorem textP_end {told t : Str} (h : TextP (told.cps.toList ++ [46]) t) (h8 : told.length ≤ 8) :
    (Txt.slice t none (some (-1))).cps.toList.filter (fun c => !isBl c) = told.cps.toList ∧ (∀ c ∈ (Txt.slice t none (some (-1))).cps.toList, ok c) ∧ (Txt.slice t none (some (-1))).length ≤ 36 := by
  obtain ⟨h1, h2, h3, h4⟩ := h
  obtain ⟨q, hq⟩ := h4 _ _ rfl
  rw [List.length_append, List.length_singleton, len_list] at h3
  have e : (Txt.slice t none (some (-1))).cps.toList = q := by rw [slice_init, hq, List.dropLast_concat]
  refine ⟨?_, ?_, ?_⟩
  · rw [e]
    rw [hq, List.filter_append] at h1
    have e2 : [46].filter (fun c => !isBl c) = [46] := by decide
    rw [e2] at h1
    exact (List.append_inj' h1 rfl).1
  · rw [e]
    intro c hc
    exact h2 c (by rw [hq]; exact List.mem_append_left _ hc)
  · have := Txt.slice_le t none (some (-1))
    omega
theorem ok_facts {c : Nat} (h : ok c) : c < 128 ∧ c ≠ 34 ∧ c ≠ 44 ∧ c ≠ 58 ∧ c ≠ 10 := by
  rcases h with h | h
  · exact (isAl_facts h).2
  · exact isBl_facts h
theorem filter_dropWhile (l : List Nat) : (l.dropWhile isBl).filter (fun c => !isBl c) = l.filter (fun c => !isBl c) := by
  induction l with
  | nil => rfl
  | cons c r ih =>
    cases h : isBl c with
    | true => rw [List.dropWhile_cons_of_pos h, ih, List.filter_cons_of_neg (by simp [h])]
    | false => rw [List.dropWhile_cons_of_neg (by rw [h]; exact Bool.false_ne_true)]
theorem filter_strip (l : List Nat) : (stripL l).filter (fun c => !isBl c) = l.filter (fun c => !isBl c) := by
  unfold stripL rstripL
  rw [List.filter_reverse, filter_dropWhile, ← List.filter_reverse, List.reverse_reverse, filter_dropWhile]
theorem codes_nat (x : Str) : (KStt.codes x).map Int.toNat = x.cps.toList := by
  unfold KStt.codes
  rw [List.map_map]
  exact (List.map_congr_left (g := fun x : Nat => x) fun c _ => Int.toNat_natCast c).trans (List.map_id _)
theorem litDot : (PySem.Str.ofString ".").cps.toList = [46] := by decide +kernel
theorem litHead : (PySem.Str.ofString "10 DATA ").cps.toList = [49, 48, 32, 68, 65, 84, 65, 32] := by decide +kernel
theorem blank_lits : ∀ x ∈ [PySem.Str.ofString "", PySem.Str.ofString " ", PySem.Str.ofString "\t", PySem.Str.ofString " \t "], (∀ d ∈ x.cps.toList, isBl d = true) ∧ x.length ≤ 3 := by decide +kernel
theorem alph_lits : ∀ x ∈ [PySem.Str.ofString "", PySem.Str.ofString "-", PySem.Str.ofString "+"], (∀ d ∈ x.cps.toList, isAl d = true) ∧ x.length ≤ 1 := by decide +kernel
theorem alph_nums : ∀ x ∈ [PySem.Str.ofString "", PySem.Str.ofString "32767", PySem.Str.ofString "32768", PySem.Str.ofString "-32768", PySem.Str.ofString "-32769"], (∀ d ∈ x.cps.toList, isAl d = true) ∧ x.length ≤ 7 := by decide +kernel
end Mine

namespace Mine
section
variable {prog : Program} {w : World} {A : Around} {E : Value → Shared → Prop} {s : Shared} {env : Env} {h₀ : Heap} {L : Addr}
/-- an if whose ways meet in one text and one count -/
theorem if_join {test : PySem.Expr} {body orelse rest : List Stmt} {pos : Pos} {m₀ : Str → Option Value} {Q : Flow → Shared → Prop} (R : Str → Int → Prop) (Led : Int → Tok → List (Addr × Obj)) (FX : Fr h₀ L s.heap m₀)
    (h : ∀ J : Flow → Shared → Prop, (∀ h tk told tt c tc (ua : Str → Option Value), R told c → Fr h₀ L h (fun y => if y = PySem.Str.ofString "told" then some (.str told tt) else if y = PySem.Str.ofString "at" then ua y else m₀ y) → News h₀ L h (Led c tc) → J .next { s with heap := h, toks := tk }) →
      wpAny (model prog w) A (exec (.If test body orelse pos) env) J E s)
    (k : ∀ h tk told tt c tc (ua : Str → Option Value), R told c → Fr h₀ L h (fun y => if y = PySem.Str.ofString "told" then some (.str told tt) else if y = PySem.Str.ofString "at" then ua y else m₀ y) → News h₀ L h (Led c tc) → wpAny (model prog w) A (execs rest env) Q E { s with heap := h, toks := tk }) :
    wpAny (model prog w) A (execs (.If test body orelse pos :: rest) env) Q E s :=
  wpAny_execs_cons (h _ fun h tk told tt c tc ua hR F N => k h tk told tt c tc ua hR F N)
theorem fr_told {h : Heap} {m₀ : Str → Option Value} {v : Value} (hm : m₀ (PySem.Str.ofString "told") = some v) (F : Fr h₀ L h m₀) : Fr h₀ L h (fun y => if y = PySem.Str.ofString "told" then some v else if y = PySem.Str.ofString "at" then m₀ y else m₀ y) := by
  have e : (fun y => if y = PySem.Str.ofString "told" then some v else if y = PySem.Str.ofString "at" then m₀ y else m₀ y) = m₀ := by
    funext y
    by_cases h1 : y = PySem.Str.ofString "told"
    · rw [if_pos h1, h1, hm]
    · rw [if_neg h1]
      by_cases h2 : y = PySem.Str.ofString "at"
      · rw [if_pos h2]
      · rw [if_neg h2]
  rw [e]
  exact F
end
end Mine

namespace Mine
theorem fr_str {h₀ h : Heap} {L : Addr} {m : Str → Option Value} {x y : Str} {t : Tok} (_ : Fr h₀ L h m) (e : m y = some (.str x t)) : ∃ t, m y = some (.str x t) := ⟨t, e⟩
theorem code_mem {x : Str} {pre post : List Int} {n : Nat} (h : KStt.codes x = pre ++ (n : Int) :: post) : n ∈ x.cps.toList := by
  rw [← codes_nat, h, List.map_append, List.map_cons]
  exact List.mem_append_right _ (List.Mem.head _)
theorem code_len {x : Str} {pre post : List Int} {n : Nat} (h : KStt.codes x = pre ++ (n : Int) :: post) : pre.length < x.length := by
  have e := congrArg List.length h
  rw [List.length_append, List.length_cons] at e
  have e2 := congrArg List.length (codes_nat x)
  rw [List.length_map, len_list] at e2
  omega
theorem codes_len (x : Str) : (KStt.codes x).length = x.length := by
  have e2 := congrArg List.length (codes_nat x)
  rw [List.length_map, len_list] at e2
  exact e2
theorem dot_len (x : Str) : (x ++ PySem.Str.ofString ".").length = x.length + 1 := by
  rw [append_len]
  rfl
theorem alph_dot {x : Str} {n c : Nat} (h : Alph x n) (hc : c ∈ (x ++ PySem.Str.ofString ".").cps.toList) : isAl c = true := by
  rw [append_list, litDot] at hc
  rcases List.mem_append.mp hc with hc | hc
  · exact h.1 c hc
  · rw [List.mem_singleton.mp hc]; rfl
/-- one more sign of the text -/
theorem textP_more {pre : List Int} {t pad : Str} {c : Nat} (h : TextP (pre.map Int.toNat) t) (hp : (∀ d ∈ pad.cps.toList, isBl d = true) ∧ pad.length ≤ 3) (hc : isAl c = true) : TextP ((pre ++ [(c : Int)]).map Int.toNat) (t ++ pad ++ ⟨#[c]⟩) := by
  rw [List.map_append]
  exact textP_step h hp.1 hp.2 hc
end Mine
namespace Mine
theorem drop1 {h₀ h : Heap} {L : Addr} {a : Addr × Obj} {l : List (Addr × Obj)} (N : News h₀ L h (a :: l)) : News h₀ L h l := fun p hp => N p (List.Mem.tail _ hp)
theorem all3 {d a b c : Addr} {o1 o2 o3 : Obj} (h : a < d ∧ b < d ∧ c < d) : AllLt d [(a, o1), (b, o2), (c, o3)] := ⟨h.1, h.2.1, h.2.2, trivial⟩
theorem head_len (y : Str) : (PySem.Str.ofString "10 DATA " ++ y).length = 8 + y.length := by
  rw [append_len]
  rfl
theorem head_list (y : Str) : (PySem.Str.ofString "10 DATA " ++ y).cps.toList = [49, 48, 32, 68, 65, 84, 65, 32] ++ y.cps.toList := by
  rw [append_list, litHead]
end Mine

namespace Mine
open PySem.Spec PySem.Calls
section
variable {prog : Program} {w : World} {A : Around} {E : Value → Shared → Prop} {s : Shared} {h₀ : Heap} {L : Addr}
theorem sh {x : Str} (hc : ∀ c ∈ x.cps.toList, c < 128) : SeqAt.shaped (PyData.list [PyData.tuple [PyData.int 10, PyData.str x]]) = true := by
  have e : PyData.strOk x = true := by
    unfold PyData.strOk
    rw [Array.all_eq_true']
    intro c hm
    have := hc c (Array.mem_toList_iff.mpr hm)
    simp
    omega
  simp [SeqAt.shaped, PyData.canLay0, PyData.canLayAll0, PyData.depth, PyData.depthAll, e]
theorem mem_strip {l : List Nat} {c : Nat} (h : c ∈ stripL l) : c ∈ l := by
  unfold stripL rstripL at h
  have h1 := (List.dropWhile_sublist _).mem (List.mem_reverse.mp h)
  exact (List.dropWhile_sublist _).mem (List.mem_reverse.mp h1)
theorem ne_items {news : List (Addr × Obj)} {Q : Value → Shared → Prop} (N : News h₀ L s.heap news) {a b c d : Addr} {n1 n2 : Nat} {x y : Str} {t1 t2 t3 t4 : Tok}
    (h1 : (a, listOf #[.ref b] n1) ∈ news) (h2 : (b, ({ cls := .type "tuple", data := .seq #[.int 10 t1, .str x t2] } : Obj)) ∈ news)
    (h3 : (c, listOf #[.ref d] n2) ∈ news) (h4 : (d, ({ cls := .type "tuple", data := .seq #[.int 10 t3, .str y t4] } : Obj)) ∈ news) (e : x = y) (hc : ∀ c ∈ x.cps.toList, c < 128) (hu : A.units + 64 < cLine) (h : Q (.bool false) s) :
    wpAny (model prog w) A (compareOp .NotEq (.ref a) (.ref c)) Q E s := by
  subst e
  refine ne_dataH (reads_list_at (News.get N h1) rfl rfl (.cons (reads_tuple_at (News.get N h2) rfl rfl (.cons (.int _ _) (.cons (.str _ _) .nil))) .nil))
    (reads_list_at (News.get N h3) rfl rfl (.cons (reads_tuple_at (News.get N h4) rfl rfl (.cons (.int _ _) (.cons (.str _ _) .nil))) .nil)) (sh hc) (sh hc) hu ?_
  simpa [PyData.eqv, PyData.eqvAll] using h
end
end Mine

namespace Mine
theorem ne_opt {prog : Program} {w : World} {A : Around} {E : Value → Shared → Prop} {s : Shared} {Q : Value → Shared → Prop} {O : Option Int} {t u : Tok} (h : Q (.bool false) s) :
    wpAny (model prog w) A (compareOp .NotEq (optV O t) (optV O u)) Q E s := by
  cases O with
  | none => exact PySem.EqNone.ne_none_none h
  | some n =>
    refine ne_int ?_
    simpa using h
theorem off_stored {w : Str} (hw : [PySem.Str.ofString "turn", PySem.Str.ofString "told", PySem.Str.ofString "at", PySem.Str.ofString "text", PySem.Str.ofString "one", PySem.Str.ofString "program", PySem.Str.ofString "items"].contains w = false) :
    w ≠ PySem.Str.ofString "turn" ∧ w ≠ PySem.Str.ofString "told" ∧ w ≠ PySem.Str.ofString "at" ∧ w ≠ PySem.Str.ofString "text" ∧ w ≠ PySem.Str.ofString "one" ∧ w ≠ PySem.Str.ofString "program" ∧ w ≠ PySem.Str.ofString "items" := by
  refine ⟨?_, ?_, ?_, ?_, ?_, ?_, ?_⟩ <;> (rintro rfl; exact absurd hw (by decide +kernel))
end Mine

namespace Mine
theorem size_of60 {y : Str} (h : y.length ≤ 60) : y.cps.size ≤ sizeLine := by rw [PySem.sizeLine_eq]; unfold PySem.Str.length at h; omega
theorem News.tail_l {h₀ h : Heap} {L : Addr} {a b : Addr × Obj} {l k : List (Addr × Obj)} (N : News h₀ L h (a :: b :: (l ++ k))) : News h₀ L h l := fun p hp => N p (.tail _ (.tail _ (List.mem_append_left _ hp)))
theorem News.tail_2 {h₀ h : Heap} {L : Addr} {a b : Addr × Obj} {l : List (Addr × Obj)} (N : News h₀ L h (a :: b :: l)) : News h₀ L h l := fun p hp => N p (.tail _ (.tail _ hp))
section
local macro_rules | `(tactic| walk_at "eval ListComp") => `(tactic| (k_here; refine stop_of ?_))
local macro_rules | `(tactic| walk_at "call builtin:str.join") => `(tactic| (k_here; refine stop_of ?_))
local macro_rules | `(tactic| walk_at "exec For Name Name cons nil") => `(tactic| (k_here; (rename Fr _ _ _ _ => lF'); (with_unfolding_all refine' For_invVF lF' ?k1 ?k2 ?_; (case k1 => exact rfl); (case k2 => exact rfl); k_whole)))
local macro_rules | `(tactic| walk_at "InvEndN") => `(tactic| (k_dflt kst_close))
local macro_rules | `(tactic| walk_at "pyIter str") => `(tactic| (k_here; refine stop_of ?_))
set_option maxRecDepth 100000 in
set_option maxHeartbeats 8000000 in
theorem num_ok (w : World) (mean : ExcName → Option Value) (mg mb : Str → Option Value) : ∀ (l : List (Addr × Obj)) (x : Str) (t : Tok), x.length ≤ 60 → (x.cps.toList.filter (fun c => !isBl c)).length ≤ 9 →
    Ctr w mean mg mb 1 8 130 [.str x t] l (fun v l' => ∃ t, v = optV (numOf (x.cps.toList.filter (fun c => !isBl c))) t ∧ l' = l) := by
  unfold Ctr
  have hrow := PySem.Challenge.rw_rh0268_01
  k_fill
  k_with_none
  w_top off
  intro l x t hx hx9 dp un gd cn cs a ccd cl outer A₀ base h₀ L m s Q E B F X N T hk hdp hun hret
  refine wpAny_call ?_
  k_dflt cell_enter
  k_steps
  unfold Stop
  (k_dflt (refine' ListComp_filter_str (fun c => !isBl c) ?k1 ?k2 ?k3 ?k4 ?k5 ?k6 ?k7 ?k8 ?k9 ?k10 ?k11 ?k12 ?k13 ?k14; (case k1 => k_asm); (case k2 => k_asm); (case k3 => rfl); (case k4 => (walk1; exact ⟨rfl, rfl⟩)); (case k5 => exact size_of60 (by assumption)); (case k8 => with_unfolding_all rfl); (case k9 => decide); (case k10 => rfl); (case k11 => decide); (case k12 => rfl); (case k13 => (intro _; rfl)); (case k14 => decide)))
  case k6 => 
    intro c' t' I' oI' C' oC' D' m' ys' h' tk' E' hc' hC' hx' F' N' off' ne'
    k_steps
    rw [in_one, bl_mem]
  case k7 => 
    intro D' ys' h' tk' F' N' off' hys'
    k_steps
    unfold Stop
    refine KT.join_1 (g := fun c => (⟨#[c]⟩ : Str)) (News.isList N' (List.Mem.head _)) hys' (fun _ _ => rfl) (Nat.le_trans (List.length_filter_le _ _) (by rw [Array.length_toList]; exact Nat.le_trans (show x.cps.size ≤ 60 from hx) (by decide))) ?_
    intro t' k' hlen
    generalize hp : Txt.join (PySem.Str.ofString "") (List.map (fun c => (⟨#[c]⟩ : Str)) (x.cps.toList.filter (fun c => !isBl c))) = p at hlen ⊢
    have hpl : p.cps.toList = x.cps.toList.filter (fun c => !isBl c) := by rw [← hp, join_signs]
    have hp9 : p.length ≤ 9 := hlen ▸ hx9
    clear hp hys' hlen
    k_steps
    all_goals unfold Stop
    all_goals first
      | (rename (List.any _ _) = true => hany
         have hd := Figs.mk (figs_of_t hany))
      | (rename (List.any _ _) = false => hany
         have hd := Figs.mk (figs_of_f hany))
    all_goals k_with "state" => exact num_state (by assumption) (by assumption) (by assumption) (by assumption) (by assumption) (by assumption)
    all_goals (k_state (fun pre found => (∀ c ∈ pre, 48 ≤ c ∧ c ≤ 57) ∧ 0 ≤ found ∧ found < 10 ^ pre.length ∧ found = dval pre) "found")
    all_goals (rename _ < (10 : Int) ^ _ => hlt; (have hb9 := pow9 hlt (by omega)); k_steps)
    all_goals first
      | (rename (KStt.codes _ = _ ++ _ :: _) => kEq
         have hq := end_digit hd kEq (by first | exact .inl (by with_reducible assumption) | exact .inr (by with_reducible assumption)))
      | have hq := end_empty hd (by with_reducible assumption) (by with_reducible assumption)
      | have hq := end_big hd (by with_reducible assumption) (b := true) (by with_reducible assumption) (by show (32767 + 1 : Int) < _; with_reducible assumption)
      | have hq := end_big hd (by with_reducible assumption) (b := false) (by with_reducible assumption) (by show (32767 + 0 : Int) < _; with_reducible assumption)
      | have hq := end_ok hd (by with_reducible assumption) (by with_reducible assumption) (b := true) (by with_reducible assumption) (by first | exact .inl (by with_reducible assumption) | exact .inr (by with_reducible assumption)) (by show ¬ (32767 + 1 : Int) < _; with_reducible assumption)
      | have hq := end_ok hd (by with_reducible assumption) (by with_reducible assumption) (b := false) (by with_reducible assumption) (by first | exact .inl (by with_reducible assumption) | exact .inr (by with_reducible assumption)) (by show ¬ (32767 + 0 : Int) < _; with_reducible assumption)
      | (rename (KStt.codes _ = _ ++ _ :: _) => kEq
         have hq := end_digit hd kEq (by first | exact .inl (by assumption) | exact .inr (by assumption)))
      | have hq := end_empty hd (by assumption) (by assumption)
      | have hq := end_big hd (by assumption) (b := true) (by assumption) (by assumption)
      | have hq := end_big hd (by assumption) (b := false) (by assumption) (by assumption)
      | have hq := end_ok hd (by assumption) (by assumption) (b := true) (by assumption) (by first | exact .inl (by assumption) | exact .inr (by assumption)) (by assumption)
      | have hq := end_ok hd (by assumption) (by assumption) (b := false) (by assumption) (by first | exact .inl (by assumption) | exact .inr (by assumption)) (by assumption)
    all_goals rw [hpl] at hq
    all_goals first
      | exact hret _ _ _ _ (by k_asm) (by first | exact News.tail_l (by k_asm) | exact News.tail_2 (by k_asm)) ⟨0, optV_none hq, rfl⟩
      | exact hret _ _ _ _ (by k_asm) (by first | exact News.tail_l (by k_asm) | exact News.tail_2 (by k_asm)) ⟨_, optV_some hq rfl, rfl⟩
end
end Mine

namespace Mine
def isDg (c : Nat) : Bool := decide (48 ≤ c ∧ c ≤ 57)
theorem size_of9 {y : Str} (h : y.length ≤ 9) : y.cps.size ≤ sizeLine := by rw [PySem.sizeLine_eq]; unfold PySem.Str.length at h; omega
theorem digits_mem (c : Nat) : decide (c ∈ (PySem.Str.ofString "0123456789").cps.toList) = isDg c := by
  have e : (PySem.Str.ofString "0123456789").cps.toList = [48, 49, 50, 51, 52, 53, 54, 55, 56, 57] := by decide +kernel
  rw [e]
  unfold isDg
  simp only [decide_eq_decide, List.mem_cons, List.not_mem_nil, or_false]
  omega
theorem canLay_signs : ∀ l : List Nat, (∀ c ∈ l, c < 128) → PyData.canLayAll0 (l.map fun c => PyData.str ⟨#[c]⟩) = true
  | [], _ => by simp [PyData.canLayAll0]
  | c :: r, h => by
    have h1 : PyData.strOk ⟨#[c]⟩ = true := by
      have := h c (.head _)
      simp [PyData.strOk]
      omega
    simp only [List.map_cons, PyData.canLayAll0, PyData.canLay0, h1, Bool.true_and]
    exact canLay_signs r fun q hq => h q (.tail _ hq)
theorem depth_signs : ∀ l : List Nat, PyData.depthAll (l.map fun c => PyData.str ⟨#[c]⟩) ≤ 1
  | [] => by simp [PyData.depthAll]
  | c :: r => by
    have := depth_signs r
    simp only [List.map_cons, PyData.depthAll, PyData.depth]
    omega
theorem ne_signs_nil {prog : Program} {w : World} {A : Around} {E : Value → Shared → Prop} {s : Shared} {Q : Value → Shared → Prop} {D b : Addr} {ys : List Value} {l : List Nat} (hl : s.heap.IsList D ys.toArray) (hc : CarriedAll ys (l.map fun c => PyData.str ⟨#[c]⟩)) (hb : s.heap.IsList b ([] : List Value).toArray) (h128 : ∀ c ∈ l, c < 128)
    (hu : A.units + 64 < cLine) (h : Q (.bool (!l.isEmpty)) s) : wpAny (model prog w) A (compareOp .NotEq (.ref D) (.ref b)) Q E s := by
  refine ne_dataH (reads_newData hl hc) (reads_newData hb .nil) ?_ (by decide) hu ?_
  · have h2 := depth_signs l
    have h3 : PyData.depth (.list (l.map fun c => PyData.str ⟨#[c]⟩)) ≤ 64 := by simp only [PyData.depth]; omega
    show (PyData.canLay0 (.list (l.map fun c => PyData.str ⟨#[c]⟩)) && decide (PyData.depth (.list (l.map fun c => PyData.str ⟨#[c]⟩)) ≤ 64)) = true
    rw [Bool.and_eq_true]
    exact ⟨by simp only [PyData.canLay0]; exact canLay_signs l h128, decide_eq_true h3⟩
  · cases l with
    | nil => simpa [PyData.eqv, PyData.eqvAll] using h
    | cons c r => simpa [PyData.eqv, PyData.eqvAll] using h
theorem end_zero {p : Str} (h : (p == PySem.Str.ofString "") = true) : numOf p.cps.toList = some 0 := by
  rw [beqS, litE, beq_iff_eq] at h
  rw [h]
  decide
theorem end_empty' {p d : Str} (hd : Figs d p) (h1 : (d == PySem.Str.ofString "") = true) (h2 : (p == PySem.Str.ofString "") = false) : numOf p.cps.toList = none :=
  end_empty hd h1 (by rw [bne, h2]; rfl)
theorem mem_figs {c : Nat} {l : List Nat} (h : c ∈ figs l) : c ∈ l := by
  unfold figs at h
  split at h
  · exact List.mem_of_mem_drop h
  · exact h
theorem Figs.mem {d p : Str} (hd : Figs d p) {c : Nat} (h : c ∈ d.cps.toList) : c ∈ p.cps.toList := mem_figs (hd.out ▸ h)
theorem all_digits {d : Str} (h : (d.cps.toList.filter fun c => !isDg c).isEmpty = true) : ∀ c ∈ KStt.codes d, 48 ≤ c ∧ c ≤ 57 := by
  intro c hc
  rw [codes_eq] at hc
  obtain ⟨n, hn, rfl⟩ := List.mem_map.mp hc
  have h1 : (d.cps.toList.filter fun c => !isDg c) = [] := by simpa using h
  have h2 := List.filter_eq_nil_iff.mp h1 n hn
  have h3 : isDg n = true := by simpa using h2
  have h4 : 48 ≤ n ∧ n ≤ 57 := by simpa [isDg] using h3
  omega
theorem end_nd {p d : Str} (hd : Figs d p) (h : (d.cps.toList.filter fun c => !isDg c).isEmpty = false) : numOf p.cps.toList = none := by
  unfold numOf
  rw [if_neg]
  intro hall
  have : (d.cps.toList.filter fun c => !isDg c) = [] := by
    rw [List.filter_eq_nil_iff]
    intro n hn
    have h1 : (n:Int) ∈ codesL (figs p.cps.toList) := List.mem_map.mpr ⟨n, hd.out ▸ hn, rfl⟩
    have h2 := hall _ h1
    have h3 : isDg n = true := by
      unfold isDg
      rw [decide_eq_true_eq]
      omega
    simp [h3]
  rw [this] at h
  cases h
theorem News.tail_4 {h₀ h : Heap} {L : Addr} {a b c d : Addr × Obj} {l : List (Addr × Obj)} (N : News h₀ L h (a :: b :: c :: d :: l)) : News h₀ L h l := fun p hp => N p (.tail _ (.tail _ (.tail _ (.tail _ hp))))
theorem find_dg {n : Nat} (h : 48 ≤ n) (h' : n ≤ 57) : Txt.find (PySem.Str.ofString "0123456789") ⟨#[n]⟩ = (n : Int) - 48 := by
  have : n = 48 ∨ n = 49 ∨ n = 50 ∨ n = 51 ∨ n = 52 ∨ n = 53 ∨ n = 54 ∨ n = 55 ∨ n = 56 ∨ n = 57 := by omega
  rcases this with h | h | h | h | h | h | h | h | h | h <;> subst h <;> decide +kernel
theorem dg_of {d : Str} {n : Nat} {pre post : List Int} (hdig : ∀ c ∈ KStt.codes d, 48 ≤ c ∧ c ≤ 57) (he : KStt.codes d = pre ++ (n:Int) :: post) : 48 ≤ n ∧ n ≤ 57 := by
  have := hdig (n:Int) (by rw [he]; exact List.mem_append_right _ (.head _))
  omega
theorem due_state {d : Str} {pre post : List Int} {n : Nat} {v : Int} (hdig : ∀ c ∈ KStt.codes d, 48 ≤ c ∧ c ≤ 57) (he : KStt.codes d = pre ++ (n:Int) :: post) (h2 : 0 ≤ v) (h3 : v < 10 ^ pre.length) (h4 : v = dval pre) :
    0 ≤ 10 * v + Txt.find (PySem.Str.ofString "0123456789") ⟨#[n]⟩ ∧ 10 * v + Txt.find (PySem.Str.ofString "0123456789") ⟨#[n]⟩ < 10 ^ (pre ++ [(n:Int)]).length ∧ 10 * v + Txt.find (PySem.Str.ofString "0123456789") ⟨#[n]⟩ = dval (pre ++ [(n:Int)]) := by
  obtain ⟨h5, h6⟩ := dg_of hdig he
  rw [find_dg h5 h6]
  refine ⟨by omega, ?_, ?_⟩
  · rw [List.length_append, List.length_singleton, Int.pow_succ]
    omega
  · unfold dval at h4 ⊢
    rw [List.foldl_append, ← h4]
    simp only [List.foldl_cons, List.foldl_nil]
    omega
theorem due_raise {d : Str} {pre post : List Int} {n : Nat} (hdig : ∀ c ∈ KStt.codes d, 48 ≤ c ∧ c ≤ 57) (he : KStt.codes d = pre ++ (n:Int) :: post) (h : Txt.find (PySem.Str.ofString "0123456789") ⟨#[n]⟩ = -1) : False := by
  obtain ⟨h5, h6⟩ := dg_of hdig he
  rw [find_dg h5 h6] at h
  omega
section
local macro_rules | `(tactic| walk_at "eval ListComp") => `(tactic| (k_here; refine stop_of ?_))
local macro_rules | `(tactic| walk_at "my lc") => `(tactic| ((k_dflt (refine' ListComp_filter_str (fun c => !isDg c) ?k1 ?k2 ?k3 ?k4 ?k5 ?k6 ?k7 ?k8 ?k9 ?k10 ?k11 ?k12 ?k13 ?k14; (case k1 => k_asm); (case k2 => k_asm); (case k3 => rfl); (case k4 => (walk1; exact ⟨rfl, rfl⟩)); (case k5 => exact size_of9 (by first | assumption | exact Nat.le_trans (Txt.slice_le _ _ _) (by assumption))); (case k8 => with_unfolding_all rfl); (case k9 => decide); (case k10 => rfl); (case k11 => decide); (case k12 => rfl); (case k13 => (intro _; rfl)); (case k14 => decide)); (case k6 => (intro c' t' I' oI' C' oC' D' m' ys' h' tk' E' hc' hC' hx' F' N' off' ne'; k_steps; rw [in_one, digits_mem])); (case' k7 => intro D' ys' h' tk' F' N' off' hys'))))
local macro_rules | `(tactic| walk_at "exec For Name Name cons nil") => `(tactic| (k_here; (rename Fr _ _ _ _ => lF'); (with_unfolding_all refine' For_invVF lF' ?k1 ?k2 ?_; (case k1 => exact rfl); (case k2 => exact rfl); k_whole)))
local macro_rules | `(tactic| walk_at "InvEndN") => `(tactic| (k_dflt kst_close))
local macro_rules | `(tactic| walk_at "pyIter str") => `(tactic| (k_here; refine stop_of ?_))
local macro_rules | `(tactic| walk_at "compareOp NotEq ref ref") => `(tactic| (k_here; refine stop_of ?_))
set_option maxRecDepth 100000 in
set_option maxHeartbeats 8000000 in
theorem due_ok (w : World) (mean : ExcName → Option Value) (mg mb : Str → Option Value) : ∀ (l : List (Addr × Obj)) (x : Str) (t : Tok), x.length ≤ 9 → (∀ c ∈ x.cps.toList, c < 128) →
    Ctr w mean mg mb 1 100 205 [.str x t] l (fun v l' => ∃ t, v = optV (numOf x.cps.toList) t ∧ l' = l) := by
  unfold Ctr
  have hrow := PySem.Challenge.rw_rh0268_01
  k_fill
  k_with_none
  w_top off
  intro l x t hx hx9 dp un gd cn cs a ccd cl outer A₀ base h₀ L m s Q E B F X N T hk hdp hun hret
  refine wpAny_call ?_
  k_dflt cell_enter
  k_steps
  all_goals first
    | (rename (List.any _ _) = true => hany
       have hd := Figs.mk (figs_of_t hany)
       have hd9 := Nat.le_trans (Txt.slice_le x (some 1) none) hx)
    | (rename (List.any _ _) = false => hany
       have hd := Figs.mk (figs_of_f hany))
  all_goals first
    | (have hq := end_zero (by with_reducible assumption)
       exact hret _ _ _ _ (by with_reducible assumption) (News.tail_2 (by with_reducible assumption)) ⟨_, optV_some hq rfl, rfl⟩)
    | (have hq := end_empty' hd (by with_reducible assumption) (by with_reducible assumption)
       exact hret _ _ _ _ (by with_reducible assumption) (News.tail_2 (by with_reducible assumption)) ⟨0, optV_none hq, rfl⟩)
    | (have hq := end_zero (by assumption)
       exact hret _ _ _ _ (by assumption) (News.tail_2 (by assumption)) ⟨_, optV_some hq rfl, rfl⟩)
    | (have hq := end_empty' hd (by assumption) (by assumption)
       exact hret _ _ _ _ (by assumption) (News.tail_2 (by assumption)) ⟨0, optV_none hq, rfl⟩)
    | unfold Stop
  all_goals walk_at "my lc"
  all_goals k_steps
  all_goals unfold Stop
  all_goals (refine ne_signs_nil (News.isList (by k_asm) (by k_mem)) (by assumption) (News.isList (by k_asm) (by k_mem)) (fun c hc => ?_) (by units_room) ?_)
  all_goals first
    | exact hx9 c (hd.mem (List.mem_filter.mp hc).1)
    | k_steps
  all_goals first
    | (have hq := end_nd hd (by with_reducible assumption)
       exact hret _ _ _ _ (by with_reducible assumption) (News.tail_4 (by with_reducible assumption)) ⟨0, optV_none hq, rfl⟩)
    | (have hq := end_nd hd (by assumption)
       exact hret _ _ _ _ (by assumption) (News.tail_4 (by assumption)) ⟨0, optV_none hq, rfl⟩)
    | unfold Stop
  all_goals have hdig := all_digits (by assumption)
  all_goals k_with "state" => exact due_state (by assumption) (by assumption) (by assumption) (by assumption) (by assumption)
  all_goals (k_state (fun pre number => 0 ≤ number ∧ number < 10 ^ pre.length ∧ number = dval pre) "number")
  all_goals (rename _ < (10 : Int) ^ _ => hlt; (have hb9 := pow9 hlt (by omega)); k_steps)
  all_goals first
    | exact (due_raise (by with_reducible assumption) (by with_reducible assumption) (by with_reducible assumption)).elim
    | (have hq := end_ok hd (by with_reducible assumption) (by with_reducible assumption) (b := true) (by with_reducible assumption) (.inl (by with_reducible assumption)) (by show ¬ (32767 + 1 : Int) < _; first | with_reducible assumption | omega)
       exact hret _ _ _ _ (by with_reducible assumption) (News.tail_4 (by with_reducible assumption)) ⟨_, optV_some hq (by show 0 - _ = - _; omega), rfl⟩)
    | (have hq := end_ok hd (by with_reducible assumption) (by with_reducible assumption) (b := false) (by with_reducible assumption) (.inl (by with_reducible assumption)) (by show ¬ (32767 + 0 : Int) < _; first | with_reducible assumption | omega)
       exact hret _ _ _ _ (by with_reducible assumption) (News.tail_4 (by with_reducible assumption)) ⟨_, optV_some hq rfl, rfl⟩)
    | (have hq := end_big hd (by with_reducible assumption) (b := true) (by with_reducible assumption) (by show (32767 + 1 : Int) < _; first | with_reducible assumption | omega)
       exact hret _ _ _ _ (by with_reducible assumption) (News.tail_4 (by with_reducible assumption)) ⟨0, optV_none hq, rfl⟩)
    | (have hq := end_big hd (by with_reducible assumption) (b := false) (by with_reducible assumption) (by show (32767 + 0 : Int) < _; first | with_reducible assumption | omega)
       exact hret _ _ _ _ (by with_reducible assumption) (News.tail_4 (by with_reducible assumption)) ⟨0, optV_none hq, rfl⟩)
    | exact (due_raise (by assumption) (by assumption) (by assumption)).elim
    | (have hq := end_ok hd (by assumption) (by assumption) (b := true) (by assumption) (.inl (by assumption)) (by show ¬ (32767 + 1 : Int) < _; first | with_reducible assumption | omega)
       exact hret _ _ _ _ (by assumption) (News.tail_4 (by assumption)) ⟨_, optV_some hq (by show 0 - _ = - _; omega), rfl⟩)
    | (have hq := end_ok hd (by assumption) (by assumption) (b := false) (by assumption) (.inl (by assumption)) (by show ¬ (32767 + 0 : Int) < _; first | with_reducible assumption | omega)
       exact hret _ _ _ _ (by assumption) (News.tail_4 (by assumption)) ⟨_, optV_some hq rfl, rfl⟩)
    | (have hq := end_big hd (by assumption) (b := true) (by assumption) (by show (32767 + 1 : Int) < _; first | with_reducible assumption | omega)
       exact hret _ _ _ _ (by assumption) (News.tail_4 (by assumption)) ⟨0, optV_none hq, rfl⟩)
    | (have hq := end_big hd (by assumption) (b := false) (by assumption) (by show (32767 + 0 : Int) < _; first | with_reducible assumption | omega)
       exact hret _ _ _ _ (by assumption) (News.tail_4 (by assumption)) ⟨0, optV_none hq, rfl⟩)
    | skip
end
end Mine

namespace Mine
section
local macro_rules | `(tactic| walk_at "exec While") => `(tactic| (k_here; refine stop_of ?_))
set_option maxRecDepth 100000 in
set_option maxHeartbeats 8000000 in
theorem bb_ok (w : World) (mean : ExcName → Option Value) (mg mb : Str → Option Value) : ∀ (l : List (Addr × Obj)) (x : Str) (t : Tok) (i : Int) (ti : Tok), x.length ≤ 100 → 0 ≤ i → i ≤ x.length →
    Ctr w mean mg mb 1 8 69 [.str x t, .int i ti] l (fun v l' => ∃ t, v = .int (i + (nb (x.cps.toList.drop i.toNat) : Int)) t ∧ l' = l) := by
  unfold Ctr
  have hrow := PySem.Challenge.rw_rh0268_01
  k_fill
  k_with_none
  w_top off
  intro l x t i ti hx hi0 hi1 dp un gd cn cs a ccd cl outer A₀ base h₀ L m s Q E B F X N T hk hdp hun hret
  refine wpAny_call ?_
  k_dflt cell_enter
  k_steps
  unfold Stop
  k_while (fun _ a => i ≤ a ∧ a ≤ x.length ∧ a + (nb (x.cps.toList.drop a.toNat) : Int) = i + (nb (x.cps.toList.drop i.toNat) : Int)) (fun _ a => x.length - a.toNat) "at"
  k_with "state" => exact ⟨by omega, by omega, bb_state (by omega) (by assumption) (by assumption) (by assumption)⟩
  k_steps
  · exact hret _ _ _ _ (by assumption) (by assumption) ⟨_, congrArg (Value.int · _) (bb_end1 (x := x) (by omega) (by assumption) (by assumption) (by assumption)), rfl⟩
  · exact hret _ _ _ _ (by assumption) (by assumption) ⟨_, congrArg (Value.int · _) (bb_end2 (x := x) (by assumption) (by assumption)), rfl⟩
end
end Mine

namespace Mine
def gr (c : Nat) : Nat := if 97 ≤ c ∧ c ≤ 122 then c - 32 else c
theorem lita : (PySem.Str.ofString "a").cps.toList = [97] := by decide +kernel
theorem litz : (PySem.Str.ofString "z").cps.toList = [122] := by decide +kernel
theorem gr_lo {c : Nat} (h : (⟨#[c]⟩ : Str).cps.toList < (PySem.Str.ofString "a").cps.toList) : c = gr c := by
  rw [lita] at h
  have := (one_lt c 97).mp h
  unfold gr
  rw [if_neg (by omega)]
theorem gr_hi {c : Nat} (h : (PySem.Str.ofString "z").cps.toList < (⟨#[c]⟩ : Str).cps.toList) : c = gr c := by
  rw [litz] at h
  have := (one_lt 122 c).mp h
  unfold gr
  rw [if_neg (by omega)]
theorem gr_mid {c : Nat} (h1 : ¬ (⟨#[c]⟩ : Str).cps.toList < (PySem.Str.ofString "a").cps.toList) (h2 : ¬ (PySem.Str.ofString "z").cps.toList < (⟨#[c]⟩ : Str).cps.toList) : 97 ≤ c ∧ c ≤ 122 := by
  rw [lita] at h1
  rw [litz] at h2
  have h1' : ¬ c < 97 := fun h => h1 ((one_lt c 97).mpr h)
  have h2' : ¬ 122 < c := fun h => h2 ((one_lt 122 c).mpr h)
  omega
theorem gr_of {c : Nat} (h : 97 ≤ c ∧ c ≤ 122) : ((c : Int) - 32).toNat = gr c := by
  unfold gr
  rw [if_pos h]
  omega
section
local macro_rules | `(tactic| walk_at "pad") => `(tactic| skip)
local macro_rules | `(tactic| walk_at "call builtin:chr") => `(tactic| (k_here; refine stop_of ?_))
set_option maxRecDepth 100000 in
set_option maxHeartbeats 8000000 in
theorem gs_ok (w : World) (mean : ExcName → Option Value) (mg mb : Str → Option Value) : ∀ (l : List (Addr × Obj)) (c : Nat) (t : Tok), c < 128 →
    Ctr w mean mg mb 1 8 43 [.str ⟨#[c]⟩ t] l (fun v l' => (∃ t, v = .str ⟨#[gr c]⟩ t) ∧ l' = l) := by
  unfold Ctr
  have hrow := PySem.Challenge.rw_rh0268_01
  k_fill
  k_with_none
  w_top off
  intro l c t hc dp un gd cn cs a ccd cl outer A₀ base h₀ L m s Q E B F X N T hk hdp hun hret
  refine wpAny_call ?_
  k_dflt cell_enter
  k_steps
  · exact hret _ _ _ _ (by assumption) (by assumption) ⟨⟨_, by rw [← gr_lo (by assumption)]⟩, rfl⟩
  · exact hret _ _ _ _ (by assumption) (by assumption) ⟨⟨_, by rw [← gr_hi (by assumption)]⟩, rfl⟩
  · unfold Stop
    have hm := gr_mid (by assumption) (by assumption)
    refine chr_of_range (by omega) (by omega) ?_
    rw [gr_of hm]
    k_steps
    exact hret _ _ _ _ (by assumption) (by assumption) ⟨⟨_, rfl⟩, rfl⟩
end
theorem join_gr (l : List Nat) (g : Nat → Nat) : Txt.join (PySem.Str.ofString "") (l.map fun c => (⟨#[g c]⟩ : Str)) = ⟨(l.map g).toArray⟩ := by
  refine strEq ?_
  have := join_signs (l.map g)
  rw [List.map_map] at this
  rw [show (l.map fun c => (⟨#[g c]⟩ : Str)) = l.map ((fun c => (⟨#[c]⟩ : Str)) ∘ g) from rfl, this]
section
local macro_rules | `(tactic| walk_at "my call") => `(tactic| (
    (case k1 => k_asm); (case k2 => k_asm); (case k3 => k_asm); (case k4 => k_asm); (case k5 => k_asm); (case kK => first | exact rfl | assumption); (case kd => ktr_room); (case ku => ktr_units)))
local macro_rules | `(tactic| walk_at "eval ListComp") => `(tactic| (k_here; refine stop_of ?_))
local macro_rules | `(tactic| walk_at "call builtin:str.join") => `(tactic| (k_here; refine stop_of ?_))
local macro_rules | `(tactic| walk_at "call ref") => `(tactic| (k_here; refine stop_of ?_))
set_option maxRecDepth 100000 in
set_option maxHeartbeats 8000000 in
theorem gt_ok (w : World) (mean : ExcName → Option Value) (mg mb : Str → Option Value) : ∀ (l : List (Addr × Obj)) (x : Str) (t : Tok), x.length ≤ 60 → (∀ c ∈ x.cps.toList, c < 128) →
    Ctr w mean mg mb 2 16 48 [.str x t] l (fun v l' => (∃ t, v = .str ⟨(x.cps.toList.map gr).toArray⟩ t) ∧ l' = l) := by
  unfold Ctr
  have hrow := PySem.Challenge.rw_rh0268_01
  k_fill
  k_with_none
  w_top off
  intro l x t hx hc dp un gd cn cs a ccd cl outer A₀ base h₀ L m s Q E B F X N T hk hdp hun hret
  refine wpAny_call ?_
  k_dflt cell_enter
  k_steps
  unfold Stop
  (k_dflt (refine' ListComp_map_str (fun c => (⟨#[gr c]⟩ : Str)) ?k1 ?k2 ?k3 ?k4 ?k5 ?k6 ?k7 ?k8 ?k9 ?k10 ?k11 ?k12 ?k13; (case k1 => k_asm); (case k2 => k_asm); (case k3 => rfl); (case k4 => (walk1; exact ⟨rfl, rfl⟩)); (case k5 => exact size_of60 (by assumption)); (case k8 => with_unfolding_all rfl); (case k9 => decide); (case k10 => rfl); (case k11 => decide); (case k12 => rfl); (case k13 => (intro _; rfl))))
  case k6 =>
    intro c' t' I' oI' C' oC' D' m' ys' h' tk' E' hc' hC' hx' F' N' off' ne'
    k_steps
    unfold Stop
    refine' Ctr.use (gs_ok _ _ _ _ _ _ _ ?kp) ?k1 ?k2 ?k3 ?k4 ?k5 ?kK ?kd ?ku ?kR
    case kp => exact hc _ hc'
    (case k1 => k_asm); (case k2 => k_asm); (case k3 => k_asm); (case k4 => k_asm); (case k5 => k_asm); (case kK => first | exact rfl | assumption); (case kd => ktr_room); (case ku => ktr_units)
    rintro _ _ h' tk' F' N' ⟨⟨t, rfl⟩, rfl⟩
    exact ⟨⟨_, rfl⟩, _, _, rfl, F', N'⟩
  case k7 => 
    intro D' ys' h' tk' F' N' off' hys'
    k_steps
    unfold Stop
    refine KT.join_1 (g := fun c => (⟨#[gr c]⟩ : Str)) (News.isList N' (List.Mem.head _)) hys' (fun _ _ => rfl) (by rw [Array.length_toList]; exact Nat.le_trans (show x.cps.size ≤ 60 from hx) (by decide)) ?_
    intro t' k' hlen
    rw [join_gr]
    k_steps
    exact hret _ _ _ _ (by assumption) (fun p hp => (by assumption : News _ _ _ (_ :: _)) p (.tail _ hp)) ⟨⟨_, rfl⟩, rfl⟩
end
end Mine

namespace Mine
def VW : List Value := [.str (PySem.Str.ofString "END") 189, .str (PySem.Str.ofString "FOR") 190, .str (PySem.Str.ofString "NEXT") 191, .str (PySem.Str.ofString "DATA") 192, .str (PySem.Str.ofString "INPUT") 193, .str (PySem.Str.ofString "DIM") 194, .str (PySem.Str.ofString "READ") 195, .str (PySem.Str.ofString "LET") 196, .str (PySem.Str.ofString "GOTO") 197, .str (PySem.Str.ofString "RUN") 198, .str (PySem.Str.ofString "IF") 199, .str (PySem.Str.ofString "RESTORE") 200, .str (PySem.Str.ofString "GOSUB") 201, .str (PySem.Str.ofString "RETURN") 202, .str (PySem.Str.ofString "REM") 203, .str (PySem.Str.ofString "STOP") 204, .str (PySem.Str.ofString "ON") 205, .str (PySem.Str.ofString "PRINT") 206, .str (PySem.Str.ofString "LIST") 207, .str (PySem.Str.ofString "DELETE") 208, .str (PySem.Str.ofString "RENUM") 209, .str (PySem.Str.ofString "NEW") 210, .str (PySem.Str.ofString "CONT") 211, .str (PySem.Str.ofString "TO") 212, .str (PySem.Str.ofString "THEN") 213, .str (PySem.Str.ofString "ELSE") 214, .str (PySem.Str.ofString "STEP") 215, .str (PySem.Str.ofString "AND") 216, .str (PySem.Str.ofString "OR") 217, .str (PySem.Str.ofString "NOT") 218, .str (PySem.Str.ofString "MOD") 219, .str (PySem.Str.ofString "TAB") 220, .str (PySem.Str.ofString "SGN") 221, .str (PySem.Str.ofString "ABS") 222, .str (PySem.Str.ofString "LEN") 223, .str (PySem.Str.ofString "STR$") 224, .str (PySem.Str.ofString "VAL") 225, .str (PySem.Str.ofString "ASC") 226, .str (PySem.Str.ofString "CHR$") 227, .str (PySem.Str.ofString "LEFT$") 228, .str (PySem.Str.ofString "RIGHT$") 229, .str (PySem.Str.ofString "MID$") 230, .str (PySem.Str.ofString "RND") 231, .str (PySem.Str.ofString "INSTR") 232]
def WN : List Str := [PySem.Str.ofString "END", PySem.Str.ofString "FOR", PySem.Str.ofString "NEXT", PySem.Str.ofString "DATA", PySem.Str.ofString "INPUT", PySem.Str.ofString "DIM", PySem.Str.ofString "READ", PySem.Str.ofString "LET", PySem.Str.ofString "GOTO", PySem.Str.ofString "RUN", PySem.Str.ofString "IF", PySem.Str.ofString "RESTORE", PySem.Str.ofString "GOSUB", PySem.Str.ofString "RETURN", PySem.Str.ofString "REM", PySem.Str.ofString "STOP", PySem.Str.ofString "ON", PySem.Str.ofString "PRINT", PySem.Str.ofString "LIST", PySem.Str.ofString "DELETE", PySem.Str.ofString "RENUM", PySem.Str.ofString "NEW", PySem.Str.ofString "CONT", PySem.Str.ofString "TO", PySem.Str.ofString "THEN", PySem.Str.ofString "ELSE", PySem.Str.ofString "STEP", PySem.Str.ofString "AND", PySem.Str.ofString "OR", PySem.Str.ofString "NOT", PySem.Str.ofString "MOD", PySem.Str.ofString "TAB", PySem.Str.ofString "SGN", PySem.Str.ofString "ABS", PySem.Str.ofString "LEN", PySem.Str.ofString "STR$", PySem.Str.ofString "VAL", PySem.Str.ofString "ASC", PySem.Str.ofString "CHR$", PySem.Str.ofString "LEFT$", PySem.Str.ofString "RIGHT$", PySem.Str.ofString "MID$", PySem.Str.ofString "RND", PySem.Str.ofString "INSTR"]
theorem vw_wn : StrsAre VW WN := by
  unfold VW WN
  repeat (first | exact .nil | refine .cons _ _ ?_)
theorem words_K (P : Params) : (hd.heap_39 P).lookup 15 = some ⟨.type "list", none, .seq VW.toArray 0, #[]⟩ := by
  with_unfolding_all rfl
theorem wn_short : ∀ w ∈ WN, w.length ≤ 7 := by decide +kernel
/-- one word of word_at's loop -/
def waStep (x : Str) (i : Int) (f w : Str) : Str := if w.length > f.length ∧ (Txt.slice x (some i) (some (i + w.length)) == w) = true then w else f
def waAt (x : Str) (i : Int) (k : Nat) : Str := (WN.take k).foldl (waStep x i) (PySem.Str.ofString "")
theorem waAt_succ {x : Str} {i : Int} {k : Nat} {w : Str} (h : WN[k]? = some w) : waAt x i (k + 1) = waStep x i (waAt x i k) w := by
  unfold waAt
  rw [List.take_add_one, h]
  simp
theorem wa_take {x n c : Str} {i : Int} {pre : List Int} (h : WN[pre.length]? = some n) (hc : c = waAt x i pre.length) (h7 : n.length ≤ 7) (h1 : (c.length : Int) < n.length) (h2 : (Txt.slice x (some i) (some (i + n.length)) == n) = true) :
    n = waAt x i (pre ++ [(pre.length : Int)]).length ∧ n.length ≤ 7 := by
  refine ⟨?_, h7⟩
  rw [List.length_append, List.length_singleton, waAt_succ h, ← hc]
  unfold waStep
  rw [if_pos ⟨by omega, h2⟩]
theorem wa_skip1 {x n c : Str} {i : Int} {pre : List Int} (h : WN[pre.length]? = some n) (hc : c = waAt x i pre.length) (h7 : c.length ≤ 7) (h2 : (Txt.slice x (some i) (some (i + n.length)) == n) = false) :
    c = waAt x i (pre ++ [(pre.length : Int)]).length ∧ c.length ≤ 7 := by
  refine ⟨?_, h7⟩
  rw [List.length_append, List.length_singleton, waAt_succ h, ← hc]
  unfold waStep
  rw [if_neg (by rw [h2]; simp)]
theorem wa_skip2 {x n c : Str} {i : Int} {pre : List Int} (h : WN[pre.length]? = some n) (hc : c = waAt x i pre.length) (h7 : c.length ≤ 7) (h1 : ¬ (c.length : Int) < n.length) :
    c = waAt x i (pre ++ [(pre.length : Int)]).length ∧ c.length ≤ 7 := by
  refine ⟨?_, h7⟩
  rw [List.length_append, List.length_singleton, waAt_succ h, ← hc]
  unfold waStep
  rw [if_neg (by omega)]
section
local macro_rules | `(tactic| walk_at "exec For Name Name cons nil") => `(tactic| (k_here; (rename Fr _ _ _ _ => lF'); (with_unfolding_all refine' For_invVF lF' ?k1 ?k2 ?_; (case k1 => exact rfl); (case k2 => exact rfl); k_whole)))
local macro_rules | `(tactic| walk_at "InvEndN") => `(tactic| (refine stop_of ?_))
local macro_rules | `(tactic| walk_at "pyIter ref") => `(tactic| (k_here; refine stop_of ?_))
set_option maxRecDepth 100000 in
set_option maxHeartbeats 8000000 in
theorem wa_ok (w : World) (mean : ExcName → Option Value) (mg mb : Str → Option Value) : ∀ (l : List (Addr × Obj)) (x : Str) (t : Tok) (i : Int) (ti : Tok), x.length ≤ 100 → 0 ≤ i → i ≤ 100 →
    Ctr w mean mg mb 1 8 55 [.str x t, .int i ti] l (fun v l' => (∃ t, v = .str (waAt x i 44) t) ∧ l' = l) := by
  unfold Ctr
  have hrow := PySem.Challenge.rw_rh0268_01
  k_fill
  k_with_none
  w_top off
  intro l x t i ti hx hi0 hi1 dp un gd cn cs a ccd cl outer A₀ base h₀ L m s Q E B F X N T hk hdp hun hret
  refine wpAny_call ?_
  k_dflt cell_enter
  k_steps
  unfold Stop
  (rename Fr _ _ _ _ => lF'); (rename News _ _ _ _ => lN')
  refine kst_strs (σ := Str × Nat) (fun _ => l) (fun c => [(PySem.Str.ofString "found", .str c.1 c.2)]) (fun _ => True) [] (fun pre c => c.1 = waAt x i pre.length ∧ c.1.length ≤ 7) (PySem.Str.ofString "", tk) rfl (lstK (by assumption) (words_K _)) vw_wn lF' lN' trivial ?_ ?_ ?_ ?_
  · intro p hp
    rw [List.mem_singleton.mp hp]
    rfl
  · exact ⟨rfl, show (PySem.Str.ofString "").length ≤ 7 by decide +kernel⟩
  · intro c pre n t u h tk own hn hoff _ hP F' N'
    have hn7 := wn_short n (List.mem_of_getElem? hn)
    obtain ⟨hP1, hP2⟩ := hP
    have kMk := kstMark
    dsimp only [kstB] at F'
    k_steps
    · unfold Stop
      k_with "state" => exact wa_take hn hP1 hn7 (by assumption) (by assumption)
      kst_close
    · unfold Stop
      k_with "state" => exact wa_skip1 hn hP1 hP2 (by assumption)
      kst_close
    · unfold Stop
      k_with "state" => exact wa_skip2 hn hP1 hP2 (by assumption)
      kst_close
  · intro c pre u h tk hlen _ hP F' N'
    dsimp only [kstB] at F'
    k_steps
    have e : c.1 = waAt x i 44 := by rw [hP.1, hlen]; rfl
    exact hret _ _ _ _ (by assumption) (by assumption) ⟨⟨c.2, congrArg (Value.str · c.2) e⟩, rfl⟩
end
end Mine

namespace Mine
theorem wa_none {x : Str} {i : Int} {f : Str} : ∀ {ws : List Str}, (∀ w ∈ ws, (Txt.slice x (some i) (some (i + w.length)) == w) = false) → ws.foldl (waStep x i) f = f
  | [], _ => rfl
  | w :: r, h => by
    have h1 : waStep x i f w = f := by
      unfold waStep
      rw [if_neg (by rw [h w (.head _)]; simp)]
    rw [List.foldl_cons, h1]
    exact wa_none fun q hq => h q (.tail _ hq)
theorem wn_parts : WN = WN.take 3 ++ PySem.Str.ofString "DATA" :: WN.drop 4 := by decide +kernel
theorem wn_off : ∀ w ∈ WN.take 3 ++ WN.drop 4, w.cps.toList.take 5 ≠ [68, 65, 84, 65, 32].take (min 5 w.length) := by decide +kernel
theorem litData : (PySem.Str.ofString "DATA").cps.toList = [68, 65, 84, 65] := by decide +kernel
/-- what word_at finds at the start of DATA -/
theorem wa_data (x : Str) (r : List Nat) (h : x.cps.toList = [32, 68, 65, 84, 65, 32] ++ r) : waAt x 1 44 = PySem.Str.ofString "DATA" := by
  have hs : ∀ (n : Nat), (Txt.slice x (some 1) (some (1 + (n : Int)))).cps.toList = ([68, 65, 84, 65, 32] ++ r).take n := by
    intro n
    rw [slice_ft x 1 (1 + (n:Int)) (by decide) (by omega), h]
    have e : (1 + (n:Int)).toNat = n + 1 := by omega
    rw [e]
    rfl
  have hd : ∀ (w : Str), (Txt.slice x (some 1) (some (1 + (w.length : Int))) == w) = (([68, 65, 84, 65, 32] ++ r).take w.length == w.cps.toList) := fun w => by rw [beqS, hs]
  have off : ∀ w ∈ WN.take 3 ++ WN.drop 4, (Txt.slice x (some 1) (some (1 + (w.length : Int))) == w) = false := by
    intro w hw
    rw [hd, beq_eq_false_iff_ne]
    intro e
    refine wn_off w hw ?_
    rw [← e, List.take_take, List.take_append_of_le_length (by simp; omega)]
  have hW : waAt x 1 44 = WN.foldl (waStep x 1) (PySem.Str.ofString "") := by
    unfold waAt
    rw [List.take_of_length_le (by decide +kernel)]
  rw [hW, wn_parts, List.foldl_append, List.foldl_cons, wa_none fun w hw => off w (List.mem_append_left _ hw)]
  have e1 : waStep x 1 (PySem.Str.ofString "") (PySem.Str.ofString "DATA") = PySem.Str.ofString "DATA" := by
    unfold waStep
    rw [if_pos]
    refine ⟨by decide +kernel, ?_⟩
    rw [hd, litData]
    have : (PySem.Str.ofString "DATA").length = 4 := by decide +kernel
    rw [this]
    rfl
  rw [e1]
  exact wa_none fun w hw => off w (List.mem_append_right _ hw)
end Mine

namespace Mine
theorem drop_b {x : Str} {i b : Int} (h0 : 0 ≤ i) (hb : i + (nb (x.cps.toList.drop i.toNat) : Int) = b) : x.cps.toList.drop b.toNat = (x.cps.toList.drop i.toNat).dropWhile isBl := by
  rw [← drop_nb, List.drop_drop]
  congr 1
  omega
theorem ri_text {x : Str} {i b e : Int} (h0 : 0 ≤ i) (h1 : i ≤ b) (h2 : b ≤ e) (hb : i + (nb (x.cps.toList.drop i.toNat) : Int) = b) (h : (x.cps.toList.take e.toNat).drop b.toNat = rstripL (x.cps.toList.drop b.toNat)) :
    (Txt.slice x (some b) (some e)).cps.toList = stripL (x.cps.toList.drop i.toNat) := by
  rw [slice_ft x b e (by omega) (by omega), h, drop_b h0 hb]
  rfl
section
local macro_rules | `(tactic| walk_at "pad") => `(tactic| skip)
local macro_rules | `(tactic| walk_at "pad") => `(tactic| skip)
local macro_rules | `(tactic| walk_at "pad") => `(tactic| skip)
local macro_rules | `(tactic| walk_at "pad") => `(tactic| skip)
local macro_rules | `(tactic| walk_at "pad") => `(tactic| skip)
local macro_rules | `(tactic| walk_at "exec While") => `(tactic| (k_here; refine stop_of ?_))
local macro_rules | `(tactic| walk_at "call ref") => `(tactic| (k_here; refine stop_of ?_))
set_option maxRecDepth 100000 in
set_option maxHeartbeats 8000000 in
theorem ri_ok (w : World) (mean : ExcName → Option Value) (mg mb : Str → Option Value) : ∀ (l : List (Addr × Obj)) (x : Str) (t : Tok) (i : Int) (ti : Tok), x.length ≤ 100 → 0 ≤ i → i ≤ x.length → Plain (x.cps.toList.drop i.toNat) →
    Ctr w mean mg mb 2 16 97 [.str x t, .int i ti] l (fun v l' => ∃ D y ty tl, v = .ref D ∧ l' = (D, ({ cls := .type "tuple", data := .seq #[.str y ty, .int (x.length : Int) tl] } : Obj)) :: l ∧ (∀ p ∈ l, p.1 < D) ∧ y.cps.toList = stripL (x.cps.toList.drop i.toNat) ∧ y.length ≤ x.length) := by
  unfold Ctr
  have hrow := PySem.Challenge.rw_rh0268_01
  k_fill
  k_with_none
  w_top off
  intro l x t i ti hx hi0 hi1 hpl dp un gd cn cs a ccd cl outer A₀ base h₀ L m s Q E B F X N T hk hdp hun hret
  refine wpAny_call ?_
  k_dflt cell_enter
  k_steps
  unfold Stop
  refine' Ctr.use (bb_ok _ _ _ _ _ _ _ _ _ hx hi0 hi1) ?k1 ?k2 ?k3 ?k4 ?k5 ?kK ?kd ?ku ?kR
  (case k1 => k_asm); (case k2 => k_asm); (case k3 => k_asm); (case k4 => k_asm); (case k5 => k_asm); (case kK => first | exact rfl | assumption); (case kd => ktr_room); (case ku => ktr_units)
  rintro _ _ h' tk' F' N' ⟨t, rfl, rfl⟩
  have hq := no_quote hpl hi0 (a := i + (nb (x.cps.toList.drop i.toNat) : Int)) (by omega)
  have hnb := nb_le (x.cps.toList.drop i.toNat)
  rw [List.length_drop, len_list] at hnb
  k_steps
  unfold Stop
  generalize hb : i + (nb (x.cps.toList.drop i.toNat) : Int) = b at *
  k_while (fun _ a => b ≤ a ∧ a ≤ x.length) (fun _ a => x.length - a.toNat) "at"
  k_steps
  · rename (_ < (x.length : Int)) => hlt
    rename (_ = false) => hoc
    exact (occ_cc hpl hi0 (by omega) hlt hoc).elim
  unfold Stop
  rename (¬ _ < (x.length : Int)) => hge
  rename (_ ≤ (x.length : Int)) => hle
  k_with "state" => exact ⟨by omega, by omega, ri_start (by omega)⟩
  k_with "state" => exact ⟨by omega, by omega, ri_state (by omega) (by assumption) (by assumption) (by assumption) (by assumption)⟩
  k_while (fun _ e => b ≤ e ∧ e ≤ x.length ∧ rstripL ((x.cps.toList.take e.toNat).drop b.toNat) = rstripL (x.cps.toList.drop b.toNat)) (fun _ e => e.toNat) "end"
  k_steps
  · rename (_ = true) => hoc
    rename (b < _) => hbe
    rename (rstripL _ = _) => hr
    rename (Txt.slice x (some b) (some _)).length ≤ x.length => hsl
    have hlen : _ = (x.length : Int) := Int.le_antisymm hle (Int.not_lt.mp hge)
    subst hlen
    exact hret _ _ _ _ (by assumption) (by assumption) ⟨_, _, _, _, rfl, rfl, by assumption, ri_text hi0 (by omega) (by omega) hb (ri_end1 (by omega) hbe (by assumption) hoc hr), hsl⟩
  · rename (¬ b < _) => hbe
    rename (rstripL _ = _) => hr
    rename (Txt.slice x (some b) (some _)).length ≤ x.length => hsl
    have hlen : _ = (x.length : Int) := Int.le_antisymm hle (Int.not_lt.mp hge)
    subst hlen
    exact hret _ _ _ _ (by assumption) (by assumption) ⟨_, _, _, _, rfl, rfl, by assumption, ri_text hi0 (by omega) (by omega) hb (ri_end2 hbe hr), hsl⟩
end
end Mine

namespace Mine
theorem slice_past (x : Str) (c : Nat) (w : String) (hw : (PySem.Str.ofString w).cps.toList = [c]) : (Txt.slice x (some (x.length : Int)) (some ((x.length : Int) + 1)) == PySem.Str.ofString w) = false := by
  rw [beqS, slice_ft x _ _ (by omega) (by omega), hw, beq_eq_false_iff_ne]
  have h := len_list x
  rw [List.drop_of_length_le (by rw [List.length_take]; omega)]
  exact fun e => by cases e
theorem litC : (PySem.Str.ofString ",").cps.toList = [44] := by decide +kernel
section
local macro_rules | `(tactic| walk_at "pad") => `(tactic| skip)
local macro_rules | `(tactic| walk_at "pad") => `(tactic| skip)
local macro_rules | `(tactic| walk_at "pad") => `(tactic| skip)
local macro_rules | `(tactic| walk_at "pad") => `(tactic| skip)
local macro_rules | `(tactic| walk_at "pad") => `(tactic| skip)
local macro_rules | `(tactic| walk_at "call ref") => `(tactic| (k_here; refine stop_of ?_))
local macro_rules | `(tactic| walk_at "exec While") => `(tactic| (k_here; k_dflt (refine whl_start 100 ?_)))
local macro_rules | `(tactic| walk_at "WhlIf") => `(tactic| (refine stop_of ?_))
set_option maxRecDepth 100000 in
set_option maxHeartbeats 8000000 in
theorem rs_ok (w : World) (mean : ExcName → Option Value) (mg mb : Str → Option Value) : ∀ (l : List (Addr × Obj)) (x : Str) (t : Tok) (i : Int) (ti : Tok), x.length ≤ 100 → 0 ≤ i → i ≤ x.length → Plain (x.cps.toList.drop i.toNat) →
    Ctr w mean mg mb 3 24 104 [.str x t, .int i ti] l (fun v l' => ∃ (D Fd R D0 : Addr) (tl tr ty ty' tl0 : Tok) (y : Str) (n : Nat), v = .ref D ∧ l' = (D, ({ cls := .type "tuple", data := .seq #[.ref Fd, .int (x.length : Int) tl] } : Obj)) :: (Fd, listOf #[.ref R] n) ::
        (R, ({ cls := .type "tuple", data := .seq #[.str (PySem.Str.ofString "raw") tr, .str y ty] } : Obj)) :: (D0, ({ cls := .type "tuple", data := .seq #[.str y ty', .int (x.length : Int) tl0] } : Obj)) :: l ∧
      (∀ p ∈ l, p.1 < D ∧ p.1 < Fd ∧ p.1 < R ∧ p.1 < D0) ∧ D0 < R ∧ R < Fd ∧ Fd < D ∧ y.cps.toList = stripL (x.cps.toList.drop i.toNat) ∧ y.length ≤ x.length) := by
  unfold Ctr
  have hrow := PySem.Challenge.rw_rh0268_01
  k_fill
  k_with_none
  w_top off
  intro l x t i ti hx hi0 hi1 hpl dp un gd cn cs a ccd cl outer A₀ base h₀ L m s Q E B F X N T hk hdp hun hret
  have hs := slice_past x 44 "," litC
  refine wpAny_call ?_
  k_dflt cell_enter
  k_steps
  unfold Stop
  refine' Ctr.use (ri_ok _ _ _ _ _ _ _ _ _ hx hi0 hi1 hpl) ?k1 ?k2 ?k3 ?k4 ?k5 ?kK ?kd ?ku ?kR
  (case k1 => k_asm); (case k2 => k_asm); (case k3 => k_asm); (case k4 => k_asm); (case k5 => k_asm); (case kK => first | exact rfl | assumption); (case kd => ktr_room); (case ku => ktr_units)
  rintro _ _ h' tk' F' N' ⟨D, y, ty, tl, rfl, rfl, hD, hy, hyl⟩
  k_steps
  unfold Stop
  refine WhlIf.no hs ?_
  k_steps
  rename (_ < _ ∧ _ < _ ∧ _ < _ ∧ AllLt _ l) => a3
  rename (_ < _ ∧ _ < _ ∧ AllLt _ l) => a2
  rename (_ < _ ∧ AllLt _ l) => a1
  exact hret _ _ _ _ (by assumption) (by assumption) ⟨_, _, _, D, tl, _, ty, ty, tl, y, _, rfl, rfl, fun p hp => ⟨kst_ltOf a3.2.2.2 p hp, kst_ltOf a2.2.2 p hp, kst_ltOf a1.2 p hp, hD p hp⟩, a1.1, a2.1, a3.1, hy, hyl⟩
end
end Mine

namespace Mine
section
local macro_rules | `(tactic| walk_at "pad") => `(tactic| skip)
local macro_rules | `(tactic| walk_at "pad") => `(tactic| skip)
local macro_rules | `(tactic| walk_at "pad") => `(tactic| skip)
local macro_rules | `(tactic| walk_at "pad") => `(tactic| skip)
local macro_rules | `(tactic| walk_at "pad") => `(tactic| skip)
local macro_rules | `(tactic| walk_at "pad") => `(tactic| skip)
local macro_rules | `(tactic| walk_at "pad") => `(tactic| skip)
local macro_rules | `(tactic| walk_at "call ref") => `(tactic| (k_here; refine stop_of ?_))
local macro_rules | `(tactic| walk_at "my args") => `(tactic| ((case k1 => k_asm); (case k2 => k_asm); (case k3 => k_asm); (case k4 => k_asm); (case k5 => k_asm); (case kK => first | exact rfl | assumption); (case kd => ktr_room); (case ku => ktr_units)))
set_option maxRecDepth 100000 in
set_option maxHeartbeats 8000000 in
theorem rt_ok (w : World) (mean : ExcName → Option Value) (mg mb : Str → Option Value) : ∀ (l : List (Addr × Obj)) (x y : Str) (t u : Tok) (ti : Tok) (r r' : List Nat), x.length ≤ 100 → y.length ≤ 100 → x.cps.toList = [32, 68, 65, 84, 65, 32] ++ r → y.cps.toList = [32, 68, 65, 84, 65, 32] ++ r' → Plain r →
    Ctr w mean mg mb 4 32 111 [.str x t, .str y u, .int 1 ti] l (fun v l' => ∃ (D Li W1 R : Addr) (tl tw td tr ty : Tok) (z : Str) (n : Nat), v = .ref D ∧ l' = (D, ({ cls := .type "tuple", data := .seq #[.ref Li, .int (x.length : Int) tl] } : Obj)) :: (Li, listOf #[.ref W1, .ref R] n) ::
        (W1, ({ cls := .type "tuple", data := .seq #[.str (PySem.Str.ofString "word") tw, .str (PySem.Str.ofString "DATA") td] } : Obj)) :: (R, ({ cls := .type "tuple", data := .seq #[.str (PySem.Str.ofString "raw") tr, .str z ty] } : Obj)) :: l ∧
      (∀ p ∈ l, p.1 < D ∧ p.1 < Li ∧ p.1 < W1 ∧ p.1 < R) ∧ R < W1 ∧ W1 < Li ∧ Li < D ∧ z.cps.toList = stripL r ∧ z.length ≤ x.length) := by
  unfold Ctr
  have hrow := PySem.Challenge.rw_rh0268_01
  k_fill
  k_with_none
  w_top off
  intro l x y t u ti r r' hx hy hxl hyl hpl dp un gd cn cs a ccd cl outer A₀ base h₀ L m s Q E B F X N T hk hdp hun hret
  have hy6 : 6 ≤ y.length := by rw [← len_list, hyl, List.length_append]; simp
  have hx6 : 6 ≤ x.length := by rw [← len_list, hxl, List.length_append]; simp
  have hD : Txt.item y 1 = PySem.Str.ofString "D" := by
    rw [item_sg (by decide) (by omega)]
    unfold sg
    rw [hyl]
    show (⟨#[68]⟩ : Str) = _
    decide +kernel
  have f1 : (Txt.item y 1 == PySem.Str.ofString "\"") = false := by rw [hD]; decide +kernel
  have f2 : (PySem.Builtin.Str.occurrences (PySem.Str.ofString "0123456789") (Txt.item y 1) 0 (PySem.Str.ofString "0123456789").length 1).isEmpty = true := by rw [hD]; decide +kernel
  have f3 : (PySem.Builtin.Str.occurrences (PySem.Str.ofString "?'") (Txt.item y 1) 0 (PySem.Str.ofString "?'").length 1).isEmpty = true := by rw [hD]; decide +kernel
  refine wpAny_call ?_
  k_dflt cell_enter
  k_steps
  unfold Stop
  refine' Ctr.use (wa_ok _ _ _ _ _ _ _ _ _ hy (by decide) (by decide)) ?k1 ?k2 ?k3 ?k4 ?k5 ?kK ?kd ?ku ?kR
  (case k1 => k_asm); (case k2 => k_asm); (case k3 => k_asm); (case k4 => k_asm); (case k5 => k_asm); (case kK => first | exact rfl | assumption); (case kd => ktr_room); (case ku => ktr_units)
  rintro _ _ h' tk' F' N' ⟨⟨t, rfl⟩, rfl⟩
  rw [wa_data y r' hyl]
  have hlD : (PySem.Str.ofString "DATA").length = 4 := by decide +kernel
  k_steps
  unfold Stop
  have hp5 : Plain (x.cps.toList.drop (1 + ((4 : Nat) : Int)).toNat) := by
    rw [hxl]
    show Plain (32 :: r)
    intro c hc
    rcases List.mem_cons.mp hc with rfl | hc
    · decide
    · exact hpl c hc
  have hs5 : stripL (x.cps.toList.drop (1 + ((4 : Nat) : Int)).toNat) = stripL r := by
    rw [hxl]
    show stripL (32 :: r) = stripL r
    unfold stripL
    rw [List.dropWhile_cons_of_pos (by decide)]
  refine' Ctr.use (rs_ok _ _ _ _ _ _ _ _ _ hx (by decide) (by omega) hp5) ?l1 ?l2 ?l3 ?l4 ?l5 ?lK ?ld ?lu ?lR
  (case l1 => k_asm); (case l2 => k_asm); (case l3 => k_asm); (case l4 => k_asm); (case l5 => k_asm); (case lK => first | exact rfl | assumption); (case ld => ktr_room); (case lu => ktr_units)
  rintro _ _ h' tk' F' N' ⟨D, Fd, R, D0, tl, tr, ty, ty', tl0, z, n, rfl, rfl, hlt, h1, h2, h3, hz, hzl⟩
  rw [hs5] at hz
  k_steps
  rename (_ < _ ∧ _ < _ ∧ _ < _ ∧ _ < _ ∧ _ < _ ∧ _ < _ ∧ _ < _ ∧ AllLt _ _) => a8
  rename (_ < _ ∧ _ < _ ∧ _ < _ ∧ _ < _ ∧ _ < _ ∧ _ < _ ∧ AllLt _ _) => a7
  rename (_ < _ ∧ _ < _ ∧ _ < _ ∧ _ < _ ∧ AllLt _ _) => a5
  obtain ⟨b1, b2, b3, b4, b5, b6, b7, b8⟩ := a8
  obtain ⟨c1, c2, c3, c4, c5, c6, c7⟩ := a7
  obtain ⟨d1, d2, d3, d4, d5⟩ := a5
  refine hret _ _ _ _ (by assumption) (KStt.news_of (by assumption) ?_) ⟨_, _, _, R, tl, tk, tk + 1, tr, ty, z, 0, rfl, rfl, fun p hp => ⟨kst_ltOf b8 p hp, kst_ltOf c7 p hp, kst_ltOf d5 p hp, (hlt p hp).2.2.1⟩, d3, c2, b1, hz, hzl⟩
  intro p hp
  rcases List.mem_cons.mp hp with h | hp
  · exact h ▸ List.Mem.head _
  rcases List.mem_cons.mp hp with h | hp
  · exact h ▸ List.Mem.tail _ (List.Mem.head _)
  rcases List.mem_cons.mp hp with h | hp
  · exact h ▸ List.Mem.tail _ (List.Mem.tail _ (List.Mem.tail _ (List.Mem.head _)))
  rcases List.mem_cons.mp hp with h | hp
  · exact h ▸ List.Mem.tail _ (List.Mem.tail _ (List.Mem.tail _ (List.Mem.tail _ (List.Mem.tail _ (List.Mem.tail _ (List.Mem.head _))))))
  · exact List.Mem.tail _ (List.Mem.tail _ (List.Mem.tail _ (List.Mem.tail _ (List.Mem.tail _ (List.Mem.tail _ (List.Mem.tail _ (List.Mem.tail _ hp)))))))
end
end Mine

namespace Mine
section
local macro_rules | `(tactic| walk_at "pad") => `(tactic| skip)
local macro_rules | `(tactic| walk_at "pad") => `(tactic| skip)
local macro_rules | `(tactic| walk_at "pad") => `(tactic| skip)
local macro_rules | `(tactic| walk_at "pad") => `(tactic| skip)
local macro_rules | `(tactic| walk_at "pad") => `(tactic| skip)
local macro_rules | `(tactic| walk_at "pad") => `(tactic| skip)
local macro_rules | `(tactic| walk_at "pad") => `(tactic| skip)
local macro_rules | `(tactic| walk_at "call ref") => `(tactic| (k_here; refine stop_of ?_))
local macro_rules | `(tactic| walk_at "exec While") => `(tactic| (k_here; k_dflt (refine whl_start 100 ?_)))
local macro_rules | `(tactic| walk_at "WhlIf") => `(tactic| (refine stop_of ?_))
set_option maxRecDepth 100000 in
set_option maxHeartbeats 8000000 in
theorem tk_ok (w : World) (mean : ExcName → Option Value) (mg mb : Str → Option Value) : ∀ (l : List (Addr × Obj)) (x : Str) (t : Tok) (r : List Nat), x.length ≤ 60 → x.cps.toList = [32, 68, 65, 84, 65, 32] ++ r → Plain r → (∀ c ∈ r, c < 128) →
    Ctr w mean mg mb 5 40 118 [.str x t] l (fun v l' => ∃ (Fl W1 R : Addr) (tw td tr ty : Tok) (z : Str) (n : Nat), v = .ref Fl ∧ l' = (Fl, listOf #[.ref W1, .ref R] n) ::
        (W1, ({ cls := .type "tuple", data := .seq #[.str (PySem.Str.ofString "word") tw, .str (PySem.Str.ofString "DATA") td] } : Obj)) :: (R, ({ cls := .type "tuple", data := .seq #[.str (PySem.Str.ofString "raw") tr, .str z ty] } : Obj)) :: l ∧
      (∀ p ∈ l, @LT.lt Nat _ p.1 Fl ∧ @LT.lt Nat _ p.1 W1 ∧ @LT.lt Nat _ p.1 R) ∧ @LT.lt Nat _ Fl R ∧ @LT.lt Nat _ R W1 ∧ z.cps.toList = stripL r ∧ z.length ≤ x.length) := by
  unfold Ctr
  have hrow := PySem.Challenge.rw_rh0268_01
  k_fill
  k_with_none
  w_top off
  intro l x t r hx hxl hpl h128 dp un gd cn cs a ccd cl outer A₀ base h₀ L m s Q E B F X N T hk hdp hun hret
  have hx6 : 6 ≤ x.length := by rw [← len_list, hxl, List.length_append]; simp
  have hx128 : ∀ c ∈ x.cps.toList, c < 128 := by
    intro c hc
    rw [hxl] at hc
    rcases List.mem_append.mp hc with h | h
    · exact (show ∀ c ∈ [32, 68, 65, 84, 65, 32], c < 128 by decide) c h
    · exact h128 c h
  refine wpAny_call ?_
  k_dflt cell_enter
  k_steps
  unfold Stop
  refine' Ctr.use (gt_ok _ _ _ _ _ _ _ hx hx128) ?k1 ?k2 ?k3 ?k4 ?k5 ?kK ?kd ?ku ?kR
  (case k1 => k_asm); (case k2 => k_asm); (case k3 => k_asm); (case k4 => k_asm); (case k5 => k_asm); (case kK => first | exact rfl | assumption); (case kd => ktr_room); (case ku => ktr_units)
  rintro _ _ h' tk' F' N' ⟨⟨t, rfl⟩, rfl⟩
  k_steps
  unfold Stop
  refine' Ctr.use (bb_ok _ _ _ _ _ _ _ _ _ (by omega) (by decide) (by omega)) ?l1 ?l2 ?l3 ?l4 ?l5 ?lK ?ld ?lu ?lR
  (case l1 => k_asm); (case l2 => k_asm); (case l3 => k_asm); (case l4 => k_asm); (case l5 => k_asm); (case lK => first | exact rfl | assumption); (case ld => ktr_room); (case lu => ktr_units)
  have hn1 : (0 : Int) + (nb (x.cps.toList.drop (0 : Int).toNat) : Int) = 1 := by
    rw [hxl]
    show (0 : Int) + (nb (32 :: 68 :: (65 :: 84 :: 65 :: 32 :: r)) : Int) = 1
    rw [nb_bl (by decide), nb_no (by decide)]
    rfl
  rw [hn1]
  rintro _ _ h' tk' F' N' ⟨t, rfl, rfl⟩
  k_steps
  unfold Stop
  refine WhlIf.yes (decide_eq_true (by omega)) ?_
  k_steps
  unfold Stop
  have hyl : (⟨(x.cps.toList.map gr).toArray⟩ : Str).cps.toList = [32, 68, 65, 84, 65, 32] ++ r.map gr := by
    rw [hxl]
    show ([32, 68, 65, 84, 65, 32] ++ r).map gr = _
    rw [List.map_append]
    rfl
  have hyn : (⟨(x.cps.toList.map gr).toArray⟩ : Str).length ≤ 100 := by
    show (x.cps.toList.map gr).toArray.size ≤ 100
    rw [List.size_toArray, List.length_map, len_list]
    omega
  refine' Ctr.use (rt_ok _ _ _ _ _ _ _ _ _ _ _ _ (by omega) hyn hxl hyl hpl) ?m1 ?m2 ?m3 ?m4 ?m5 ?mK ?md ?mu ?mR
  (case m1 => k_asm); (case m2 => k_asm); (case m3 => k_asm); (case m4 => k_asm); (case m5 => k_asm); (case mK => first | exact rfl | assumption); (case md => ktr_room); (case mu => ktr_units)
  rintro _ _ h' tk' F' N' ⟨D, Li, W1, R, tl, tw, td, tr, ty, z, n, rfl, rfl, hlt, h1, h2, h3, hz, hzl⟩
  have q2 := hlt _ (List.Mem.tail _ (List.Mem.head _))
  have q1 := hlt _ (List.Mem.head _)
  dsimp only at q1 q2
  have e1 := ltN q2.1
  have e2 := ltN q2.2.1
  have e3 := ltN q2.2.2.1
  have e4 := ltN q2.2.2.2
  have kMk := kstMark
  k_steps
  unfold Stop
  refine' Ctr.use (bb_ok _ _ _ _ _ _ _ _ _ (by omega) (by omega) (Int.le_refl _)) ?n1 ?n2 ?n3 ?n4 ?n5 ?nK ?nd ?nu ?nR
  (case n1 => k_asm); (case n2 => k_asm); (case n3 => k_asm); (case n4 => k_asm); (case n5 => k_asm); (case nK => first | exact rfl | assumption); (case nd => ktr_room); (case nu => ktr_units)
  have hn2 : (x.length : Int) + (nb (x.cps.toList.drop (x.length : Int).toNat) : Int) = x.length := by
    rw [drop_end (Int.le_refl _), nb_nil]
    omega
  rw [hn2]
  rintro _ _ h' tk' F' N' ⟨t, rfl, rfl⟩
  k_steps
  unfold Stop
  refine WhlIf.no (decide_eq_false (by omega)) ?_
  k_steps
  rename (∀ p ∈ l, p.1 < _) => hl1
  refine hret _ _ _ _ (by assumption) (KStt.news_of (by assumption) ?_) ⟨_, W1, R, tw, td, tr, ty, z, (0 + 1), rfl, rfl, fun p hp => ⟨hl1 p hp, ltN (hlt p (List.Mem.tail _ (List.Mem.tail _ hp))).2.2.1, ltN (hlt p (List.Mem.tail _ (List.Mem.tail _ hp))).2.2.2⟩, e4, h1, hz, hzl⟩
  intro p hp
  rcases List.mem_cons.mp hp with h | hp
  · exact h ▸ List.Mem.tail _ (List.Mem.tail _ (List.Mem.tail _ (List.Mem.tail _ (List.Mem.tail _ (List.Mem.head _)))))
  rcases List.mem_cons.mp hp with h | hp
  · exact h ▸ List.Mem.tail _ (List.Mem.tail _ (List.Mem.head _))
  rcases List.mem_cons.mp hp with h | hp
  · exact h ▸ List.Mem.tail _ (List.Mem.tail _ (List.Mem.tail _ (List.Mem.head _)))
  · exact List.Mem.tail _ (List.Mem.tail _ (List.Mem.tail _ (List.Mem.tail _ (List.Mem.tail _ (List.Mem.tail _ hp)))))
end
end Mine

namespace Mine
theorem sn_state {x : Str} {a n : Int} (i0 : Txt.item x 0 = ⟨#[49]⟩) (i1 : Txt.item x 1 = ⟨#[48]⟩) (i2 : Txt.item x 2 = ⟨#[32]⟩) (hI : (a = 0 ∧ n = 0) ∨ (a = 1 ∧ n = 1) ∨ (a = 2 ∧ n = 10))
    (h1 : ¬ (Txt.item x a).cps.toList < (PySem.Str.ofString "0").cps.toList) :
    (a + 1 = 0 ∧ (if 65529 + 1 < n * 10 + ((Txt.item x a).cps.getD 0 0 : Int) - 48 then 65529 + 1 else n * 10 + ((Txt.item x a).cps.getD 0 0 : Int) - 48) = 0) ∨
    (a + 1 = 1 ∧ (if 65529 + 1 < n * 10 + ((Txt.item x a).cps.getD 0 0 : Int) - 48 then 65529 + 1 else n * 10 + ((Txt.item x a).cps.getD 0 0 : Int) - 48) = 1) ∨
    (a + 1 = 2 ∧ (if 65529 + 1 < n * 10 + ((Txt.item x a).cps.getD 0 0 : Int) - 48 then 65529 + 1 else n * 10 + ((Txt.item x a).cps.getD 0 0 : Int) - 48) = 10) := by
  rw [lit0] at h1
  rcases hI with ⟨rfl, rfl⟩ | ⟨rfl, rfl⟩ | ⟨rfl, rfl⟩
  · right; left; rw [i0]; decide
  · right; right; rw [i1]; decide
  · exfalso; rw [i2] at h1; exact h1 ((one_lt 32 48).mpr (by decide))
theorem sn_lo {x : Str} {a n : Int} (i0 : Txt.item x 0 = ⟨#[49]⟩) (i1 : Txt.item x 1 = ⟨#[48]⟩) (hI : (a = 0 ∧ n = 0) ∨ (a = 1 ∧ n = 1) ∨ (a = 2 ∧ n = 10))
    (h1 : (Txt.item x a).cps.toList < (PySem.Str.ofString "0").cps.toList) : a = 2 ∧ n = 10 := by
  rw [lit0] at h1
  rcases hI with ⟨rfl, rfl⟩ | ⟨rfl, rfl⟩ | h
  · exfalso; rw [i0] at h1; have := (one_lt 49 48).mp h1; omega
  · exfalso; rw [i1] at h1; have := (one_lt 48 48).mp h1; omega
  · exact h
theorem sn_hi {x : Str} {a n : Int} (i0 : Txt.item x 0 = ⟨#[49]⟩) (i1 : Txt.item x 1 = ⟨#[48]⟩) (i2 : Txt.item x 2 = ⟨#[32]⟩) (hI : (a = 0 ∧ n = 0) ∨ (a = 1 ∧ n = 1) ∨ (a = 2 ∧ n = 10))
    (h1 : (PySem.Str.ofString "9").cps.toList < (Txt.item x a).cps.toList) : False := by
  rw [lit9] at h1
  rcases hI with ⟨rfl, rfl⟩ | ⟨rfl, rfl⟩ | ⟨rfl, rfl⟩
  · rw [i0] at h1; have := (one_lt 57 49).mp h1; omega
  · rw [i1] at h1; have := (one_lt 57 48).mp h1; omega
  · rw [i2] at h1; have := (one_lt 57 32).mp h1; omega
section
local macro_rules | `(tactic| walk_at "pad") => `(tactic| skip)
local macro_rules | `(tactic| walk_at "pad") => `(tactic| skip)
local macro_rules | `(tactic| walk_at "pad") => `(tactic| skip)
local macro_rules | `(tactic| walk_at "pad") => `(tactic| skip)
local macro_rules | `(tactic| walk_at "pad") => `(tactic| skip)
local macro_rules | `(tactic| walk_at "pad") => `(tactic| skip)
local macro_rules | `(tactic| walk_at "pad") => `(tactic| skip)
local macro_rules | `(tactic| walk_at "pad") => `(tactic| skip)
local macro_rules | `(tactic| walk_at "pad") => `(tactic| skip)
local macro_rules | `(tactic| walk_at "call ref") => `(tactic| (k_here; refine stop_of ?_))
local macro_rules | `(tactic| walk_at "exec While") => `(tactic| (k_here; refine stop_of ?_))
set_option maxRecDepth 100000 in
set_option maxHeartbeats 8000000 in
theorem sn_ok (w : World) (mean : ExcName → Option Value) (mg mb : Str → Option Value) : ∀ (l : List (Addr × Obj)) (x : Str) (t : Tok) (r : List Nat), x.length ≤ 60 → x.cps.toList = [49, 48, 32, 68, 65, 84, 65, 32] ++ r →
    Ctr w mean mg mb 2 16 179 [.str x t] l (fun v l' => ∃ (D D0 : Addr) (o0 : Obj) (tn ty : Tok) (y : Str), v = .ref D ∧ l' = (D, ({ cls := .type "tuple", data := .seq #[.int 10 tn, .str y ty] } : Obj)) :: (D0, o0) :: l ∧
      (∀ p ∈ l, @LT.lt Nat _ p.1 D ∧ @LT.lt Nat _ p.1 D0) ∧ @LT.lt Nat _ D0 D ∧ y.cps.toList = [32, 68, 65, 84, 65, 32] ++ r ∧ y.length ≤ x.length) := by
  unfold Ctr
  have hrow := PySem.Challenge.rw_rh0268_01
  k_fill
  k_with_none
  w_top off
  intro l x t r hx hxl dp un gd cn cs a ccd cl outer A₀ base h₀ L m s Q E B F X N T hk hdp hun hret
  have hx8 : 8 ≤ x.length := by rw [← len_list, hxl, List.length_append]; simp
  have i0 : Txt.item x 0 = ⟨#[49]⟩ := by rw [item_sg (by decide) (by omega)]; unfold sg; rw [hxl]; rfl
  have i1 : Txt.item x 1 = ⟨#[48]⟩ := by rw [item_sg (by decide) (by omega)]; unfold sg; rw [hxl]; rfl
  have i2 : Txt.item x 2 = ⟨#[32]⟩ := by rw [item_sg (by decide) (by omega)]; unfold sg; rw [hxl]; rfl
  refine wpAny_call ?_
  k_dflt cell_enter
  k_steps
  unfold Stop
  refine' Ctr.use (bb_ok _ _ _ _ _ _ _ _ _ (by omega) (by decide) (by omega)) ?l1 ?l2 ?l3 ?l4 ?l5 ?lK ?ld ?lu ?lR
  (case l1 => k_asm); (case l2 => k_asm); (case l3 => k_asm); (case l4 => k_asm); (case l5 => k_asm); (case lK => first | exact rfl | assumption); (case ld => ktr_room); (case lu => ktr_units)
  have hn1 : (0 : Int) + (nb (x.cps.toList.drop (0 : Int).toNat) : Int) = 0 := by
    rw [hxl]
    show (0 : Int) + (nb (49 :: (48 :: 32 :: 68 :: 65 :: 84 :: 65 :: 32 :: r)) : Int) = 0
    rw [nb_no (by decide)]
    rfl
  rw [hn1]
  rintro _ _ h' tk' F' N' ⟨t, rfl, rfl⟩
  k_steps
  unfold Stop
  k_while (fun _ a n => (a = 0 ∧ n = 0) ∨ (a = 1 ∧ n = 1) ∨ (a = 2 ∧ n = 10)) (fun _ a _ => (3 - a).toNat) "at" "number"
  k_with "state" => exact sn_state i0 i1 i2 (by assumption) (by assumption)
  k_steps
  all_goals rename (_ ∨ _ ∨ _) => hI
  all_goals first
    | (rename ((PySem.Str.ofString "9").cps.toList < _) => hhi
       exact (sn_hi i0 i1 i2 hI hhi).elim)
    | (rename (_ < (PySem.Str.ofString "0").cps.toList) => hlo
       obtain ⟨h1, h2⟩ := sn_lo i0 i1 hI hlo
       subst h1
       subst h2
       first
         | (rename ((2 : Int) = 0) => hz; exact absurd hz (by decide))
         | skip)
  rename (_ < _ ∧ AllLt _ _) => a1
  rename (∀ p : Addr × Obj, p ∈ _ → p.1 < _) => a0
  have hy : (Txt.slice x (some 2) none).cps.toList = [32, 68, 65, 84, 65, 32] ++ r := by
    rw [slice_from x 2 (by decide), hxl]
    rfl
  exact hret _ _ _ _ (by assumption) (by assumption) ⟨_, _, _, _, _, _, rfl, rfl, fun p hp => ⟨kst_ltOf a1.2 p hp, a0 p hp⟩, a1.1, hy, Txt.slice_le x _ _⟩
end
end Mine

namespace Mine
theorem strip_some {x : Str} {c : Nat} {l : List Nat} (h : x.cps.toList = c :: l) (hc : isBl c = false) : (Txt.stripChars x (PySem.Str.ofString " \t") == PySem.Str.ofString "") = false := by
  rw [beqS, strip_eq, litE, beq_eq_false_iff_ne, h]
  unfold stripL
  rw [List.dropWhile_cons_of_neg (by rw [hc]; exact Bool.false_ne_true)]
  unfold rstripL
  intro e
  have hall : ∀ l : List Nat, l.dropWhile isBl = [] → ∀ c ∈ l, isBl c = true := by
    intro l
    induction l with
    | nil => intro _ c hc; cases hc
    | cons a r ih =>
      intro h c hc
      cases ha : isBl a with
      | false => rw [List.dropWhile_cons_of_neg (by rw [ha]; exact Bool.false_ne_true)] at h; cases h
      | true =>
        rw [List.dropWhile_cons_of_pos ha] at h
        rcases List.mem_cons.mp hc with rfl | hc
        · exact ha
        · exact ih h c hc
  have e2 := congrArg List.reverse e
  rw [List.reverse_reverse, List.reverse_nil] at e2
  have := hall _ e2 c (by simp)
  rw [hc] at this
  cases this
theorem allLt_mono {a b : Addr} : ∀ {l : List (Addr × Obj)}, AllLt a l → @LT.lt Nat _ a b → AllLt b l
  | [], _, _ => trivial
  | _ :: _, h, e => ⟨Nat.lt_trans h.1 e, allLt_mono h.2 e⟩
section
local macro_rules | `(tactic| walk_at "pad") => `(tactic| skip)
local macro_rules | `(tactic| walk_at "pad") => `(tactic| skip)
local macro_rules | `(tactic| walk_at "pad") => `(tactic| skip)
local macro_rules | `(tactic| walk_at "pad") => `(tactic| skip)
local macro_rules | `(tactic| walk_at "pad") => `(tactic| skip)
local macro_rules | `(tactic| walk_at "pad") => `(tactic| skip)
local macro_rules | `(tactic| walk_at "pad") => `(tactic| skip)
local macro_rules | `(tactic| walk_at "pad") => `(tactic| skip)
local macro_rules | `(tactic| k_room) => `(tactic| ktr_room)
local macro_rules | `(tactic| k_units) => `(tactic| units_room)
local macro_rules | `(tactic| walk_at "call ref") => `(tactic| (k_here; (with_reducible show wpAny _ _ (PySem.call (Value.ref 179) _) _ _ _); refine stop_of ?_))
local macro_rules | `(tactic| walk_at "call ref") => `(tactic| (k_here; (with_reducible show wpAny _ _ (PySem.call (Value.ref 118) _) _ _ _); refine stop_of ?_))
local macro_rules | `(tactic| walk_at "pyIter ref") => `(tactic| (k_here; refine stop_of ?_))
local macro_rules | `(tactic| walk_at "call builtin:str.split") => `(tactic| (k_here; refine stop_of ?_))
set_option maxRecDepth 100000 in
set_option maxHeartbeats 8000000 in
theorem ea_ok (w : World) (mean : ExcName → Option Value) (mg mb : Str → Option Value) : ∀ (l : List (Addr × Obj)) (x : Str) (t : Tok) (r : List Nat) (pA dA nA rA : Addr) (t1 t2 : Tok) (n0 n1 n2 : Nat), x.length ≤ 60 → x.cps.toList = [49, 48, 32, 68, 65, 84, 65, 32] ++ r → Plain r → (∀ c ∈ r, c < 128) → (∀ c ∈ r, c ≠ 10) →
    AllLt dA l → @LT.lt Nat _ dA pA → @LT.lt Nat _ pA nA → @LT.lt Nat _ nA rA →
    Ctr w mean mg mb 9 80 193 [.ref pA, .str x t] ((rA, listOf [].toArray n2) :: (nA, listOf [].toArray n1) :: (pA, instObj 147 dA) :: (dA, dictOf [⟨PyData.keyHash w.params (PySem.Str.ofString "numbers"), .str (PySem.Str.ofString "numbers") t1, .ref nA⟩, ⟨PyData.keyHash w.params (PySem.Str.ofString "rows"), .str (PySem.Str.ofString "rows") t2, .ref rA⟩] n0) :: l) (fun v l' => ∃ (Fl W1 R : Addr) (tn tw td tr tz : Tok) (z : Str) (m1 m2 n : Nat), v = .none ∧
        l' = (rA, listOf #[.ref Fl] m2) :: (nA, listOf #[.int 10 tn] m1) :: (pA, instObj 147 dA) :: (dA, dictOf [⟨PyData.keyHash w.params (PySem.Str.ofString "numbers"), .str (PySem.Str.ofString "numbers") t1, .ref nA⟩, ⟨PyData.keyHash w.params (PySem.Str.ofString "rows"), .str (PySem.Str.ofString "rows") t2, .ref rA⟩] n0) :: (Fl, listOf #[.ref W1, .ref R] n) ::
        (W1, ({ cls := .type "tuple", data := .seq #[.str (PySem.Str.ofString "word") tw, .str (PySem.Str.ofString "DATA") td] } : Obj)) :: (R, ({ cls := .type "tuple", data := .seq #[.str (PySem.Str.ofString "raw") tr, .str z tz] } : Obj)) :: l ∧
        (∀ p ∈ l, @LT.lt Nat _ p.1 Fl ∧ @LT.lt Nat _ p.1 W1 ∧ @LT.lt Nat _ p.1 R) ∧ @LT.lt Nat _ rA Fl ∧ @LT.lt Nat _ Fl R ∧ @LT.lt Nat _ R W1 ∧ z.cps.toList = stripL r ∧ z.length ≤ 60) := by
  unfold Ctr
  have hrow := PySem.Challenge.rw_rh0268_01
  k_fill
  k_with_none
  w_top off
  intro l x t r pA dA nA rA t1 t2 n0 n1 n2 hx hxl hpl h128 h10 hal hdp' hpn hnr dp un gd cn cs a ccd cl outer A₀ base h₀ L m s Q E B F X N T hk hdp hun hret
  have kMk := kstMark
  have hal1 : AllLt pA l := allLt_mono hal hdp'
  have hal2 : AllLt nA l := allLt_mono hal1 hpn
  have hal3 : AllLt rA l := allLt_mono hal2 hnr
  refine wpAny_call ?_
  k_dflt cell_enter
  k_steps
  unfold Stop
  have hst := strip_some hxl (by decide)
  have hst' : (Txt.stripChars x (PySem.Str.ofString " \t") != PySem.Str.ofString "") = true := by rw [bne, hst]; rfl
  have hsp := split_eq x (by
    rw [hxl]
    intro h
    rcases List.mem_append.mp h with h | h
    · exact absurd h (by decide)
    · exact h10 _ h rfl)
  refine KSpl.split1 (by k_asm) (by k_asm) (by decide) ?_ (by rw [PySem.sizeLine_eq]; omega)
  intro D' l' h' k' e' a' F' N' l1
  k_lt l1
  rw [hsp] at e'
  obtain ⟨t', l'', rfl, hl''⟩ := KSpl.cons_of e'
  obtain rfl := KSpl.nil_of hl''
  simp only [strValues, List.map_cons, List.map_nil] at N' a'
  k_steps
  unfold Stop
  refine iter_listUnr (ax := D') (lo := listOf #[.str x t'] 0) (vs := [.str x t']) rfl F' N' (List.Mem.head _) rfl rfl ?_
  intro I l2
  k_lt l2
  refine ListRest.succ (fun it h' tk' hit F' N' => ?_)
  k_steps
  unfold Stop
  refine' Ctr.use (sn_ok _ _ _ _ _ _ _ _ hx hxl) ?k1 ?k2 ?k3 ?k4 ?k5 ?kK ?kd ?ku ?kR
  (case k1 => k_asm); (case k2 => k_asm); (case k3 => k_asm); (case k4 => k_asm); (case k5 => k_asm); (case kK => first | exact rfl | assumption); (case kd => ktr_room); (case ku => ktr_units)
  rintro _ _ h' tk' F' N' ⟨D1, D2, o2, tn, ty, y, rfl, rfl, hlt, hD12, hyl, hyn⟩
  have q1 := hlt _ (List.Mem.head _)
  have q2 := hlt _ (List.Mem.tail _ (List.Mem.head _))
  have q3 := hlt _ (List.Mem.tail _ (List.Mem.tail _ (List.Mem.head _)))
  have q4 := hlt _ (List.Mem.tail _ (List.Mem.tail _ (List.Mem.tail _ (List.Mem.head _))))
  have q5 := hlt _ (List.Mem.tail _ (List.Mem.tail _ (List.Mem.tail _ (List.Mem.tail _ (List.Mem.head _)))))
  have q6 := hlt _ (List.Mem.tail _ (List.Mem.tail _ (List.Mem.tail _ (List.Mem.tail _ (List.Mem.tail _ (List.Mem.head _))))))
  have q7 : ∀ p ∈ l, @LT.lt Nat _ p.1 D1 ∧ @LT.lt Nat _ p.1 D2 := fun p hp => hlt p (List.Mem.tail _ (List.Mem.tail _ (List.Mem.tail _ (List.Mem.tail _ (List.Mem.tail _ (List.Mem.tail _ hp))))))
  clear hlt
  dsimp only at q1 q2 q3 q4 q5 q6
  k_steps
  unfold Stop
  refine' Ctr.use (tk_ok _ _ _ _ _ _ _ _ (by omega) hyl hpl h128) ?l1 ?l2 ?l3 ?l4 ?l5 ?lK ?ld ?lu ?lR
  (case l1 => k_asm); (case l2 => k_asm); (case l3 => k_asm); (case l4 => k_asm); (case l5 => k_asm); (case lK => first | exact rfl | assumption); (case ld => ktr_room); (case lu => ktr_units)
  rintro _ _ h' tk' F' N' ⟨Fl, W1, R, tw, td, tr, tz, z, n, rfl, rfl, hlt, hF1, hR1, hz, hzl⟩
  have r1 := hlt _ (List.Mem.tail _ (List.Mem.tail _ (List.Mem.head _)))
  have r2 := hlt _ (List.Mem.tail _ (List.Mem.tail _ (List.Mem.tail _ (List.Mem.head _))))
  have r3 := hlt _ (List.Mem.tail _ (List.Mem.tail _ (List.Mem.tail _ (List.Mem.tail _ (List.Mem.head _)))))
  have r4 := hlt _ (List.Mem.tail _ (List.Mem.tail _ (List.Mem.tail _ (List.Mem.tail _ (List.Mem.tail _ (List.Mem.head _))))))
  have r5 := hlt _ (List.Mem.tail _ (List.Mem.tail _ (List.Mem.tail _ (List.Mem.tail _ (List.Mem.tail _ (List.Mem.tail _ (List.Mem.head _)))))))
  have r6 := hlt _ (List.Mem.tail _ (List.Mem.tail _ (List.Mem.tail _ (List.Mem.tail _ (List.Mem.tail _ (List.Mem.tail _ (List.Mem.tail _ (List.Mem.head _))))))))
  have r7 : ∀ p ∈ l, @LT.lt Nat _ p.1 Fl ∧ @LT.lt Nat _ p.1 W1 ∧ @LT.lt Nat _ p.1 R := fun p hp => hlt p (List.Mem.tail _ (List.Mem.tail _ (List.Mem.tail _ (List.Mem.tail _ (List.Mem.tail _ (List.Mem.tail _ (List.Mem.tail _ (List.Mem.tail _ hp))))))))
  clear hlt
  dsimp only at r1 r2 r3 r4 r5 r6
  k_steps
  refine UnrEnd.intro (by assumption) (by assumption) ((D', listOf #[.str x t'] 0) :: (rA, listOf #[.ref Fl] (n2 + 1)) :: (nA, listOf #[.int 10 tn] (n1 + 1)) :: (pA, instObj 147 dA) :: (dA, dictOf [⟨PyData.keyHash w.params (PySem.Str.ofString "numbers"), .str (PySem.Str.ofString "numbers") t1, .ref nA⟩, ⟨PyData.keyHash w.params (PySem.Str.ofString "rows"), .str (PySem.Str.ofString "rows") t2, .ref rA⟩] n0) :: (Fl, listOf #[.ref W1, .ref R] n) ::
        (W1, ({ cls := .type "tuple", data := .seq #[.str (PySem.Str.ofString "word") tw, .str (PySem.Str.ofString "DATA") td] } : Obj)) :: (R, ({ cls := .type "tuple", data := .seq #[.str (PySem.Str.ofString "raw") tr, .str z tz] } : Obj)) :: l) ?_ ?_ ⟨List.Mem.head _, ?_⟩
  · iterate 9 refine List.forall_mem_cons.mpr ⟨by k_mem, ?_⟩
    intro p hp
    (repeat (first | exact hp | refine List.Mem.tail _ ?_))
  · iterate 8 refine List.forall_mem_cons.mpr ⟨by k_ne, ?_⟩
    exact fun p hp => Nat.ne_of_lt (kst_ltOf l2.2.2.2.2.2 p hp)
  refine ListRest.zero (fun h'' tk'' F'' N'' => ?_)
  k_steps
  exact hret _ _ _ _ (by assumption) (KStt.news_of (by assumption) (fun p hp => List.Mem.tail _ hp)) ⟨Fl, W1, R, tn, tw, td, tr, tz, z, _, _, n, rfl, rfl, r7, r3.1, hF1, hR1, hz, by omega⟩
end
end Mine

namespace Mine
section
local macro_rules | `(tactic| walk_at "pad") => `(tactic| skip)
local macro_rules | `(tactic| walk_at "pad") => `(tactic| skip)
local macro_rules | `(tactic| walk_at "pad") => `(tactic| skip)
local macro_rules | `(tactic| walk_at "pad") => `(tactic| skip)
local macro_rules | `(tactic| walk_at "pad") => `(tactic| skip)
local macro_rules | `(tactic| walk_at "pad") => `(tactic| skip)
local macro_rules | `(tactic| walk_at "pad") => `(tactic| skip)
local macro_rules | `(tactic| walk_at "pad") => `(tactic| skip)
local macro_rules | `(tactic| walk_at "pad") => `(tactic| skip)
local macro_rules | `(tactic| walk_at "pad") => `(tactic| skip)
local macro_rules | `(tactic| walk_at "pad") => `(tactic| skip)
local macro_rules | `(tactic| walk_at "pad") => `(tactic| skip)
local macro_rules | `(tactic| k_room) => `(tactic| ktr_room)
local macro_rules | `(tactic| k_units) => `(tactic| units_room)
local macro_rules | `(tactic| walk_at "exec For Tuple Call cons nil") => `(tactic| (k_here; (rename Fr _ _ _ _ => lF'); (with_unfolding_all refine' For_turns lF' ?_; k_whole)))
set_option maxRecDepth 100000 in
set_option maxHeartbeats 8000000 in
theorem do_ok (w : World) (mean : ExcName → Option Value) (mg mb : Str → Option Value) : ∀ (x1 x2 x3 : Addr) (o1 o2 o3 : Obj) (pA dA nA rA Fl W1 R : Addr) (t1 t2 tn tw td tr tz : Tok) (z : Str) (n0 m1 m2 n : Nat), z.length ≤ 60 →
    @LT.lt Nat _ x1 dA → @LT.lt Nat _ x2 dA → @LT.lt Nat _ x3 dA → @LT.lt Nat _ dA pA → @LT.lt Nat _ pA nA → @LT.lt Nat _ nA rA → @LT.lt Nat _ rA Fl → @LT.lt Nat _ Fl R → @LT.lt Nat _ R W1 →
    Ctr w mean mg mb 2 80 125 [.ref pA] ((rA, listOf #[.ref Fl] m2) :: (nA, listOf #[.int 10 tn] m1) :: (pA, instObj 147 dA) :: (dA, dictOf [⟨PyData.keyHash w.params (PySem.Str.ofString "numbers"), .str (PySem.Str.ofString "numbers") t1, .ref nA⟩, ⟨PyData.keyHash w.params (PySem.Str.ofString "rows"), .str (PySem.Str.ofString "rows") t2, .ref rA⟩] n0) :: (Fl, listOf #[.ref W1, .ref R] n) ::
        (W1, ({ cls := .type "tuple", data := .seq #[.str (PySem.Str.ofString "word") tw, .str (PySem.Str.ofString "DATA") td] } : Obj)) :: (R, ({ cls := .type "tuple", data := .seq #[.str (PySem.Str.ofString "raw") tr, .str z tz] } : Obj)) :: (x1, o1) :: (x2, o2) :: (x3, o3) :: []) (fun v l' => ∃ (Fd D : Addr) (ta tb : Tok), v = .ref Fd ∧
        l' = (D, ({ cls := .type "tuple", data := .seq #[.int 10 ta, .str z tb] } : Obj)) :: (Fd, listOf #[.ref D] 1) :: (x1, o1) :: (x2, o2) :: (x3, o3) :: [] ∧
        @LT.lt Nat _ Fd D ∧ @LT.lt Nat _ x1 Fd ∧ @LT.lt Nat _ x2 Fd ∧ @LT.lt Nat _ x3 Fd) := by
  unfold Ctr
  have hrow := PySem.Challenge.rw_rh0268_01
  k_fill
  k_with_none
  w_top off
  intro x1 x2 x3 o1 o2 o3 pA dA nA rA Fl W1 R t1 t2 tn tw td tr tz z n0 m1 m2 n hz hx1 hx2 hx3 hdp' hpn hnr hrf hfr hrw dp un gd cn cs a ccd cl outer A₀ base h₀ L m s Q E B F X N T hk hdp hun hret
  have kMk := kstMark
  refine wpAny_call ?_
  k_dflt cell_enter
  k_steps
  have fd : ∀ {a b : Addr} {p q : Obj} {h₁ : Heap} {l : List (Addr × Obj)}, News h₀ L h₁ ((a, p) :: (b, q) :: (rA, listOf #[.ref Fl] m2) :: (nA, listOf #[.int 10 tn] m1) :: (pA, instObj 147 dA) :: (dA, dictOf [⟨PyData.keyHash w.params (PySem.Str.ofString "numbers"), .str (PySem.Str.ofString "numbers") t1, .ref nA⟩, ⟨PyData.keyHash w.params (PySem.Str.ofString "rows"), .str (PySem.Str.ofString "rows") t2, .ref rA⟩] n0) :: (Fl, listOf #[.ref W1, .ref R] n) ::
        (W1, ({ cls := .type "tuple", data := .seq #[.str (PySem.Str.ofString "word") tw, .str (PySem.Str.ofString "DATA") td] } : Obj)) :: (R, ({ cls := .type "tuple", data := .seq #[.str (PySem.Str.ofString "raw") tr, .str z tz] } : Obj)) :: l) → News h₀ L h₁ ((a, p) :: (b, q) :: l) := by
    intro a b p q h₁ l N q' hq
    refine N q' ?_
    rcases List.mem_cons.mp hq with h | hq
    · exact h ▸ List.Mem.head _
    rcases List.mem_cons.mp hq with h | hq
    · exact h ▸ List.Mem.tail _ (List.Mem.head _)
    · exact List.Mem.tail _ (List.Mem.tail _ (List.Mem.tail _ (List.Mem.tail _ (List.Mem.tail _ (List.Mem.tail _ (List.Mem.tail _ (List.Mem.tail _ (List.Mem.tail _ hq))))))))
  exact hret _ _ _ _ (by assumption) (fd (by assumption)) ⟨_, _, _, _, rfl, rfl, by omega, by omega, by omega, by omega⟩
end
end Mine

namespace Mine
section
local macro_rules | `(tactic| walk_at "pyIter ref") => `(tactic| (k_here; (with_reducible show wpAny _ _ (pyIter (Value.ref _)) (fun it s₂ => LoopAtV _ _ _ _ _ _ _ _ _ it s₂) _ _); refine stop_of ?_))
local macro_rules | `(tactic| walk_at "pyIter str") => `(tactic| (k_here; (with_reducible show wpAny _ _ (pyIter (Value.str _ _)) (fun it s₂ => LoopAtV _ _ _ _ _ _ _ _ _ it s₂) _ _); refine stop_of ?_))
local macro_rules | `(tactic| walk_at "call ref") => `(tactic| (k_here; (with_reducible show wpAny _ _ (PySem.call (Value.ref 200) _) _ _ _); refine stop_of ?_))
local macro_rules | `(tactic| walk_at "call ref") => `(tactic| (k_here; (with_reducible show wpAny _ _ (PySem.call (Value.ref 193) _) _ _ _); refine stop_of ?_))
local macro_rules | `(tactic| walk_at "call ref") => `(tactic| (k_here; (with_reducible show wpAny _ _ (PySem.call (Value.ref 125) _) _ _ _); refine stop_of ?_))
local macro_rules | `(tactic| walk_at "call ref") => `(tactic| (k_here; (with_reducible show wpAny _ _ (PySem.call (Value.ref 130) _) _ _ _); refine stop_of ?_))
local macro_rules | `(tactic| walk_at "call ref") => `(tactic| (k_here; (with_reducible show wpAny _ _ (PySem.call (Value.ref 205) _) _ _ _); refine stop_of ?_))
local macro_rules | `(tactic| walk_at "subscriptTail") => `(tactic| (k_here; (with_reducible show wpAny _ _ (subscriptTail (PySem.Expr.List _ _) _ (Value.ref _) (Value.int _ _)) _ _ _); refine stop_of ?_))
local macro_rules | `(tactic| walk_at "execs cons") => `(tactic| (k_here; (with_reducible show wpAny _ _ (execs (Stmt.If _ _ _ _ :: Stmt.Assign _ _ _ :: _) _) _ _ _); refine stop_of ?_))
local macro_rules | `(tactic| walk_at "exec For Name BinOp cons nil") => `(tactic| (k_here; (rename Fr _ _ _ _ => lF'); (with_unfolding_all refine' For_invVF lF' ?k1 ?k2 ?_; (case k1 => exact rfl); (case k2 => exact rfl); k_whole)))
local macro_rules | `(tactic| walk_at "compareOp NotEq ref ref") => `(tactic| (k_here; refine stop_of ?_))
local macro_rules | `(tactic| walk_at "InvEndN") => `(tactic| (refine stop_of ?_))
local macro_rules | `(tactic| walk_at "UnrEnd") => `(tactic| (refine stop_of ?_))
local macro_rules | `(tactic| walk_at "my args") => `(tactic| (first
  | k_asm
  | exact rfl
  | assumption
  | ktr_room
  | ktr_units))
theorem rained_use (w : World) (mean : ExcName → Option Value) (mg mb : Str → Option Value) {l rest : List (Addr × Obj)} {dA iA : Addr} {vs : List Value} {ns : List Int} {n1 n2 : Nat} {k many : Int} {tk tm : Tok}
    (hR : Rem dA (listOf [.ref iA, .int k tk].toArray n1) l rest) (hm : (iA, listOf vs.toArray n2) ∈ rest) (hne : ∀ p ∈ rest, p.1 ≠ dA) (hi : IntsAre vs ns) (hl : ns.length < 100) (h0 : 0 ≤ k) (h1 : k < 1000) (h2 : 0 < many) (h3 : many < 1000) :
    Ctr w mean mg mb 1 8 200 [.ref dA, .int many tm] l (fun v l' => ∃ r t t2, 0 ≤ r ∧ r < many ∧ v = .int r t ∧ l' = (dA, listOf [.ref iA, .int (k+1) t2].toArray n1) :: rest) :=
  rained_ok w mean mg mb l rest dA iA vs ns n1 n2 k many tk tm hR hm hne hi hl h0 h1 h2 h3
local macro_rules | `(tactic| walk_at "my rain") => `(tactic| (unfold Stop; refine' Ctr.use (rained_use _ _ _ _ ?kr ?km ?kn ?ki ?kl ?k0 ?k1 ?k2 ?k3) ?kB ?kF ?kX ?kN ?kT ?kK ?kd ?ku ?kR; (case kB => k_asm); (case kF => k_asm); (case kX => k_asm); (case kN => k_asm); (case kT => k_asm); (case kK => first | exact rfl | assumption); (case kd => first | decide | ktr_room); (case ku => first | (rw [cLine_is]; decide) | ktr_units); (case kr => first | exact Rem.head | exact Rem.tail (Rem.head) | exact Rem.tail (Rem.tail (Rem.head)) | exact Rem.tail (Rem.tail (Rem.tail (Rem.head))) | exact Rem.tail (Rem.tail (Rem.tail (Rem.tail (Rem.head)))) | exact Rem.tail (Rem.tail (Rem.tail (Rem.tail (Rem.tail (Rem.head))))) | exact Rem.tail (Rem.tail (Rem.tail (Rem.tail (Rem.tail (Rem.tail (Rem.head)))))) | exact Rem.tail (Rem.tail (Rem.tail (Rem.tail (Rem.tail (Rem.tail (Rem.tail (Rem.head))))))) | exact Rem.tail (Rem.tail (Rem.tail (Rem.tail (Rem.tail (Rem.tail (Rem.tail (Rem.tail (Rem.head))))))))); (case km => k_mem); (case kn => ((repeat (refine List.forall_mem_cons.mpr ⟨by first | exact Nat.ne_of_lt (by with_reducible assumption) | exact Nat.ne_of_gt (by with_reducible assumption) | exact Nat.ne_of_gt (And.left (by with_reducible assumption)) | k_ne, ?_⟩)); first | exact List.forall_mem_nil _ | exact OwnOff.ne (by assumption) (by k_memK))); (case ki => assumption); (case kl => assumption); (case k0 => omega); (case k1 => omega); (case k2 => omega); (case k3 => omega)))
set_option maxRecDepth 100000 in
set_option maxHeartbeats 16000000 in
theorem law_ok : PySem.Challenge.rw_rh0268_01.Holds := hd (by
  k_go0; (all_goals try k_fold)
  k_with_none
  k_steps
  unfold Stop
  have hex : ∃ ns, IntsAre _ ns ∧ ns.length < 100 := ⟨_, (by assumption : IntsAre _ (List.map _ (List.take 40 _))), by
    rw [List.length_map]
    exact Nat.lt_of_le_of_lt (List.length_take_le 40 _) (by decide)⟩
  obtain ⟨ns, hiA, hns⟩ := hex
  rename (IsRange _ _ _ _ _ _ _ _) => rgX
  rename (Fr _ _ _ _) => lF'
  rename (News _ _ _ _) => lN'
  rename (_ < _ ∧ _ < _) => hlt
  obtain ⟨dA, iA, tc0, hN, hF, hdi⟩ : ∃ dA iA tc0, News _ _ _ ((dA, listOf [Value.ref iA, Value.int 0 tc0].toArray 0) :: (iA, LCg.lst _) :: _) ∧ Fr _ _ _ (fun y => if y = PySem.Str.ofString "drum" then some (Value.ref dA) else List.lookup y _) ∧ @LT.lt Nat _ iA dA := ⟨_, _, _, lN', lF', hlt.1⟩
  clear lF' lN' hlt
  refine iter_rangeUnr (n := 3) rfl rgX (by decide) (by decide) hF hN ?_
  intro I lI
  have hI1 : @LT.lt Nat _ dA I := lI _ (List.Mem.head _)
  have hI2 : @LT.lt Nat _ iA I := lI _ (List.Mem.tail _ (List.Mem.head _))
  clear lI
  refine range_sub (l := [(dA, listOf [Value.ref iA, Value.int 0 tc0].toArray 0), (iA, LCg.lst ys)]) (fun p hp => ?_) ?_
  · rcases List.mem_cons.mp hp with h | hp
    · exact h ▸ List.Mem.head _
    · exact (List.mem_singleton.mp hp) ▸ List.Mem.tail _ (List.Mem.head _)
  refine range_ind (m₀ := fun y => if y = PySem.Str.ofString "drum" then some (Value.ref dA) else List.lookup y _) [PySem.Str.ofString "turn", PySem.Str.ofString "told", PySem.Str.ofString "at", PySem.Str.ofString "text", PySem.Str.ofString "one", PySem.Str.ofString "program", PySem.Str.ofString "items"]
    (fun c tc => [(dA, listOf [Value.ref iA, Value.int c tc].toArray 0), (iA, LCg.lst ys)]) (fun i c => 0 ≤ c ∧ c ≤ 40 * (i : Int)) (by decide +kernel) ?_ ?_ 0 tc0 (by decide)
  · intro i u c tc hi hB t h tk F' N'
    obtain ⟨hc0, hc1⟩ := hB
    clear hF hN rgX
    have kMk := kstMark
    k_steps
    walk_at "my rain"
    rintro _ _ h' tk' F' N' ⟨r, t, t2, hr0, hr1, rfl, rfl⟩
    k_steps
    unfold Stop
    refine' item_strs (fun x => Alph x 1) ?kN ?km ?k0 ?k1 ?k2 ?ka ?kh ?ks
    case kN => k_asm
    case km => k_mem
    case k0 => exact hr0
    case k1 => exact hr1
    case k2 => simp
    case ks => with_unfolding_all rfl
    case ka =>
      intro v hv
      simp only [List.mem_cons, List.not_mem_nil, or_false] at hv
      rcases hv with rfl | rfl | rfl <;> exact ⟨_, _, rfl, alph_lits _ (by simp)⟩
    intro told tt htold
    k_steps
    walk_at "my rain"
    rintro _ _ h' tk' F' N' ⟨n7, t, t2, h70, h71, rfl, rfl⟩
    k_steps
    unfold Stop
    rename (IsRange _ _ _ _ _ _ _ _) => rg
    rename (Fr _ _ _ _) => lF'
    rename (News _ _ _ _) => lN'
    refine kst_range (σ := Str × Nat × Int × Nat) (n := (n7 - 0).toNat) (fun s => [(dA, listOf [Value.ref iA, Value.int s.2.2.1 s.2.2.2].toArray 0), (I, itR (0 + ((i + 1 : Nat) : Int)) (((3 : Nat) : Int) - ((i + 1 : Nat) : Int))), (iA, LCg.lst ys)])
      (fun s => [(PySem.Str.ofString "told", .str s.1 s.2.1)]) (fun _ => True) [] (fun pre s => Alph s.1 (1 + pre.length) ∧ 0 ≤ s.2.2.1 ∧ s.2.2.1 ≤ c + 2 + pre.length) (told, tt, c + 1 + 1, t2) rfl rg (small_one (by omega) (by omega) (by omega) (by omega)) (rangeSize_nat _ _) lF' (KStt.news_of lN' ?_) trivial ?_ ?_ ?_ ?_
    · intro p hp
      simp only [List.mem_cons, List.not_mem_nil, or_false] at hp
      rcases hp with rfl | rfl | rfl <;> k_mem
    · intro p hp
      rw [List.mem_singleton.mp hp]
      rfl
    · exact ⟨htold, by show 0 ≤ c + 1 + 1; omega, by show c + 1 + 1 ≤ _; simp; omega⟩
    · intro s pre k t u h tk own hk hlt hoff _ hP F' N'
      clear lF' lN' rg
      obtain ⟨hP1, hP2, hP3⟩ := hP
      dsimp only [kstB] at F'
      simp only [List.cons_append, List.nil_append] at N'
      dsimp only [List.map] at hoff
      have hlen := hP1.2
      k_steps
      walk_at "my rain"
      rintro _ _ h' tk' F' N' ⟨r, t, t2, hr0, hr1, rfl, rfl⟩
      have hdg := alph_digit hr0 hr1
      have hdl := hdg.2
      k_steps
      unfold Stop
      k_with "state" => exact ⟨by rw [List.length_append, List.length_singleton]; exact (hP1.append hdg).mono (by omega), by omega, by rw [List.length_append, List.length_singleton]; omega⟩
      kst_close
    · intro s u h tk _ hP F' N'
      clear lF' lN' rg
      dsimp only [kstB] at F'
      obtain ⟨hP1, hP2, hP3⟩ := hP
      rw [rangeKs_length] at hP1 hP3
      have hA : Alph s.1 7 := hP1.mono (by omega)
      k_steps
      walk_at "my rain"
      rintro _ _ h' tk' F' N' ⟨r8, t, t2, h80, h81, rfl, rfl⟩
      k_steps
      unfold Stop
      refine' item_strs (fun x => Alph x 7) ?jN ?jm ?j0 ?j1 ?j2 ?ja ?jh ?js
      case jN => k_asm
      case jm => k_mem
      case j0 => exact h80
      case j1 => exact h81
      case j2 => simp
      case js => with_unfolding_all rfl
      case ja =>
        intro v hv
        simp only [List.mem_cons, List.not_mem_nil, or_false] at hv
        rcases hv with rfl | rfl | rfl | rfl | rfl | rfl | rfl | rfl
        all_goals first
          | exact ⟨_, _, rfl, hA⟩
          | exact ⟨_, _, rfl, alph_nums _ (by simp)⟩
      intro told2 tt2 htold2
      have hlen2 := htold2.2
      k_steps
      unfold Stop
      rename (Fr _ _ _ _) => lF'
      rename (News _ _ _ _) => lN'
      refine if_join (fun x c' => Alph x 8 ∧ 0 ≤ c' ∧ c' ≤ c + 12) (fun c' tc' => [(dA, listOf [Value.ref iA, Value.int c' tc'].toArray 0), (I, itR (0 + ((i + 1 : Nat) : Int)) (((3 : Nat) : Int) - ((i + 1 : Nat) : Int))), (iA, LCg.lst ys)]) lF' ?_ ?_
      · intro J hJ
        k_steps
        walk_at "my rain"
        rintro _ _ h' tk' F' N' ⟨r5, t, t2, h50, h51, rfl, rfl⟩
        k_steps
        · walk_at "my rain"
          rintro _ _ h' tk' F' N' ⟨ra, t, t2, ha0, ha1, rfl, rfl⟩
          k_steps
          walk_at "my rain"
          rintro _ _ h' tk' F' N' ⟨r4, t, t2, h40, h41, rfl, rfl⟩
          have hodd := alph_odd h40 h41
          have hol := hodd.2
          k_steps
          rename (Fr _ _ _ _) => lF2
          rename (News _ _ _ _) => lN2
          refine hJ _ _ _ _ (s.2.2.1 + 1 + 1 + 1 + 1) t2 (fun _ => some (.int ra _)) ⟨alph_put htold2 hodd ha0 (by omega), by omega, by omega⟩ lF2 (KStt.news_of lN2 fun p hp => ?_)
          simp only [List.mem_cons, List.not_mem_nil, or_false] at hp
          rcases hp with rfl | rfl | rfl <;> k_mem
        · rename (Fr _ _ _ _) => lF2
          rename (News _ _ _ _) => lN2
          refine hJ _ _ _ _ (s.2.2.1 + 1 + 1) t2 _ ⟨htold2.mono (by omega), by omega, by omega⟩ (fr_told rfl lF2) (KStt.news_of lN2 fun p hp => ?_)
          simp only [List.mem_cons, List.not_mem_nil, or_false] at hp
          rcases hp with rfl | rfl | rfl <;> k_mem
      · intro h tk told3 tt3 c3 tc3 ua hR3 F' N'
        obtain ⟨hA3, hc30, hc31⟩ := hR3
        have hl3 := hA3.2
        k_steps
        unfold Stop
        rename (Fr _ _ _ _) => lF'
        rename (News _ _ _ _) => lN'
        obtain ⟨tt0, htt0⟩ := fr_str (y := PySem.Str.ofString "text") (x := PySem.Str.ofString "") lF' rfl
        with_unfolding_all refine' KStt.kst_text (σ := Str × Nat × Int × Nat) (fun s => [(dA, listOf [Value.ref iA, Value.int s.2.2.1 s.2.2.2].toArray 0), (I, itR (0 + ((i + 1 : Nat) : Int)) (((3 : Nat) : Int) - ((i + 1 : Nat) : Int))), (iA, LCg.lst ys)]) (fun s => [(PySem.Str.ofString "text", .str s.1 s.2.1)]) (fun _ => True) [] (fun pre s => TextP (pre.map Int.toNat) s.1 ∧ 0 ≤ s.2.2.1 ∧ s.2.2.1 ≤ c + 12 + pre.length) (PySem.Str.ofString "", tt0, c3, tc3) (by rfl) lF' ?kn trivial ?_ ?_ ?_ ?_
        case kn =>
          refine KStt.news_of lN' ?_
          intro p hp
          simp only [List.mem_cons, List.not_mem_nil, or_false] at hp
          rcases hp with rfl | rfl | rfl <;> k_mem
        · intro p hp
          rw [List.mem_singleton.mp hp]
          exact htt0
        · exact ⟨textP_nil, hc30, by show c3 ≤ _; simp; omega⟩
        · intro s pre post n t u h tk own hcode hoff _ hP F' N'
          clear lF' lN'
          obtain ⟨hT, hb0, hb1⟩ := hP
          dsimp only [kstB] at F'
          simp only [List.cons_append, List.nil_append] at N'
          dsimp only [List.map] at hoff
          have hn := alph_dot hA3 (code_mem hcode)
          have hpl := code_len hcode
          rw [dot_len] at hpl
          have htl := hT.2.2.1
          rw [List.length_map] at htl
          have hs1 : s.fst.length ≤ 36 := by omega
          k_steps
          walk_at "my rain"
          rintro _ _ h' tk' F' N' ⟨r, t, t2, hr0, hr1, rfl, rfl⟩
          k_steps
          unfold Stop
          refine' item_strs (fun x => (∀ d ∈ x.cps.toList, isBl d = true) ∧ x.length ≤ 3) ?zjN ?zjm ?zj0 ?zj1 ?zj2 ?zja ?zjh ?zjs
          case zjN => k_asm
          case zjm => k_mem
          case zj0 => exact hr0
          case zj1 => exact hr1
          case zj2 => simp
          case zjs => with_unfolding_all rfl
          case zja =>
            intro v hv
            simp only [List.mem_cons, List.not_mem_nil, or_false] at hv
            rcases hv with rfl | rfl | rfl | rfl | rfl <;> exact ⟨_, _, rfl, blank_lits _ (by simp)⟩
          intro pad tp hpad
          have hpad3 := hpad.2
          k_steps
          unfold Stop
          k_with "state" => exact ⟨textP_more hT hpad hn, by omega, by rw [List.length_append, List.length_singleton]; omega⟩
          kst_close
        · intro s u h tk _ hP F' N'
          clear lF' lN'
          obtain ⟨hT, hb0, hb1⟩ := hP
          dsimp only [kstB] at F'
          rw [codes_nat, append_list, litDot] at hT
          rw [codes_len, dot_len] at hb1
          have hE := textP_end hT hA3.2
          have htl := hT.2.2.1
          rw [List.length_append, List.length_singleton, len_list] at htl
          have hs1 : s.fst.length ≤ 36 := by omega
          k_steps
          unfold Stop
          rename (News _ _ _ _) => lN'
          have lN2 := drop1 lN'
          refine' Ctr.use (ea_ok _ _ _ _ _ _ _ (Txt.slice s.fst none (some (-1))).cps.toList _ _ _ _ _ _ _ _ _ ?x1 ?x2 ?x3 ?x4 ?x5 ?x6 ?x7 ?x8 ?x9) ?kB ?kF ?kX ?kN ?kT ?kK ?kd ?ku ?kR
          case kN => exact lN2
          case kB => k_asm
          case kF => k_asm
          case kX => k_asm
          case kT => k_asm
          case kK => first | exact rfl | assumption
          case kd => first | decide | ktr_room
          case ku => first | (rw [cLine_is]; decide) | ktr_units
          case x1 => rw [head_len]; omega
          case x2 => exact head_list _
          case x3 => exact fun c hc => ⟨(ok_facts (hE.2.1 c hc)).2.1, (ok_facts (hE.2.1 c hc)).2.2.1, (ok_facts (hE.2.1 c hc)).2.2.2.1⟩
          case x4 => exact fun c hc => (ok_facts (hE.2.1 c hc)).1
          case x5 => exact fun c hc => (ok_facts (hE.2.1 c hc)).2.2.2.2
          case x6 => exact all3 (by assumption)
          case x7 => assumption
          case x8 => exact And.left (by assumption)
          case x9 => exact And.left (by assumption)
          case kR =>
            rintro _ _ h' tk' F' N' ⟨Fl, W1, R, tn, tw, td, tr, tz, z, m1, m2, n, rfl, rfl, hlt, hF1, hR1, hW1, hz, hzl⟩
            k_steps
            unfold Stop
            refine' Ctr.use (do_ok _ _ _ _ _ _ _ _ _ _ _ _ _ _ _ _ _ _ _ _ _ _ _ _ _ _ _ _ _ ?y0 ?y1 ?y2 ?y3 ?y4 ?y5 ?y6 ?y7 ?y8 ?y9) ?yB ?yF ?yX ?yN ?yT ?yK ?yd ?yu ?yR
            case yN => k_asm
            case yB => k_asm
            case yF => k_asm
            case yX => k_asm
            case yT => k_asm
            case yK => first | exact rfl | assumption
            case yd => first | decide | ktr_room
            case yu => first | (rw [cLine_is]; decide) | ktr_units
            case y0 => exact hzl
            case y1 => exact And.left (by assumption)
            case y2 => exact And.left (And.right (by assumption))
            case y3 => exact And.right (And.right (by assumption))
            case y4 => assumption
            case y5 => exact And.left (by assumption)
            case y6 => exact And.left (by assumption)
            case y7 => exact hF1
            case y8 => exact hR1
            case y9 => exact hW1
            case yR =>
              rintro _ _ h' tk' F' N' ⟨Fd, D, ta, tb, rfl, rfl, hFD, hf1, hf2, hf3⟩
              clear hlt
              have hzz : z = Txt.stripChars (Txt.slice s.fst none (some (-1))) (PySem.Str.ofString " \t") := strEq (by rw [hz, strip_eq])
              have hE2 : z.cps.toList.filter (fun c => !isBl c) = told3.cps.toList := by rw [hz, filter_strip]; exact hE.1
              have hz128 : ∀ c ∈ z.cps.toList, c < 128 := fun c hc => (ok_facts (hE.2.1 c (mem_strip (hz ▸ hc)))).1
              k_steps
              unfold Stop
              refine ne_items (by k_asm) (by k_mem) (by k_mem) (by k_mem) (by k_mem) hzz hz128 (by ke_room) ?_
              k_steps
              unfold Stop
              refine' Ctr.use (num_ok _ _ _ _ _ _ _ ?a1 ?a2) ?aB ?aF ?aX ?aN ?aT ?aK ?ad ?au ?aR
              (case aB => k_asm); (case aF => k_asm); (case aX => k_asm); (case aN => k_asm); (case aT => k_asm); (case aK => first | exact rfl | assumption); (case ad => first | decide | ktr_room); (case au => first | (rw [cLine_is]; decide) | ktr_units)
              (case a1 => omega); (case a2 => rw [hE.1, len_list]; omega)
              rintro _ _ h' tk' F' N' ⟨ta1, hv1, rfl⟩
              rw [hE.1] at hv1
              subst hv1
              k_steps
              unfold Stop
              refine' Ctr.use (due_ok _ _ _ _ _ _ _ ?b1 ?b2) ?bB ?bF ?bX ?bN ?bT ?bK ?bd ?bu ?bR
              (case bB => k_asm); (case bF => k_asm); (case bX => k_asm); (case bN => k_asm); (case bT => k_asm); (case bK => first | exact rfl | assumption); (case bd => first | decide | ktr_room); (case bu => first | (rw [cLine_is]; decide) | ktr_units)
              (case b1 => omega); (case b2 => exact fun c hc => (isAl_facts (hA3.1 c hc)).2.1)
              rintro _ _ h' tk' F' N' ⟨tb1, hv2, rfl⟩
              generalize hO : numOf told3.cps.toList = O at hv2 ⊢
              subst hv2
              refine ne_opt ?_
              k_steps
              unfold Stop
              refine' Ctr.use (num_ok _ _ _ _ _ _ _ ?c1 ?c2) ?cB ?cF ?cX ?cN ?cT ?cK ?cd ?cu ?cR
              (case cB => k_asm); (case cF => k_asm); (case cX => k_asm); (case cN => k_asm); (case cT => k_asm); (case cK => first | exact rfl | assumption); (case cd => first | decide | ktr_room); (case cu => first | (rw [cLine_is]; decide) | ktr_units)
              (case c1 => exact hzl); (case c2 => rw [hE2, len_list]; omega)
              rintro _ _ h' tk' F' N' ⟨ta2, hv3, rfl⟩
              rw [hE2, hO] at hv3
              subst hv3
              k_steps
              unfold Stop
              refine' Ctr.use (due_ok _ _ _ _ _ _ _ ?d1 ?d2) ?dB ?dF ?dX ?dN ?dT ?dK ?dd ?du ?dR
              (case dB => k_asm); (case dF => k_asm); (case dX => k_asm); (case dN => k_asm); (case dT => k_asm); (case dK => first | exact rfl | assumption); (case dd => first | decide | ktr_room); (case du => first | (rw [cLine_is]; decide) | ktr_units)
              (case d1 => omega); (case d2 => exact fun c hc => (isAl_facts (hA3.1 c hc)).2.1)
              rintro _ _ h' tk' F' N' ⟨tb2, hv4, rfl⟩
              rw [hO] at hv4
              subst hv4
              refine ne_opt ?_
              k_steps
              unfold Stop
              refine UnrEnd.intro (by assumption) (by assumption) [(dA, listOf [Value.ref iA, Value.int s.2.2.1 s.2.2.2].toArray 0), (iA, LCg.lst ys)] ?sub ?off ⟨_, _, rfl, ⟨by omega, by omega⟩, fun w hw => ?_⟩
              case sub =>
                intro p hp
                simp only [List.mem_cons, List.not_mem_nil, or_false] at hp
                rcases hp with rfl | rfl | rfl <;> k_mem
              case off =>
                intro p hp
                simp only [List.mem_cons, List.not_mem_nil, or_false] at hp
                rcases hp with rfl | rfl
                · exact Nat.ne_of_lt hI1
                · exact Nat.ne_of_lt hI2
              obtain ⟨o1, o2, o3, o4, o5, o6, o7⟩ := off_stored hw
              repeat (refine (if_neg (by first | assumption | exact Bool.false_ne_true | (rw [hw]; exact Bool.false_ne_true))).trans ?_)
              rfl
  · intro u c tc h tk hB F' N'
    k_steps)
end
end Mine

theorem PySem.Challenge.cw_rh0268_01_holds : PySem.Challenge.rw_rh0268_01.Holds := by
  exact Mine.law_ok
